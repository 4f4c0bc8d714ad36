import PyProof.Rows.All
import Wide.All
import OpenK.AllK
import Wide.FinOn
import HandS.ForMost
import HandS.Exc
import HandS.Codes
import HandS.Lambda
import HandS.TupAny
import HandS.TupMul
import HandS.Style
import HandS.IsInst
import PyProof.Rows.IntBool
import HandS.SortInts
import KE.KSortRegAny
import PyProof.ListStr
import HandS.Zip
import HandS.DictComp
import HandS.Replace
import HandS.ExcOwn
import HandS.ExcCtx
import HandS.HotCalls
import HandS.ExcIs
import HandS.NoneIn
import KE.GoesCell
import PyProof.Draws
import HandS.Zip0
import KE.GoesMore
import KE.GoesEnum
import PyProof.EnumFor
import PyProof.Rows.TupIter
import KE.KStateDown
import HandS.Words
import HandS.WordsExc
import HandS.Defaults
import HandS.Head0
import HandS.Head1
import HandS.Head2
import HandS.HeadEnd
import HandS.HeadHook1
import HandS.HeadHook2
import HandS.HeadHook4
import HandS.HeadWalk
import PyProof.ExcBaseAll.ValueError
import PySem.Challenge.RW_fivestates_k01_formulas_and_values
set_option Elab.async false
section
set_option Elab.async false
set_option linter.all false
set_option maxRecDepth 100000
set_option maxHeartbeats 4000000
namespace Fv
open PySem
abbrev Txt := List Nat
/-- data: what a name may hold -/
inductive D where
  | unset | non | bl (b : Bool) | int (i : Int) | str (s : Txt) | tup (xs : List D) | lst (xs : List D)
  | dic (ks : List Txt) (vs : List D) | scr (ns : List Int) | fn (f : Nat) | obj (n : Nat) | clo (l : Nat) (caps : List D)
  deriving Inhabited
inductive Cell where
  | dead | lst (xs : List D) | dic (ks : List Txt) (vs : List D) | ins (c : Nat) (fs : List (Txt × D))
  deriving Inhabited
abbrev Sto := List Cell
abbrev Envd := List D
inductive R (α : Type) where
  | ok (a : α) (s : Sto) | err (x : Nat) (s : Sto) | bad
def R.bind {α β : Type} : R α → (α → Sto → R β) → R β
  | .ok a s, f => f a s
  | .err x s, _ => .err x s
  | .bad, _ => .bad
def R.noErr {α : Type} : R α → R α
  | .ok a s => .ok a s
  | _ => .bad
mutual
def plain : D → Bool
  | .non | .bl _ | .int _ | .str _ => true
  | .tup xs | .lst xs => plains xs
  | _ => false
def plains : List D → Bool
  | [] => true
  | x :: r => plain x && plains r
end
mutual
def dep : D → Nat
  | .tup xs | .lst xs => deps xs + 1
  | _ => 0
def deps : List D → Nat
  | [] => 0
  | x :: r => max (dep x) (deps r)
end
mutual
def eqD : D → D → Bool
  | .non, .non => true
  | .bl a, .bl b => a == b
  | .bl a, .int j => (if a then 1 else 0) == j
  | .int i, .bl b => i == (if b then 1 else 0)
  | .int i, .int j => i == j
  | .str x, .str y => decide (x = y)
  | .lst xs, .lst ys => eqDs xs ys
  | .tup xs, .tup ys => eqDs xs ys
  | _, _ => false
def eqDs : List D → List D → Bool
  | [], [] => true
  | x :: xs, y :: ys => eqD x y && eqDs xs ys
  | _, _ => false
end
def ints? : List D → Option (List Int)
  | [] => some []
  | .int i :: r => (ints? r).map (i :: ·)
  | _ => none
def bls? : List D → Option (List Bool)
  | [] => some []
  | .bl i :: r => (bls? r).map (i :: ·)
  | _ => none
def strs? : List D → Option (List Txt)
  | [] => some []
  | .str i :: r => (strs? r).map (i :: ·)
  | _ => none
mutual
/-- no lambda in it -/
def noClo : D → Bool
  | .clo _ _ => false
  | .tup xs | .lst xs => noClos xs
  | .dic _ vs => noClos vs
  | _ => true
def noClos : List D → Bool
  | [] => true
  | x :: r => noClo x && noClos r
end
def noCloF : List (Txt × D) → Bool
  | [] => true
  | p :: r => noClo p.2 && noCloF r
def noCloC : Cell → Bool
  | .dead => true
  | .lst ds => noClos ds
  | .dic _ ds => noClos ds
  | .ins _ fs => noCloF fs
/-- the content of a list that may change -/
def deref (s : Sto) : D → D
  | .obj n => match s[n]? with
    | some (.lst xs) => .lst xs
    | some (.dic ks vs) => .dic ks vs
    | _ => .obj n
  | d => d
abbrev LIM : Nat := 16777216
def small (i : Int) : Bool := decide (-(2 ^ 64) < i) && decide (i < 2 ^ 64)
def powOk (i j : Int) : Bool := decide (0 ≤ j) && (decide (j ≤ 1000000) && decide (i.natAbs < 2 ^ 64))
def opBl (op : Operator) (b : Bool) (j : Int) (s : Sto) : R D :=
  match op with
  | .Add => .ok (.int ((if b then 1 else 0) + j)) s
  | .Sub => .ok (.int ((if b then 1 else 0) - j)) s
  | _ => .bad
def opBin (op : Operator) (x y : D) (s : Sto) : R D :=
  match op, x, y with
  | .Add, .int i, .int j => .ok (.int (i + j)) s
  | .Add, .str a, .str b => if a.length + b.length ≤ LIM then .ok (.str (a ++ b)) s else .bad
  | .Add, .lst a, .lst b => if a.length + b.length ≤ LIM then .ok (.lst (a ++ b)) s else .bad
  | .Add, .tup a, .tup b => if a.length + b.length ≤ LIM then .ok (.tup (a ++ b)) s else .bad
  | .Sub, .int i, .int j => .ok (.int (i - j)) s
  | .Mult, .int i, .int j => if small i || small j then .ok (.int (i * j)) s else .bad
  | .Mult, .lst a, .int k => if decide (0 ≤ k) && (decide (k ≤ 1000) && decide (a.length ≤ 1000)) then .ok (.lst (List.replicate k.toNat a).flatten) s else .bad
  | .Mult, .tup a, .int k => if decide (2 ≤ k) && (decide (k ≤ 1000) && (decide (a.length ≤ 1000) && !a.isEmpty)) then .ok (.tup (List.replicate k.toNat a).flatten) s else .bad
  | .FloorDiv, .int i, .int j => if decide (0 < j) && decide (j < 1073741824) then .ok (.int (i / j)) s else .bad
  | .Mod, .int i, .int j => if decide (0 < j) then .ok (.int (i % j)) s else .bad
  | .Pow, .int i, .int j => if powOk i j then .ok (.int (i ^ j.toNat)) s else .bad
  | .LShift, .int i, .int j => if powOk i j then .ok (.int (i * 2 ^ j.toNat)) s else .bad
  | .RShift, .int i, .int j => if decide (0 ≤ j) then .ok (.int (i / 2 ^ j.toNat)) s else .bad
  | .BitAnd, .int i, .int j => .ok (.int (Builtin.bitAnd i j)) s
  | .BitOr, .int i, .int j => .ok (.int (Builtin.bitOr i j)) s
  | .BitXor, .int i, .int j => .ok (.int (Builtin.bitXor i j)) s
  | op, .bl b, .int j => opBl op b j s
  | _, _, _ => .bad
def eqOk (x y : D) : Bool := plain x && (plain y && decide (min (dep x) (dep y) ≤ 63))
def inOk (x : D) (ys : List D) : Bool := plain x && (plains ys && decide (dep x ≤ 63))
def opIn (x y : D) (s : Sto) (k : Bool → R D) : R D :=
  match x, deref s y with
  | .str [c], .str b => k (decide (c ∈ b))
  | x, .lst ys => if inOk x ys then k (ys.any fun z => eqD z x) else .bad
  | x, .tup ys => if inOk x ys then k (ys.any fun z => eqD z x) else .bad
  | _, _ => .bad
def isNon : D → Option Bool
  | .unset => none
  | .non => some true
  | _ => some false
def opCmp (op : CmpOp) (x y : D) (s : Sto) : R D :=
  match op with
  | .Eq => if eqOk (deref s x) (deref s y) then .ok (.bl (eqD (deref s x) (deref s y))) s else .bad
  | .NotEq => if eqOk (deref s x) (deref s y) then .ok (.bl (!eqD (deref s x) (deref s y))) s else .bad
  | .Lt => match x, y with
    | .int i, .int j => .ok (.bl (decide (i < j))) s
    | .str a, .str b => .ok (.bl (decide (a < b))) s
    | _, _ => .bad
  | .LtE => match x, y with
    | .int i, .int j => .ok (.bl (decide (i ≤ j))) s
    | _, _ => .bad
  | .Gt => match x, y with
    | .int i, .int j => .ok (.bl (decide (j < i))) s
    | _, _ => .bad
  | .GtE => match x, y with
    | .int i, .int j => .ok (.bl (decide (j ≤ i))) s
    | _, _ => .bad
  | .Is => match x, y with
    | .bl a, .bl b => .ok (.bl (decide (a = b))) s
    | x, .non => match isNon x with
      | some b => .ok (.bl b) s
      | none => .bad
    | _, _ => .bad
  | .IsNot => match x, y with
    | .bl a, .bl b => .ok (.bl (!decide (a = b))) s
    | x, .non => match isNon x with
      | some b => .ok (.bl (!b)) s
      | none => .bad
    | _, _ => .bad
  | .In => opIn x y s fun b => .ok (.bl b) s
  | .NotIn => opIn x y s fun b => .ok (.bl (!b)) s
def maxL : Int → List Int → Int
  | a, [] => a
  | a, b :: r => maxL (if a < b then b else a) r
def insI (a : Int) : List Int → List Int
  | [] => [a]
  | b :: r => if a ≤ b then a :: b :: r else b :: insI a r
def sortI : List Int → List Int
  | [] => []
  | a :: r => insI a (sortI r)
def insT (a : Txt) : List Txt → List Txt
  | [] => [a]
  | b :: r => if b < a then b :: insT a r else a :: b :: r
def sortT : List Txt → List Txt
  | [] => []
  | a :: r => insT a (sortT r)
inductive F1 where
  | len | sum | max | all | any | abs | int | list | tuple | sorted
  deriving DecidableEq
inductive Ty where
  | tuple | str | int | bool
  deriving DecidableEq
def isTy : Ty → D → Option Bool
  | t, .non => some false
  | t, .bl _ => some (decide (t = .bool) || decide (t = .int))
  | t, .int _ => some (decide (t = .int))
  | t, .str _ => some (decide (t = .str))
  | t, .tup _ => some (decide (t = .tuple))
  | t, .lst _ => some false
  | _, _ => none
def opF1 (f : F1) (x : D) (s : Sto) : R D :=
  match f, deref s x with
  | .len, .str a => .ok (.int (a.length : Nat)) s
  | .len, .lst a => .ok (.int (a.length : Nat)) s
  | .len, .tup a => .ok (.int (a.length : Nat)) s
  | .len, .scr a => .ok (.int (a.length : Nat)) s
  | .sum, .lst a => match ints? a with
    | some ns => .ok (.int ns.sum) s
    | none => .bad
  | .max, .lst a => match ints? a with
    | some (n :: ns) => .ok (.int (maxL n ns)) s
    | _ => .bad
  | .all, .lst a => match bls? a with
    | some ns => .ok (.bl (ns.all id)) s
    | none => .bad
  | .any, .lst a => match bls? a with
    | some ns => .ok (.bl (ns.any id)) s
    | none => .bad
  | .abs, .int i => .ok (.int (if i < 0 then -i else i)) s
  | .int, .int i => .ok (.int i) s
  | .int, .bl b => .ok (.int (if b then 1 else 0)) s
  | .list, .lst a => .ok (.lst a) s
  | .list, .tup a => .ok (.lst a) s
  | .list, .str a => .ok (.lst (a.map fun c => .str [c])) s
  | .tuple, .lst a => .ok (.tup a) s
  | .tuple, .tup a => .ok (.tup a) s
  | .sorted, .lst a => match ints? a with
    | some ns => .ok (.lst ((sortI ns).map D.int)) s
    | none => match strs? a with
      | some xs => .ok (.lst ((sortT xs).map D.str)) s
      | none => .bad
  | _, _ => .bad
inductive F2 where
  | max | min
  deriving DecidableEq
def opF2 (f : F2) (x y : D) (s : Sto) : R D :=
  match f, x, y with
  | .max, .int i, .int j => .ok (.int (if j > i then j else i)) s
  | .min, .int i, .int j => .ok (.int (if j < i then j else i)) s
  | _, _, _ => .bad
def lookK : List Txt → List D → Txt → Option D
  | k :: ks, v :: vs, t => if k = t then some v else lookK ks vs t
  | _, _, _ => none
def opAt (x y : D) (s : Sto) : R D :=
  match deref s x, y with
  | .lst a, .int i => match L2.atI a i with
    | some d => .ok d s
    | none => .bad
  | .tup a, .int i => match L2.atI a i with
    | some d => .ok d s
    | none => .bad
  | .str a, .int i => match L2.atI a i with
    | some c => .ok (.str [c]) s
    | none => .bad
  | .scr a, .int i => match L2.atI a i with
    | some c => .ok (.int c) s
    | none => .bad
  | _, _ => .bad
def opDg (x y : D) (s : Sto) : R D :=
  match deref s x, y with
  | .dic ks vs, .str t => match lookK ks vs t with
    | some d => .ok d s
    | none => .bad
  | _, _ => .bad
def isStr : D → Bool
  | .str _ => true
  | _ => false
/-- methods of texts -/
inductive M1 where
  | join | split | index
  deriving DecidableEq
def okTxt (t : Txt) : Bool := t.all (fun c => decide (c < 1114112)) && decide (t.length ≤ LIM)
def opM1 (m : M1) (x y : D) (s : Sto) : R D :=
  match m, x, y with
  | .join, .str a, .lst ds => match strs? ds with
    | some ts => if (ts.map (·.length)).sum + ts.length * a.length ≤ LIM then .ok (.str (TL.joinL a ts)) s else .bad
    | none => .bad
  | .split, .str a, .str b => if b ≠ [] ∧ b.all (· < 256) = true ∧ a.length + 2 ≤ LIM ∧ (TL.spl b 0 [] a).all okTxt = true then .ok (.lst ((TL.spl b 0 [] a).map D.str)) s else .bad
  | .index, .str a, .str b => match Builtin.Str.occurrences (SX.S a) (SX.S b) 0 a.length 1 with
    | i :: _ => .ok (.int (i : Nat)) s
    | [] => .bad
  | _, _, _ => .bad
/-- a part of a list -/
def cutL {α : Type} (xs : List α) (lo hi : Option Int) : List α := (xs.drop (HT.sIx xs.length 0 lo)).take (HT.sIx xs.length xs.length hi - HT.sIx xs.length 0 lo)
def opSl (x : D) (lo hi : Option Int) (s : Sto) : R D :=
  match x with
  | .lst a => .ok (.lst (cutL a lo hi)) s
  | .tup a => .ok (.tup (cutL a lo hi)) s
  | .str a => .ok (.str (cutL a lo hi)) s
  | _ => .bad
inductive Tg where
  | v (i : Nat) | t (ts : List Tg)
mutual
inductive CE where
  | var (i : Nat)
  | non | bl (b : Bool) | int (i : Int) | str (s : Txt)
  | glob (g : Nat)
  | fnv (f : Nat)
  | tup (es : List CE) | lst (es : List CE) | lstN (es : List CE)
  | bin (op : Operator) (a b : CE) | neg (a : CE) | not (a : CE)
  | and (a b : CE) | or (a b : CE)
  | cmp (op : CmpOp) (a b : CE) | chain (o1 o2 : CmpOp) (a b c : CE)
  | ite (c a b : CE)
  | call (f : Nat) (es : List CE) | callV (i : Nat) (es : List CE)
  | f1 (f : F1) (a : CE) | f2 (f : F2) (a b : CE) | isin (a : CE) (t : Ty)
  | idx (a b : CE) | dget (a b : CE) | m1 (m : M1) (a b : CE) | sl (a : CE) (lo hi : Option CE)
  | comp (e : CE) (tg : Tg) (own : List Nat) (it : CI) (c : Option CE) | dcomp (k e : CE) (tg : Tg) (own : List Nat) (it : CI)
  | callL (f l : Nat) (es : List CE)
inductive CI where
  | seq (a : CE) | rng1 (a : CE) | rng2 (a b : CE) | zip (a b : CE) | zip3 (a b c : CE) | enum (a : CE)
end
inductive CS where
  | asg (i : Nat) (e : CE) | asgC (i : Nat) (e : CE) | unp (is : List Tg) (e : CE) | par (is : List Nat) (es : List CE)
  | setIdx (i : Nat) (ix e : CE)
  | expr (e : CE)
  | iff (c : CE) (t e : List CS) | forr (tg : Tg) (it : CI) (b : List CS) | whil (c : CE) (b : List CS)
  | ret (e : CE) | retN | pass | cont | brk
  | raise (x : Nat) | tryN (b : List CS) | tryT (b : List CS)
def callable : D → Bool
  | .fn _ => true
  | .clo _ _ => true
  | _ => false
abbrev Call := D → List D → Sto → R D
inductive Fl where
  | nx (e : Envd) | ret (d : D) | bk (e : Envd) | ct (e : Envd)
def filterMapL (f : D → Sto → R (Option D)) : List D → Sto → R (List D)
  | [], s => .ok [] s
  | d :: r, s => (f d s).bind fun o s1 => (filterMapL f r s1).bind fun ds s2 => .ok (match o with
    | some x => x :: ds
    | none => ds) s2
def dcL (f : D → Sto → R (D × D)) : List D → List Txt → List D → Sto → R D
  | [], ks, vs, s => .ok (.dic ks vs) s
  | d :: r, ks, vs, s => (f d s).bind fun p s1 => match p with
    | (.str k, v) => if k ∈ ks ∨ LIM ≤ ks.length then .bad else dcL f r (ks ++ [k]) (vs ++ [v]) s1
    | _ => .bad
mutual
def bindTg : Tg → D → Envd → Option Envd
  | .v i, d, env => if i < env.length then some (env.set i d) else none
  | .t ts, .tup xs, env => bindTgs ts xs env
  | .t ts, .lst xs, env => bindTgs ts xs env
  | .t _, _, _ => none
def bindTgs : List Tg → List D → Envd → Option Envd
  | [], [], env => some env
  | t :: ts, x :: xs, env => (bindTg t x env).bind fun env1 => bindTgs ts xs env1
  | _, _, _ => none
end
def wipeD (env : Envd) : List Nat → Envd
  | [] => env
  | v :: vs => (wipeD env vs).set v .unset
def itemsOf : D → Option (List D)
  | .lst xs => some xs
  | .tup xs => some xs
  | .str a => some (a.map fun c => .str [c])
  | _ => none
def itemsE : D → Option (List D)
  | .tup _ => none
  | d => itemsOf d
def okRng (i : Int) : Bool := decide (-8388608 ≤ i) && decide (i ≤ 8388608)
def rngL (lo : Int) (n : Nat) : List D := (List.range n).map fun (i : Nat) => D.int (lo + (i : Int))
def zipL : List D → List D → List D
  | x :: xs, y :: ys => .tup [x, y] :: zipL xs ys
  | _, _ => []
def zipL3 : List D → List D → List D → List D
  | x :: xs, y :: ys, z :: zs => .tup [x, y, z] :: zipL3 xs ys zs
  | _, _, _ => []
def enumL : Nat → List D → List D
  | _, [] => []
  | n, x :: xs => .tup [.int (n : Nat), x] :: enumL (n + 1) xs
mutual
def evE (G : Nat → D) (cl : Call) : CE → Envd → Sto → R D
  | .var i, env, s => match env[i]? with
    | some .unset => .bad
    | some d => .ok d s
    | none => .bad
  | .non, _, s => .ok .non s
  | .bl b, _, s => .ok (.bl b) s
  | .int i, _, s => .ok (.int i) s
  | .str t, _, s => .ok (.str t) s
  | .glob g, _, s => .ok (G g) s
  | .fnv f, _, s => .ok (.fn f) s
  | .tup es, env, s => (evEs G cl es env s).bind fun ds s1 => if ds.length ≤ LIM then .ok (.tup ds) s1 else .bad
  | .lst es, env, s => (evEs G cl es env s).bind fun ds s1 => if ds.length ≤ LIM then .ok (.lst ds) s1 else .bad
  | .lstN es, env, s => (evEs G cl es env s).bind fun ds s1 => if ds.length ≤ LIM ∧ noClos ds = true then .ok (.obj s1.length) (s1 ++ [.lst ds]) else .bad
  | .bin op a b, env, s => (evE G cl a env s).bind fun x s1 => (evE G cl b env s1).bind fun y s2 => opBin op x y s2
  | .neg a, env, s => (evE G cl a env s).bind fun x s1 => match x with
    | .int i => .ok (.int (-i)) s1
    | _ => .bad
  | .not a, env, s => (evE G cl a env s).bind fun x s1 => match x with
    | .bl b => .ok (.bl (!b)) s1
    | _ => .bad
  | .and a b, env, s => (evE G cl a env s).bind fun x s1 => match x with
    | .bl true => evE G cl b env s1
    | .bl false => .ok (.bl false) s1
    | _ => .bad
  | .or a b, env, s => (evE G cl a env s).bind fun x s1 => match x with
    | .bl false => evE G cl b env s1
    | .bl true => .ok (.bl true) s1
    | _ => .bad
  | .cmp op a b, env, s => (evE G cl a env s).bind fun x s1 => (evE G cl b env s1).bind fun y s2 => opCmp op x y s2
  | .chain o1 o2 a b c, env, s => (evE G cl a env s).bind fun x s1 => (evE G cl b env s1).bind fun y s2 => (opCmp o1 x y s2).bind fun z s3 => match z with
    | .bl true => (evE G cl c env s3).bind fun w s4 => opCmp o2 y w s4
    | .bl false => .ok (.bl false) s3
    | _ => .bad
  | .ite c a b, env, s => (evE G cl c env s).bind fun x s1 => match x with
    | .bl true => evE G cl a env s1
    | .bl false => evE G cl b env s1
    | _ => .bad
  | .call f es, env, s => (evEs G cl es env s).bind fun ds s1 => cl (.fn f) ds s1
  | .callV i es, env, s => match env[i]? with
    | some d => if callable d then (evEs G cl es env s).bind fun ds s1 => cl d ds s1 else .bad
    | none => .bad
  | .f1 f a, env, s => (evE G cl a env s).bind fun x s1 => opF1 f x s1
  | .f2 f a b, env, s => (evE G cl a env s).bind fun x s1 => (evE G cl b env s1).bind fun y s2 => opF2 f x y s2
  | .isin a t, env, s => (evE G cl a env s).bind fun x s1 => match isTy t x with
    | some b => .ok (.bl b) s1
    | none => .bad
  | .idx a b, env, s => (evE G cl a env s).bind fun x s1 => (evE G cl b env s1).bind fun y s2 => opAt x y s2
  | .dget a b, env, s => (evE G cl a env s).bind fun x s1 => (evE G cl b env s1).bind fun y s2 => opDg x y s2
  | .m1 m a b, env, s => (evE G cl a env s).bind fun x s1 => if isStr x then (evE G cl b env s1).bind fun y s2 => opM1 m x y s2 else .bad
  | .sl a lo hi, env, s => (evE G cl a env s).bind fun x s1 => (evO G cl lo env s1).bind fun l s2 => (evO G cl hi env s2).bind fun h s3 => opSl x l h s3
  | .comp e tg own it c, env, s => (evI G cl it env s).bind fun xs s1 =>
      ((filterMapL (fun x s2 => match bindTg tg x (wipeD env own) with
        | some env1 => (evC G cl c env1 s2).bind fun b s3 => if b then (evE G cl e env1 s3).bind fun y s4 => .ok (some y) s4 else .ok none s3
        | none => .bad) xs s1).noErr).bind fun ys s2 => .ok (.lst ys) s2
  | .dcomp k e tg own it, env, s => (evI G cl it env s).bind fun xs s1 =>
      (dcL (fun x s2 => match bindTg tg x (wipeD env own) with
        | some env1 => (evE G cl k env1 s2).bind fun y s3 => (evE G cl e env1 s3).bind fun z s4 => .ok (y, z) s4
        | none => .bad) xs [] [] s1).noErr
  | .callL f l es, env, s => ((evEs G cl es env s).bind fun ds s1 => (cl (.fn f) (.clo l env :: ds) s1).noErr).bind fun d s2 => if noClo d then .ok d s2 else .bad
def evEs (G : Nat → D) (cl : Call) : List CE → Envd → Sto → R (List D)
  | [], _, s => .ok [] s
  | e :: es, env, s => (evE G cl e env s).bind fun x s1 => (evEs G cl es env s1).bind fun xs s2 => .ok (x :: xs) s2
def evO (G : Nat → D) (cl : Call) : Option CE → Envd → Sto → R (Option Int)
  | none, _, s => .ok none s
  | some e, env, s => (evE G cl e env s).bind fun x s1 => match x with
    | .int i => .ok (some i) s1
    | _ => .bad
def evC (G : Nat → D) (cl : Call) : Option CE → Envd → Sto → R Bool
  | none, _, s => .ok true s
  | some e, env, s => (evE G cl e env s).bind fun x s1 => match x with
    | .bl b => .ok b s1
    | _ => .bad
def evI (G : Nat → D) (cl : Call) : CI → Envd → Sto → R (List D)
  | .seq a, env, s => (evE G cl a env s).bind fun x s1 => match itemsOf x with
    | some xs => .ok xs s1
    | none => .bad
  | .rng1 a, env, s => (evE G cl a env s).bind fun x s1 => match x with
    | .int j => if okRng j then .ok (rngL 0 j.toNat) s1 else .bad
    | _ => .bad
  | .rng2 a b, env, s => (evE G cl a env s).bind fun x s1 => (evE G cl b env s1).bind fun y s2 => match x, y with
    | .int i, .int j => if okRng i && okRng j then .ok (rngL i (j - i).toNat) s2 else .bad
    | _, _ => .bad
  | .zip a b, env, s => (evE G cl a env s).bind fun x s1 => (evE G cl b env s1).bind fun y s2 => match itemsOf x, itemsOf y with
    | some xs, some ys => .ok (zipL xs ys) s2
    | _, _ => .bad
  | .zip3 a b c, env, s => (evE G cl a env s).bind fun x s1 => (evE G cl b env s1).bind fun y s2 => (evE G cl c env s2).bind fun z s3 => match itemsOf x, itemsOf y, itemsOf z with
    | some xs, some ys, some zs => .ok (zipL3 xs ys zs) s3
    | _, _, _ => .bad
  | .enum a, env, s => (evE G cl a env s).bind fun x s1 => match itemsE x with
    | some xs => .ok (enumL 0 xs) s1
    | none => .bad
end
def forL (f : D → Envd → Sto → R Fl) : List D → Envd → Sto → R Fl
  | [], env, s => .ok (.nx env) s
  | d :: r, env, s => (f d env s).bind fun fl s1 => match fl with
    | .nx env1 => forL f r env1 s1
    | .ct env1 => forL f r env1 s1
    | .bk env1 => .ok (.nx env1) s1
    | .ret v => .ok (.ret v) s1
def whileL (c : Envd → Sto → R Bool) (f : Envd → Sto → R Fl) : Nat → Envd → Sto → R Fl
  | 0, _, _ => .bad
  | n + 1, env, s => (c env s).bind fun b s0 => if b then (f env s0).bind fun fl s1 => match fl with
    | .nx env1 => whileL c f n env1 s1
    | .ct env1 => whileL c f n env1 s1
    | .bk env1 => .ok (.nx env1) s1
    | .ret v => .ok (.ret v) s1
    else .ok (.nx env) s0
/-- the most turns of a while -/
def TURNS : Nat := 1000000
def asgAll : List Nat → List D → Envd → Option Envd
  | [], [], env => some env
  | i :: is, d :: ds, env => if i < env.length then asgAll is ds (env.set i d) else none
  | _, _, _ => none
mutual
def exS (nms : Nat → Txt) (G : Nat → D) (cl : Call) : CS → Envd → Sto → R Fl
  | .asg i e, env, s => (evE G cl e env s).bind fun x s1 => if i < env.length then .ok (.nx (env.set i x)) s1 else .bad
  | .asgC i e, env, s => (evE G cl e env s).bind fun x s1 => if i < env.length then .ok (.nx (env.set i x)) s1 else .bad
  | .unp ts e, env, s => (evE G cl e env s).bind fun x s1 => match bindTg (.t ts) x env with
    | some env1 => .ok (.nx env1) s1
    | none => .bad
  | .par is es, env, s => (evEs G cl es env s).bind fun xs s1 => match asgAll is xs env with
    | some env1 => .ok (.nx env1) s1
    | none => .bad
  | .setIdx i ix e, env, s => (evE G cl e env s).bind fun x s1 => match env[i]? with
    | some (.obj n) => (evE G cl ix env s1).bind fun y s2 => match s2[n]?, y with
      | some (.lst a), .int j => match L2.ixN a.length j with
        | some p => if noClo x then .ok (.nx env) (s2.set n (.lst (a.set p x))) else .bad
        | none => .bad
      | _, _ => .bad
    | _ => .bad
  | .expr e, env, s => (evE G cl e env s).bind fun _ s1 => .ok (.nx env) s1
  | .iff c t e, env, s => (evE G cl c env s).bind fun x s1 => match x with
    | .bl true => exSs nms G cl t env s1
    | .bl false => exSs nms G cl e env s1
    | _ => .bad
  | .forr tg it b, env, s => (evI G cl it env s).bind fun xs s1 => forL (fun d env1 s2 => match bindTg tg d env1 with
      | some env2 => exSs nms G cl b env2 s2
      | none => .bad) xs env s1
  | .whil c b, env, s => whileL (fun env1 s1 => (evE G cl c env1 s1).bind fun x s2 => match x with
      | .bl v => .ok v s2
      | _ => .bad) (fun env1 s1 => exSs nms G cl b env1 s1) TURNS env s
  | .ret e, env, s => (evE G cl e env s).bind fun x s1 => .ok (.ret x) s1
  | .retN, _, s => .ok (.ret .non) s
  | .pass, env, s => .ok (.nx env) s
  | .cont, env, s => .ok (.ct env) s
  | .brk, env, s => .ok (.bk env) s
  | .raise x, _, s => .err x s
  | .tryN b, env, s => match exSs nms G cl b env s with
    | .ok fl s1 => .ok fl s1
    | .err x s1 => if x = 18 then .bad else .ok (.ret (.str (nms x))) s1
    | .bad => .bad
  | .tryT b, env, s => match exSs nms G cl b env s with
    | .ok fl s1 => .ok fl s1
    | .err x s1 => if x = 18 then .bad else .ok (.ret (.tup [.non, .str (nms x)])) s1
    | .bad => .bad
def exSs (nms : Nat → Txt) (G : Nat → D) (cl : Call) : List CS → Envd → Sto → R Fl
  | [], env, s => .ok (.nx env) s
  | c :: cs, env, s => (exS nms G cl c env s).bind fun fl s1 => match fl with
    | .nx env1 => exSs nms G cl cs env1 s1
    | o => .ok o s1
end
structure DefC where
  np : Nat
  nn : Nat
  body : List CS
structure LamC where
  ps : List Nat
  body : CE
structure Tab where
  G : Nat → D
  nms : Nat → Txt
  defs : List DefC
  lams : List LamC
def startE (n : Nat) (ds : List D) : Envd := ds ++ List.replicate (n - ds.length) .unset
def endF : R Fl → R D
  | .ok (.nx _) s => .ok .non s
  | .ok (.ret d) s => if noClo d then .ok d s else .bad
  | .ok _ _ => .bad
  | .err x s => .err x s
  | .bad => .bad
def callR (T : Tab) : Nat → Call
  | 0, _, _, _ => .bad
  | k + 1, .fn f, ds, s => match T.defs[f]? with
    | some d => if ds.length = d.np then endF (exSs T.nms T.G (callR T k) d.body (startE d.nn ds) s) else .bad
    | none => .bad
  | k + 1, .clo l caps, ds, s => match T.lams[l]? with
    | some m => match asgAll m.ps ds caps with
      | some env => if noClos ds then (evE T.G (callR T k) m.body env s).bind fun d s1 => if noClo d then .ok d s1 else .bad else .bad
      | none => .bad
    | none => .bad
  | _ + 1, _, _, _ => .bad
/-- calls by depth; never looked into but by its equations -/
@[irreducible] def callF (T : Tab) (k : Nat) : Call := callR T k
theorem callF_eq (T : Tab) (k : Nat) : callF T k = callR T k := by unfold callF; rfl
theorem callF_z (T : Tab) (d : D) (ds : List D) (s : Sto) : callF T 0 d ds s = .bad := by rw [callF_eq]; rfl
theorem callF_f (T : Tab) (k f : Nat) (ds : List D) (s : Sto) : callF T (k + 1) (.fn f) ds s = match T.defs[f]? with
    | some d => if ds.length = d.np then endF (exSs T.nms T.G (callF T k) d.body (startE d.nn ds) s) else .bad
    | none => .bad := by simp only [callF_eq]; rfl
theorem callF_c (T : Tab) (k l : Nat) (caps ds : List D) (s : Sto) : callF T (k + 1) (.clo l caps) ds s = match T.lams[l]? with
    | some m => match asgAll m.ps ds caps with
      | some env => if noClos ds then (evE T.G (callF T k) m.body env s).bind fun d s1 => if noClo d then .ok d s1 else .bad else .bad
      | none => .bad
    | none => .bad := by simp only [callF_eq]; rfl
end Fv
end

section
set_option Elab.async false
set_option linter.all false
set_option maxRecDepth 100000
set_option maxHeartbeats 4000000
set_option autoImplicit false
namespace Fv
open PySem PySem.Spec PyProof.Rows L2
/-- the very object o stands at a -/
def ObjO (a : Addr) (o : Obj) : HO := .ext fun h => h.get? a = some o
theorem objO_ne {a : Addr} {o : Obj} (ps : Array Value) : ObjO a o ≠ .tbl ps := fun z => by unfold ObjO at z; cases z
/-- the program's text and what its top has left -/
structure Pg where
  P : Program
  w : World
  K : PySem.W.Frag
  mg : Str → Option Value
  base : Heap
  T : Tab
  fa : Nat → Addr
  hs : Nat → Bool
  fits : Nat → Arguments → PySem.Expr → Scope → List Str → Prop
  tabs : List (Addr × Str)
  exA : Nat → Addr
  insA : Nat → Addr
/-- what is not known -/
def unH (cs : List Addr) (h : Hp) : Hp := fun a => if a ∈ cs then none else h a
theorem unH_in {cs : List Addr} {h : Hp} {a : Addr} (m : a ∈ cs) : unH cs h a = none := if_pos m
theorem unH_no {cs : List Addr} {h : Hp} {a : Addr} (m : a ∉ cs) : unH cs h a = h a := if_neg m
/-- the cells that may change, the store, the abstract heap -/
structure Wo where
  m : List Addr
  s : Sto
  h : Hp
  tm : List Addr
def isDead : Cell → Bool
  | .dead => true
  | _ => false
/-- a cell that may change, or a list or dict that is being made -/
def live (x : Wo) (a : Addr) : Prop := a ∈ x.tm ∨ ∃ (n : Nat) (c : Cell), x.m[n]? = some a ∧ x.s[n]? = some c ∧ isDead c = false
mutual
def Rep (g : Pg) (x : Wo) : D → V → Prop
  | .unset, _ => False
  | .non, v => v = .non
  | .bl b, v => v = .bl b
  | .int i, v => v = .int i
  | .str l, v => v = .str (SX.S l) ∧ (∀ c ∈ l, c < 1114112) ∧ l.length ≤ LIM
  | .tup ds, v => ∃ a vs, v = .ref a ∧ SqT g.K x.h a vs ∧ Reps g x ds vs
  | .lst ds, v => ∃ a vs, v = .ref a ∧ x.h a = some (.lst vs) ∧ ¬ live x a ∧ Reps g x ds vs
  | .dic ks ds, v => ∃ a kvs, v = .ref a ∧ x.h a = some (.dK kvs) ∧ ¬ live x a ∧ kvs.map (·.1) = ks.map (fun k => Sum.inr (SX.S k)) ∧ Reps g x ds (kvs.map (·.2))
  | .scr ns, v => ∃ a, v = .ref a ∧ ((∃ o, x.h a = some (.frz o (.lst (ns.map V.int)))) ∨ (x.h a = some (.lst (ns.map V.int)) ∧ ¬ live x a) ∨ ∀ H : Hp, SqL g.K H a (ns.map V.int))
  | .fn f, v => v = .ref (g.fa f) ∧ g.hs f = true
  | .obj n, v => ∃ a, x.m[n]? = some a ∧ v = .ref a
  | .clo l caps, v => ∃ (f : Addr) (params : Arguments) (body : PySem.Expr) (scope : Scope) (N : List Str) (qual : Str) (pm : Value) (c' : Addr) (ctv : Value) (cl : List (Str × Addr)) (σ : L2.St), v = .ref f ∧
      (x.h f = some (ObjO f (PySem.W.kla_obj "<lambda>" qual params body scope cl pm c' ctv)) ∨ g.base.get? f = some (PySem.W.kla_obj "<lambda>" qual params body scope cl pm c' ctv)) ∧ g.fits l params body scope N ∧
      x.h c' = some (LamX.CodeO c' qual) ∧ (∀ (y z : Str) (c : Addr), cl.lookup y = some c → cl.lookup z = some c → y = z) ∧
      (∀ c ∈ cl.map (·.2), ∃ o v, x.h c = some (ObjO c o) ∧ o.data = .cell v) ∧
      (∀ y : Str, (y, NameKind.free) ∈ scope.names → ∃ c, cl.lookup y = some c) ∧ σ.length = N.length ∧
      (∀ (i : Nat) (y : Str) (v : V), N[i]? = some y → scope.names.lookup y = some .free → σ[i]? = some (some v) → ∃ c o u, cl.lookup y = some c ∧ x.h c = some (ObjO c o) ∧ RelV v u ∧ o.data = .cell (some u)) ∧
      REnv g ⟨x.m, x.s, unH (cl.map (·.2)) x.h, x.tm⟩ caps σ
def Reps (g : Pg) (x : Wo) : List D → List V → Prop
  | [], vs => vs = []
  | d :: ds, vs => ∃ v r, vs = v :: r ∧ Rep g x d v ∧ Reps g x ds r
/-- the names' values: what is not set may hold anything -/
def REnv (g : Pg) (x : Wo) : List D → L2.St → Prop
  | [], σ => σ = []
  | d :: ds, σ => ∃ v r, σ = v :: r ∧ (d = .unset ∨ ∃ u, v = some u ∧ Rep g x d u) ∧ REnv g x ds r
end
/-- nothing stands there, or a table of code objects -/
def Free (x : Wo) (a : Addr) : Prop := ∀ o, x.h a = some o → ∃ ps, o = .tbl ps
theorem not_free {x : Wo} {a : Addr} {o : HO} (h : x.h a = some o) (n : ∀ ps, o ≠ .tbl ps) : ¬ Free x a := fun f => by
  obtain ⟨ps, e⟩ := f o h
  exact n ps e
theorem free_none {x : Wo} {a : Addr} (h : x.h a = none) : Free x a := fun o e => by rw [h] at e; cases e
structure ExtW (x y : Wo) : Prop where
  pre : ∃ more, y.m = x.m ++ more
  dead : ∀ (n : Nat) (c : Cell), x.s[n]? = some c → isDead c = true → ∃ c', y.s[n]? = some c' ∧ isDead c' = true
  keep : ∀ a o, x.h a = some o → ¬ live x a → (∀ ps, o ≠ .tbl ps) → y.h a = some o
  held : ∀ a, ¬ Free x a → ¬ Free y a
  new : ∀ (n : Nat) (a : Addr), x.m.length ≤ n → y.m[n]? = some a → Free x a
  len : x.m.length = x.s.length
  len' : y.m.length = y.s.length
  tmn : ∀ a ∈ y.tm, a ∈ x.tm ∨ Free x a
structure Ext (x y : Wo) : Prop extends ExtW x y where
  tm : y.tm = x.tm
  keepT : ∀ a ∈ x.tm, y.h a = x.h a
theorem ExtW.get {x y : Wo} (e : ExtW x y) {n : Nat} {a : Addr} (h : x.m[n]? = some a) : y.m[n]? = some a := by
  obtain ⟨more, q⟩ := e.pre
  have hn := (List.getElem?_eq_some_iff.mp h).1
  rw [q, List.getElem?_append_left hn]
  exact h
theorem ExtW.dead_live {x y : Wo} (e : ExtW x y) {a : Addr} (h0 : ¬ Free x a) (h : ¬ live x a) : ¬ live y a := by
  rintro (ht | ⟨n, c, h1, h2, h3⟩)
  · rcases e.tmn a ht with q | q
    · exact h (.inl q)
    · exact h0 q
  · by_cases hn : n < x.m.length
    · have hx : ∃ b, x.m[n]? = some b := ⟨_, List.getElem?_eq_getElem hn⟩
      obtain ⟨b, hb⟩ := hx
      have := e.get hb
      rw [h1] at this
      cases this
      have hs : n < x.s.length := by rw [← e.len]; exact hn
      cases hd : isDead (x.s[n]) with
      | false => exact h (.inr ⟨n, _, hb, List.getElem?_eq_getElem hs, hd⟩)
      | true =>
        obtain ⟨c', q1, q2⟩ := e.dead n _ (List.getElem?_eq_getElem hs) hd
        rw [h2] at q1
        cases q1
        rw [h3] at q2
        cases q2
    · exact h0 (e.new n a (by omega) h1)
theorem ExtW.refl {x : Wo} (h : x.m.length = x.s.length) : ExtW x x :=
  ⟨⟨[], by simp⟩, fun n c h1 h2 => ⟨c, h1, h2⟩, fun a o h1 _ _ => h1, fun _ h => h, fun n a h1 h2 => (by
    rw [List.getElem?_eq_none_iff.mpr h1] at h2; cases h2), h, h, fun _ h => .inl h⟩
theorem ExtW.trans {x y z : Wo} (a : ExtW x y) (b : ExtW y z) : ExtW x z := by
  obtain ⟨m1, e1⟩ := a.pre
  obtain ⟨m2, e2⟩ := b.pre
  have back : ∀ c, Free y c → Free x c := fun c h => Classical.byContradiction fun n => a.held c n h
  refine ⟨⟨m1 ++ m2, by rw [e2, e1, List.append_assoc]⟩, fun n c h1 h2 => ?_, fun c o h1 h2 h3 => ?_, fun c h => b.held c (a.held c h), fun n c h1 h2 => ?_, a.len, b.len', fun c h => ?_⟩
  · obtain ⟨c', q1, q2⟩ := a.dead n c h1 h2
    exact b.dead n c' q1 q2
  · exact b.keep c o (a.keep c o h1 h2 h3) (a.dead_live (not_free h1 h3) h2) h3
  · by_cases hn : n < y.m.length
    · have : y.m[n]? = some c := by rw [e2, List.getElem?_append_left hn] at h2; exact h2
      exact a.new n c h1 this
    · exact back c (b.new n c (by omega) h2)
  · rcases b.tmn c h with q | q
    · exact a.tmn c q
    · exact .inr (back c q)
theorem Ext.refl {x : Wo} (h : x.m.length = x.s.length) : Ext x x := ⟨ExtW.refl h, rfl, fun _ _ => rfl⟩
theorem Ext.trans {x y z : Wo} (a : Ext x y) (b : Ext y z) : Ext x z :=
  ⟨a.toExtW.trans b.toExtW, b.tm.trans a.tm, fun c h => (b.keepT c (by rw [a.tm]; exact h)).trans (a.keepT c h)⟩
theorem sqT_keep {g : Pg} {x y : Wo} {a : Addr} {vs : List V} (e : ExtW x y) (hl : ∀ b, live x b → ∃ o, x.h b = some o ∧ (∀ vs, o ≠ .tup vs) ∧ ∀ p u, o ≠ .frz p u) (h : SqT g.K x.h a vs) : SqT g.K y.h a vs := by
  rcases h with (h | ⟨o, h⟩) | h
  · refine .inl (.inl (e.keep _ _ h (fun q => ?_) (fun ps => by simp)))
    obtain ⟨o, h1, h2, _⟩ := hl a q
    rw [h] at h1; cases h1; exact h2 _ rfl
  · refine .inl (.inr ⟨o, e.keep _ _ h (fun q => ?_) (fun ps => by simp)⟩)
    obtain ⟨o, h1, _, h2⟩ := hl a q
    rw [h] at h1; cases h1; exact h2 _ _ rfl
  · exact .inr h
def fldsOk (g : Pg) (x : Wo) : List (Txt × D) → List (Str × V) → Prop
  | [], fs => fs = []
  | p :: ps, fs => ∃ v r, fs = (SX.S p.1, v) :: r ∧ Rep g x p.2 v ∧ fldsOk g x ps r
def CellOk (g : Pg) (x : Wo) (a : Addr) : Cell → Prop
  | .dead => True
  | .lst ds => ∃ vs, x.h a = some (.lst vs) ∧ Reps g x ds vs
  | .dic ks ds => ∃ kvs, x.h a = some (.dK kvs) ∧ kvs.map (·.1) = ks.map (fun k => Sum.inr (SX.S k)) ∧ Reps g x ds (kvs.map (·.2))
  | .ins c fs => ∃ dx fv, x.h a = some (.ins (g.insA c) dx fv) ∧ fldsOk g x fs fv
structure Ok (g : Pg) (x : Wo) : Prop where
  len : x.m.length = x.s.length
  nd : x.m.Nodup
  cells : ∀ (n : Nat) (a : Addr) (c : Cell), x.m[n]? = some a → x.s[n]? = some c → CellOk g x a c
  tabs : LamX.Tabs g.tabs x.h
  all : ∀ a ∈ x.m, ∃ o, x.h a = some o ∧ (∀ φ, o ≠ .ext φ) ∧ ∀ ps, o ≠ .tbl ps
  nc : ∀ c ∈ x.s, noCloC c = true
  tmm : ∀ a ∈ x.tm, a ∉ x.m
  tmk : ∀ a ∈ x.tm, ∃ o, x.h a = some o ∧ ((∃ vs, o = .lst vs) ∨ (∃ kvs, o = .dK kvs))
/-- what stands where a thing may change -/
def Kinds (x : Wo) : Prop := ∀ b, live x b → ∃ o, x.h b = some o ∧ ((∃ vs, o = .lst vs) ∨ (∃ kvs, o = .dK kvs) ∨ ∃ C dx fs, o = .ins C dx fs)
theorem Ok.kind {g : Pg} {x : Wo} (k : Ok g x) (b : Addr) (l : live x b) : ∃ o, x.h b = some o ∧ ((∃ vs, o = .lst vs) ∨ (∃ kvs, o = .dK kvs) ∨ ∃ C dx fs, o = .ins C dx fs) := by
  rcases l with l | ⟨n, c, h1, h2, h3⟩
  · obtain ⟨o, h1, h2⟩ := k.tmk b l
    exact ⟨o, h1, h2.imp id fun h => .inl h⟩
  have q := k.cells n b c h1 h2
  cases c with
  | dead => cases h3
  | lst ds => obtain ⟨vs, e, _⟩ := q; exact ⟨_, e, .inl ⟨_, rfl⟩⟩
  | dic ks ds => obtain ⟨vs, e, _⟩ := q; exact ⟨_, e, .inr (.inl ⟨_, rfl⟩)⟩
  | ins C fs => obtain ⟨dx, fv, e, _⟩ := q; exact ⟨_, e, .inr (.inr ⟨_, _, _, rfl⟩)⟩
theorem Kinds.kind2 {x : Wo} (k : Kinds x) : ∀ b, live x b → ∃ o, x.h b = some o ∧ (∀ vs, o ≠ .tup vs) ∧ ∀ p u, o ≠ .frz p u := fun b l => by
  obtain ⟨o, e, h⟩ := k b l
  refine ⟨o, e, ?_⟩
  rcases h with ⟨_, rfl⟩ | ⟨_, rfl⟩ | ⟨_, _, _, rfl⟩ <;> exact ⟨fun _ => by simp, fun _ _ => by simp⟩
theorem Kinds.next {x : Wo} (k : Kinds x) {a : Addr} {φ : Heap → Prop} (h : x.h a = some (.ext φ)) : ¬ live x a := fun l => by
  obtain ⟨o, e, q⟩ := k a l
  rw [h] at e; cases e
  rcases q with ⟨_, z⟩ | ⟨_, z⟩ | ⟨_, _, _, z⟩ <;> cases z
section
variable {g : Pg} {x y : Wo}
theorem ext_obj (k : Kinds x) (e : ExtW x y) {a : Addr} {o : Obj} (h : x.h a = some (ObjO a o)) : y.h a = some (ObjO a o) := e.keep _ _ h (k.next h) objO_ne
theorem ext_code (k : Kinds x) (e : ExtW x y) {a : Addr} {q : Str} (h : x.h a = some (LamX.CodeO a q)) : y.h a = some (LamX.CodeO a q) := e.keep _ _ h (k.next h) LamX.codeO_ne
def Wo.un (x : Wo) (cs : List Addr) : Wo := ⟨x.m, x.s, unH cs x.h, x.tm⟩
theorem free_un {x : Wo} {cs : List Addr} {a : Addr} (h : Free x a) : Free (x.un cs) a := fun o q => by
  have q : unH cs x.h a = some o := q
  by_cases m : a ∈ cs
  · rw [unH_in m] at q; cases q
  · rw [unH_no m] at q; exact h o q
theorem free_of_un {x : Wo} {cs : List Addr} {a : Addr} (m : a ∉ cs) (h : Free (x.un cs) a) : Free x a := fun o q => h o (by
  show unH cs x.h a = some o
  rw [unH_no m]; exact q)
theorem un_ext {cs : List Addr} (e : ExtW x y) : ExtW (x.un cs) (y.un cs) := by
  refine ⟨e.pre, e.dead, fun a o h1 h2 h3 => ?_, fun a h f => ?_, fun n a h1 h2 => free_un (e.new n a h1 h2), e.len, e.len', fun a h => (e.tmn a h).imp id free_un⟩
  · have h1 : unH cs x.h a = some o := h1
    by_cases m : a ∈ cs
    · rw [unH_in m] at h1; cases h1
    · rw [unH_no m] at h1
      show unH cs y.h a = some o
      rw [unH_no m]
      exact e.keep a o h1 h2 h3
  · by_cases m : a ∈ cs
    · exact h fun o q => by
        have q : unH cs x.h a = some o := q
        rw [unH_in m] at q; cases q
    · exact e.held a (fun q => h (free_un q)) (free_of_un m f)
theorem un_kinds {cs : List Addr} (k : Kinds x) (hc : ∀ c ∈ cs, ∃ o v, x.h c = some (ObjO c o) ∧ o.data = .cell v) : Kinds (x.un cs) := fun b l => by
  obtain ⟨o, h1, h2⟩ := k b l
  refine ⟨o, ?_, h2⟩
  show unH cs x.h b = some o
  rw [unH_no fun m => ?_]
  · exact h1
  · obtain ⟨u, v, q, _⟩ := hc b m
    rw [h1] at q; cases q
    rcases h2 with ⟨_, z⟩ | ⟨_, z⟩ | ⟨_, _, _, z⟩ <;> cases z
mutual
theorem Rep.monoK : ∀ (d : D) (v : V) {x y : Wo} (_ : Kinds x) (_ : ExtW x y), Rep g x d v → Rep g y d v
  | .unset, _, x, y, k, e, h => by simpa only [Rep] using h
  | .non, _, x, y, k, e, h => by simpa only [Rep] using h
  | .bl _, _, x, y, k, e, h => by simpa only [Rep] using h
  | .int _, _, x, y, k, e, h => by simpa only [Rep] using h
  | .str _, _, x, y, k, e, h => by simpa only [Rep] using h
  | .tup ds, v, x, y, k, e, h => by
    simp only [Rep] at h ⊢
    obtain ⟨a, vs, h1, h2, h3⟩ := h
    exact ⟨a, vs, h1, sqT_keep e k.kind2 h2, Reps.monoK ds vs k e h3⟩
  | .lst ds, v, x, y, k, e, h => by
    simp only [Rep] at h ⊢
    obtain ⟨a, vs, h1, h2, h3, h4⟩ := h
    exact ⟨a, vs, h1, e.keep _ _ h2 h3 (fun ps => by simp), e.dead_live (not_free h2 fun _ => by simp) h3, Reps.monoK ds vs k e h4⟩
  | .dic ks ds, v, x, y, k, e, h => by
    simp only [Rep] at h ⊢
    obtain ⟨a, kvs, h1, h2, h3, h4, h5⟩ := h
    exact ⟨a, kvs, h1, e.keep _ _ h2 h3 (fun ps => by simp), e.dead_live (not_free h2 fun _ => by simp) h3, h4, Reps.monoK ds _ k e h5⟩
  | .scr ns, v, x, y, k, e, h => by
    simp only [Rep] at h ⊢
    obtain ⟨a, h1, h2⟩ := h
    refine ⟨a, h1, h2.imp ?_ (Or.imp (fun q => ⟨e.keep _ _ q.1 q.2 (fun ps => by simp), e.dead_live (not_free q.1 fun _ => by simp) q.2⟩) id)⟩
    rintro ⟨o, q⟩
    exact ⟨o, e.keep _ _ q (fun l => by obtain ⟨o', e1, _, e2⟩ := k.kind2 a l; rw [q] at e1; cases e1; exact e2 _ _ rfl) (fun ps => by simp)⟩
  | .fn _, _, x, y, k, e, h => by simpa only [Rep] using h
  | .obj n, v, x, y, k, e, h => by
    simp only [Rep] at h ⊢
    obtain ⟨a, h1, h2⟩ := h
    exact ⟨a, e.get h1, h2⟩
  | .clo l caps, v, x, y, k, e, h => by
    simp only [Rep] at h ⊢
    obtain ⟨f, pr, bd, sc, N, ql, pm, c', ctv, cl, σ, h1, h2, h0, h3, h4, h5, h6, h7, h8, h9⟩ := h
    refine ⟨f, pr, bd, sc, N, ql, pm, c', ctv, cl, σ, h1, h2.imp (ext_obj k e) id, h0, ext_code k e h3, h4, fun c q => ?_, h6, h7, fun i z w q1 q2 q3 => ?_, REnv.monoK caps σ (x := x.un (cl.map fun p : Str × Addr => p.2)) (y := y.un (cl.map fun p : Str × Addr => p.2)) (un_kinds k h5) (un_ext e) h9⟩
    · obtain ⟨o, w, q2, q3⟩ := h5 c q
      exact ⟨o, w, ext_obj k e q2, q3⟩
    · obtain ⟨c, o, u, p1, p2, p3, p4⟩ := h8 i z w q1 q2 q3
      exact ⟨c, o, u, p1, ext_obj k e p2, p3, p4⟩
theorem Reps.monoK : ∀ (ds : List D) (vs : List V) {x y : Wo} (_ : Kinds x) (_ : ExtW x y), Reps g x ds vs → Reps g y ds vs
  | [], _, x, y, k, e, h => by simpa only [Reps] using h
  | d :: ds, vs, x, y, k, e, h => by
    simp only [Reps] at h ⊢
    obtain ⟨v, r, h1, h2, h3⟩ := h
    exact ⟨v, r, h1, Rep.monoK d v k e h2, Reps.monoK ds r k e h3⟩
theorem REnv.monoK : ∀ (ds : List D) (σ : L2.St) {x y : Wo} (_ : Kinds x) (_ : ExtW x y), REnv g x ds σ → REnv g y ds σ
  | [], _, x, y, k, e, h => by simpa only [REnv] using h
  | d :: ds, vs, x, y, k, e, h => by
    simp only [REnv] at h ⊢
    obtain ⟨v, r, h1, h2, h3⟩ := h
    refine ⟨v, r, h1, h2.imp id ?_, REnv.monoK ds r k e h3⟩
    rintro ⟨u, q1, q2⟩
    exact ⟨u, q1, Rep.monoK d u k e q2⟩
end
theorem Ok.kinds (k : Ok g x) : Kinds x := k.kind
theorem Rep.monoW (k : Ok g x) (e : ExtW x y) (d : D) (v : V) (h : Rep g x d v) : Rep g y d v := Rep.monoK d v k.kinds e h
theorem Reps.monoW (k : Ok g x) (e : ExtW x y) (d : List D) (v : List V) (h : Reps g x d v) : Reps g y d v := Reps.monoK d v k.kinds e h
theorem REnv.monoW (k : Ok g x) (e : ExtW x y) (d : List D) (v : L2.St) (h : REnv g x d v) : REnv g y d v := REnv.monoK d v k.kinds e h
theorem Rep.mono (k : Ok g x) (e : Ext x y) (d : D) (v : V) (h : Rep g x d v) : Rep g y d v := Rep.monoK d v k.kinds e.toExtW h
theorem Reps.mono (k : Ok g x) (e : Ext x y) (d : List D) (v : List V) (h : Reps g x d v) : Reps g y d v := Reps.monoK d v k.kinds e.toExtW h
theorem REnv.mono (k : Ok g x) (e : Ext x y) (d : List D) (v : L2.St) (h : REnv g x d v) : REnv g y d v := REnv.monoK d v k.kinds e.toExtW h
theorem Ok.kind2 (k : Ok g x) : ∀ b, live x b → ∃ o, x.h b = some o ∧ (∀ vs, o ≠ .tup vs) ∧ ∀ p u, o ≠ .frz p u := k.kinds.kind2
end
end Fv
end

section
set_option Elab.async false
set_option linter.all false
set_option maxRecDepth 100000
set_option maxHeartbeats 4000000
set_option autoImplicit false
namespace Fv
open PySem PySem.Spec PyProof.Rows L2
abbrev St := L2.St
/-- the dict that an exception of this class bears -/
def ddOk (e : Nat) (dd : Option Addr) : Prop := e = 18 ∨ dd = none
def PostG {α β : Type} (g : Pg) (Rp : Wo → α → β → Prop) (W : WX) (σ : St) (x : Wo) (r : R α) (Q : β → Hp → Prop) : Prop :=
  match r with
  | .ok d s' => ∀ y : Wo, Ext x y → Ok g y → y.s = s' → ∀ v, Rp y d v → Q v y.h
  | .err e s' => ∀ y : Wo, Ext x y → Ok g y → y.s = s' → ∀ dd, ddOk e dd → W (.ref (g.exA e)) dd σ y.h
  | .bad => False
section
variable {α β γ δ : Type} {g : Pg} {Rp : Wo → α → β → Prop} {Rq : Wo → γ → δ → Prop} {W : WX} {σ : St} {x y : Wo}
theorem PostG.ext {r : R α} {Q : β → Hp → Prop} (e : Ext x y) (h : PostG g Rp W σ x r Q) : PostG g Rp W σ y r Q := by
  cases r with
  | ok d s => exact fun z e2 => h z (e.trans e2)
  | err d s => exact fun z e2 => h z (e.trans e2)
  | bad => exact h
theorem PostG.bind {r : R α} {k : α → Sto → R γ} {env : Envd} {Q : δ → Hp → Prop} {Q' : β → Hp → Prop} (h : PostG g Rq W σ x (r.bind k) Q) (ok : Ok g x) (re : REnv g x env σ)
    (hk : ∀ (y : Wo) (d : α) (v : β), Ext x y → Ok g y → REnv g y env σ → Rp y d v → PostG g Rq W σ y (k d y.s) Q → Q' v y.h) : PostG g Rp W σ x r Q' := by
  cases r with
  | ok d s =>
    intro y e oky es v rv
    subst es
    exact hk y d v e oky (REnv.mono ok e _ _ re) rv (PostG.ext e h)
  | err d s => exact h
  | bad => exact h
theorem PostG.here {d : α} {Q : β → Hp → Prop} (h : PostG g Rp W σ x (.ok d x.s) Q) (ok : Ok g x) {v : β} (r : Rp x d v) : Q v x.h := h x (Ext.refl ok.len) ok rfl v r
theorem PostG.imp {r : R α} {Q Q' : β → Hp → Prop} (h : PostG g Rp W σ x r Q) (hq : ∀ v H, Q v H → Q' v H) : PostG g Rp W σ x r Q' := by
  cases r with
  | ok d s => exact fun z e2 k es v rv => hq _ _ (h z e2 k es v rv)
  | err d s => exact h
  | bad => exact h
end
/-- the reading of a part of the syntax: f evaluates it -/
def tR {α β : Type} (g : Pg) (W : WX) (Rp : Wo → α → β → Prop) (f : Envd → Sto → R α) : St → Hp → (β → Hp → Prop) → Prop :=
  fun σ H Q => ∃ (x : Wo) (env : Envd), x.h = H ∧ Ok g x ∧ REnv g x env σ ∧ PostG g Rp W σ x (f env x.s) Q
abbrev tE (g : Pg) (k : Nat) (W : WX) (c : CE) : TE := tR g W (Rep g) (evE g.T.G (callF g.T k) c)
abbrev tEs (g : Pg) (k : Nat) (W : WX) (c : List CE) : TA := tR g W (Reps g) (evEs g.T.G (callF g.T k) c)
def RB : Wo → D → Bool → Prop := fun _ d b => d = .bl b
abbrev tT (g : Pg) (k : Nat) (W : WX) (c : CE) : TT := tR g W RB (evE g.T.G (callF g.T k) c)
theorem _root_.L2.PE.imp {X : Cx} {e : PySem.Expr} {t t' : TE} (h : PE X e t) (hi : ∀ σ H Q, t' σ H Q → t σ H Q) : PE X e t' := ⟨fun pins s σ H Q I q => h.run pins s σ H Q I (hi σ H Q q)⟩
theorem _root_.L2.PT.imp {X : Cx} {e : PySem.Expr} {t t' : TT} (h : PT X e t) (hi : ∀ σ H Q, t' σ H Q → t σ H Q) : PT X e t' := ⟨fun pins s σ H Q I q => h.run pins s σ H Q I (hi σ H Q q)⟩
theorem _root_.L2.PW.imp {X : Cx} {e : PySem.Expr} {t t' : TT} (h : PW X e t) (hi : ∀ σ H Q, t' σ H Q → t σ H Q) : PW X e t' := ⟨fun w pins s σ H Q I q => h.run w pins s σ H Q I (hi σ H Q q)⟩
theorem _root_.L2.PA.imp {X : Cx} {e : List PySem.Expr} {t t' : TA} (h : PA X e t) (hi : ∀ σ H Q, t' σ H Q → t σ H Q) : PA X e t' := ⟨fun p pins s σ H Q I q => h.run p pins s σ H Q I (hi σ H Q q)⟩
theorem lim_eq : LIM = sizeLine := by rw [sizeLine_eq]
section
variable {g : Pg} {x : Wo}
theorem Ok.held (k : Ok g x) {p : Addr} (hp : x.h p = none) : ¬ live x p := fun l => by
  obtain ⟨o, e, _⟩ := k.kind p l
  rw [hp] at e; cases e
def Wo.put (x : Wo) (p : Addr) (o : HO) : Wo := ⟨x.m, x.s, upd x.h p o, x.tm⟩
theorem ext_put (k : Ok g x) {p : Addr} (hp : x.h p = none) (o : HO) : Ext x (x.put p o) := by
  refine ⟨⟨⟨[], by simp [Wo.put]⟩, fun n c h1 h2 => ⟨c, h1, h2⟩, fun a u h1 h2 h3 => ?_, fun a h => ?_, fun n a h1 h2 => ?_, k.len, k.len, fun _ h => .inl h⟩, rfl, fun a h => ?_⟩
  · show upd x.h p o a = some u
    rw [upd_ne (ne_of_none h1 hp)]; exact h1
  · intro f
    by_cases hz : a = p
    · subst hz
      exact h (free_none hp)
    · refine h fun u hu => f u ?_
      show upd x.h p o a = some u
      rw [upd_ne hz]; exact hu
  · have h2 : x.m[n]? = some a := h2
    rw [List.getElem?_eq_none_iff.mpr h1] at h2; cases h2
  · obtain ⟨u, h1, _⟩ := k.tmk a h
    show upd x.h p o a = x.h a
    rw [upd_ne (ne_of_none h1 hp)]
theorem flds_monoW (k : Ok g x) {y : Wo} (e : ExtW x y) : ∀ (ps : List (Txt × D)) (fs : List (Str × V)), fldsOk g x ps fs → fldsOk g y ps fs
  | [], _, h => by simpa only [fldsOk] using h
  | p :: ps, fs, h => by
    simp only [fldsOk] at h ⊢
    obtain ⟨v, r, h1, h2, h3⟩ := h
    exact ⟨v, r, h1, Rep.monoW k e _ _ h2, flds_monoW k e ps r h3⟩
theorem tabs_put {T : List (Addr × Str)} {H : Hp} {p : Addr} {o : HO} (t : LamX.Tabs T H) (hp : ∀ u, H p = some u → (∀ ps, u ≠ .tbl ps) ∧ ∀ φ, u ≠ .ext φ) : LamX.Tabs T (upd H p o) := fun q hq => by
  obtain ⟨ps, h1, h2, h3⟩ := t q hq
  have n1 : q.1 ≠ p := fun z => by rw [z] at h1; exact (hp _ h1).1 _ rfl
  refine ⟨ps, by rw [upd_ne n1]; exact h1, h2, fun pos cv hc => ?_⟩
  obtain ⟨c, e1, e2⟩ := h3 pos cv hc
  have n2 : c ≠ p := fun z => by rw [z] at e2; exact (hp _ e2).2 _ rfl
  exact ⟨c, e1, by rw [upd_ne n2]; exact e2⟩
theorem CellOk.monoW (k : Ok g x) {y : Wo} (e : ExtW x y) {a : Addr} {c : Cell} (ha : ∀ o, x.h a = some o → y.h a = some o) (h : CellOk g x a c) : CellOk g y a c := by
  cases c with
  | dead => trivial
  | lst ds => obtain ⟨vs, h1, h2⟩ := h; exact ⟨vs, ha _ h1, Reps.monoW k e _ _ h2⟩
  | dic ks ds => obtain ⟨vs, h1, h2, h3⟩ := h; exact ⟨vs, ha _ h1, h2, Reps.monoW k e _ _ h3⟩
  | ins C fs => obtain ⟨dx, fv, h1, h2⟩ := h; exact ⟨dx, fv, ha _ h1, flds_monoW k e _ _ h2⟩
theorem ok_put (k : Ok g x) {p : Addr} (hp : x.h p = none) (o : HO) : Ok g (x.put p o) := by
  refine ⟨k.len, k.nd, fun n a c h1 h2 => ?_, tabs_put k.tabs (fun u hu => by rw [hp] at hu; cases hu), fun a h => (by
      obtain ⟨u, h1, h2⟩ := k.all a h
      exact ⟨u, by show upd x.h p o a = some u; rw [upd_ne (ne_of_none h1 hp)]; exact h1, h2⟩), k.nc, k.tmm, fun a h => ?_⟩
  · exact (k.cells n a c h1 h2).monoW k (ext_put k hp o).toExtW fun u hu => by
      show upd x.h p o a = some u
      rw [upd_ne (ne_of_none hu hp)]; exact hu
  · obtain ⟨u, h1, h2⟩ := k.tmk a h
    exact ⟨u, by show upd x.h p o a = some u; rw [upd_ne (ne_of_none h1 hp)]; exact h1, h2⟩
theorem put_at {p : Addr} {o : HO} : (x.put p o).h p = some o := upd_same
theorem live_put {p a : Addr} {o : HO} : live (x.put p o) a ↔ live x a := Iff.rfl
theorem PostG.newT {W : WX} {σ : St} {ds : List D} {vs : List V} {Q : VK} (h : PostG g (Rep g) W σ x (.ok (.tup ds) x.s) Q) (k : Ok g x) (r : Reps g x ds vs) (p : Addr) (hp : x.h p = none) : Q (.ref p) (upd x.h p (.tup vs)) :=
  h (x.put p (.tup vs)) (ext_put k hp _) (ok_put k hp _) rfl _ (by
    simp only [Rep]
    exact ⟨p, vs, rfl, SqT.of put_at, Reps.mono k (ext_put k hp _) _ _ r⟩)
theorem PostG.newL {W : WX} {σ : St} {ds : List D} {vs : List V} {Q : VK} (h : PostG g (Rep g) W σ x (.ok (.lst ds) x.s) Q) (k : Ok g x) (r : Reps g x ds vs) (p : Addr) (hp : x.h p = none) : Q (.ref p) (upd x.h p (.lst vs)) :=
  h (x.put p (.lst vs)) (ext_put k hp _) (ok_put k hp _) rfl _ (by
    simp only [Rep]
    exact ⟨p, vs, rfl, put_at, fun l => k.held hp l, Reps.mono k (ext_put k hp _) _ _ r⟩)
/-- a new cell -/
def Wo.cell (x : Wo) (p : Addr) (o : HO) (c : Cell) : Wo := ⟨x.m ++ [p], x.s ++ [c], upd x.h p o, x.tm⟩
theorem fresh_nm (k : Ok g x) {p : Addr} (hp : x.h p = none) : p ∉ x.m := fun h => by
  obtain ⟨u, h1, _⟩ := k.all p h
  rw [hp] at h1; cases h1
theorem ext_cell (k : Ok g x) {p : Addr} (hp : x.h p = none) (o : HO) (c : Cell) : Ext x (x.cell p o c) := by
  have e := ext_put k hp o
  refine ⟨⟨⟨[p], rfl⟩, fun n c' h1 h2 => ⟨c', ?_, h2⟩, e.keep, e.held, fun n a h1 h2 => ?_, k.len, by simp [Wo.cell, k.len], fun _ h => .inl h⟩, rfl, e.keepT⟩
  · have hn := (List.getElem?_eq_some_iff.mp h1).1
    show (x.s ++ [c])[n]? = some c'
    rw [List.getElem?_append_left hn]; exact h1
  · have h2 : (x.m ++ [p])[n]? = some a := h2
    rw [List.getElem?_append_right h1] at h2
    have : n - x.m.length = 0 := by
      cases q : n - x.m.length with
      | zero => rfl
      | succ m => rw [q] at h2; simp at h2
    rw [this] at h2
    simp at h2
    subst h2
    exact free_none hp
theorem ok_cell (k : Ok g x) {p : Addr} (hp : x.h p = none) (o : HO) (c : Cell) (hc : CellOk g (x.cell p o c) p c) (ho : (∀ φ, o ≠ .ext φ) ∧ ∀ ps, o ≠ .tbl ps) (hn : noCloC c = true) : Ok g (x.cell p o c) := by
  have e := ext_cell k hp o c
  have kp := ok_put k hp o
  refine ⟨e.len', ?_, fun n a c' h1 h2 => ?_, kp.tabs, fun a h => ?_, fun c' h => ?_, fun a h => ?_, kp.tmk⟩
  · show (x.m ++ [p]).Nodup
    refine List.nodup_append.mpr ⟨k.nd, by simp, fun a ha b hb => ?_⟩
    rw [List.mem_singleton] at hb
    subst hb
    exact fun z => fresh_nm k hp (z ▸ ha)
  · by_cases hn : n < x.m.length
    · have h1 : x.m[n]? = some a := by
        have h1 : (x.m ++ [p])[n]? = some a := h1
        rw [List.getElem?_append_left hn] at h1; exact h1
      have h2 : x.s[n]? = some c' := by
        have h2 : (x.s ++ [c])[n]? = some c' := h2
        rw [List.getElem?_append_left (by rw [← k.len]; exact hn)] at h2; exact h2
      exact (k.cells n a c' h1 h2).monoW k e.toExtW fun u hu => by
        show upd x.h p o a = some u
        rw [upd_ne (ne_of_none hu hp)]; exact hu
    · have hl : n = x.m.length := by
        have := (List.getElem?_eq_some_iff.mp h1).1
        have : n < (x.m ++ [p]).length := this
        rw [List.length_append, List.length_singleton] at this
        omega
      subst hl
      have h1 : (x.m ++ [p])[x.m.length]? = some a := h1
      have h2 : (x.s ++ [c])[x.m.length]? = some c' := h2
      rw [k.len] at h2
      simp at h1 h2
      subst h1 h2
      exact hc
  · have h : a ∈ x.m ++ [p] := h
    rcases List.mem_append.mp h with h | h
    · exact kp.all a h
    · rw [List.mem_singleton] at h
      subst h
      exact ⟨o, upd_same, ho⟩
  · have h : c' ∈ x.s ++ [c] := h
    rcases List.mem_append.mp h with h | h
    · exact k.nc c' h
    · rw [List.mem_singleton] at h
      rw [h]; exact hn
  · show a ∉ x.m ++ [p]
    rw [List.mem_append, List.mem_singleton]
    rintro (q | q)
    · exact k.tmm a h q
    · obtain ⟨u, h1, _⟩ := k.tmk a h
      rw [q, hp] at h1; cases h1
theorem PostG.newC {W : WX} {σ : St} {ds : List D} {vs : List V} {Q : VK} (h : PostG g (Rep g) W σ x (.ok (.obj x.s.length) (x.s ++ [.lst ds])) Q) (k : Ok g x) (r : Reps g x ds vs) (hn : noClos ds = true) (p : Addr) (hp : x.h p = none) : Q (.ref p) (upd x.h p (.lst vs)) := by
  have e := ext_cell k hp (.lst vs) (.lst ds)
  refine h (x.cell p (.lst vs) (.lst ds)) e (ok_cell k hp _ _ ?_ ⟨fun _ => by simp, fun _ => by simp⟩ hn) rfl _ ?_
  · exact ⟨vs, upd_same, Reps.mono k e _ _ r⟩
  · simp only [Rep]
    refine ⟨p, ?_, rfl⟩
    show (x.m ++ [p])[x.s.length]? = some p
    rw [← k.len]
    simp
end
section
variable {g : Pg} {x : Wo}
theorem reps_len : ∀ {ds : List D} {vs : List V}, Reps g x ds vs → vs.length = ds.length
  | [], _, h => by simp only [Reps] at h; rw [h]; rfl
  | d :: ds, _, h => by
    simp only [Reps] at h
    obtain ⟨v, r, rfl, _, h3⟩ := h
    simp [reps_len h3]
theorem reps_nil {vs : List V} : Reps g x [] vs ↔ vs = [] := by simp only [Reps]
theorem reps_get : ∀ {ds : List D} {vs : List V} {i : Nat} {d : D}, Reps g x ds vs → ds[i]? = some d → ∃ v, vs[i]? = some v ∧ Rep g x d v
  | [], _, _, _, _, h2 => by simp at h2
  | d :: ds, _, 0, _, h, h2 => by
    simp only [Reps] at h
    obtain ⟨v, r, rfl, h3, _⟩ := h
    simp at h2
    subst h2
    exact ⟨v, rfl, h3⟩
  | d :: ds, _, i + 1, e, h, h2 => by
    simp only [Reps] at h
    obtain ⟨v, r, rfl, _, h3⟩ := h
    obtain ⟨u, q1, q2⟩ := reps_get (i := i) (d := e) h3 (by simpa using h2)
    exact ⟨u, by simpa using q1, q2⟩
theorem reps_app : ∀ {ds es : List D} {vs us : List V}, Reps g x ds vs → Reps g x es us → Reps g x (ds ++ es) (vs ++ us)
  | [], _, _, _, h, h2 => by simp only [Reps] at h; subst h; simpa using h2
  | d :: ds, _, _, _, h, h2 => by
    simp only [Reps] at h
    obtain ⟨v, r, rfl, h3, h4⟩ := h
    simp only [List.cons_append, Reps]
    exact ⟨v, _, rfl, h3, reps_app h4 h2⟩
theorem reps_drop : ∀ (n : Nat) {ds : List D} {vs : List V}, Reps g x ds vs → Reps g x (ds.drop n) (vs.drop n)
  | 0, _, _, h => by simpa using h
  | n + 1, [], _, h => by simp only [Reps] at h; subst h; simp [Reps]
  | n + 1, d :: ds, _, h => by
    simp only [Reps] at h
    obtain ⟨v, r, rfl, _, h4⟩ := h
    simpa using reps_drop n h4
theorem reps_take : ∀ (n : Nat) {ds : List D} {vs : List V}, Reps g x ds vs → Reps g x (ds.take n) (vs.take n)
  | 0, _, _, h => by simp [Reps]
  | n + 1, [], _, h => by simp only [Reps] at h; subst h; simp [Reps]
  | n + 1, d :: ds, _, h => by
    simp only [Reps] at h
    obtain ⟨v, r, rfl, h3, h4⟩ := h
    simp only [List.take_succ_cons, Reps]
    exact ⟨v, _, rfl, h3, reps_take n h4⟩
theorem reps_rep {ds : List D} {vs : List V} (h : Reps g x ds vs) : ∀ n : Nat, Reps g x (List.replicate n ds).flatten (List.replicate n vs).flatten
  | 0 => by simp [Reps]
  | n + 1 => by
    rw [List.replicate_succ, List.replicate_succ, List.flatten_cons, List.flatten_cons]
    exact reps_app h (reps_rep h n)
theorem reps_ints : ∀ {ds : List D} {vs : List V} {ns : List Int}, Reps g x ds vs → ints? ds = some ns → vs = ns.map V.int
  | [], _, _, h, h2 => by
    simp only [Reps] at h; simp only [ints?, Option.some.injEq] at h2; subst h h2; rfl
  | d :: ds, _, _, h, h2 => by
    simp only [Reps] at h
    obtain ⟨v, r, rfl, h3, h4⟩ := h
    cases d <;> simp only [ints?] at h2 <;> try cases h2
    rename_i i
    obtain ⟨ms, e1, e2⟩ := Option.map_eq_some_iff.mp h2
    subst e2
    simp only [Rep] at h3
    subst h3
    rw [reps_ints h4 e1]; rfl
theorem reps_bls : ∀ {ds : List D} {vs : List V} {ns : List Bool}, Reps g x ds vs → bls? ds = some ns → vs = ns.map V.bl
  | [], _, _, h, h2 => by
    simp only [Reps] at h; simp only [bls?, Option.some.injEq] at h2; subst h h2; rfl
  | d :: ds, _, _, h, h2 => by
    simp only [Reps] at h
    obtain ⟨v, r, rfl, h3, h4⟩ := h
    cases d <;> simp only [bls?] at h2 <;> try cases h2
    rename_i i
    obtain ⟨ms, e1, e2⟩ := Option.map_eq_some_iff.mp h2
    subst e2
    simp only [Rep] at h3
    subst h3
    rw [reps_bls h4 e1]; rfl
theorem reps_strs : ∀ {ds : List D} {vs : List V} {ns : List Txt}, Reps g x ds vs → strs? ds = some ns → vs = (ns.map SX.S).map V.str ∧ ∀ t ∈ ns, (∀ c ∈ t, c < 1114112) ∧ t.length ≤ LIM
  | [], _, _, h, h2 => by
    simp only [Reps] at h; simp only [strs?, Option.some.injEq] at h2; subst h h2; exact ⟨rfl, by simp⟩
  | d :: ds, _, _, h, h2 => by
    simp only [Reps] at h
    obtain ⟨v, r, rfl, h3, h4⟩ := h
    cases d <;> simp only [strs?] at h2 <;> try cases h2
    rename_i i
    obtain ⟨ms, e1, e2⟩ := Option.map_eq_some_iff.mp h2
    subst e2
    simp only [Rep] at h3
    obtain ⟨h3, h5⟩ := h3
    subst h3
    obtain ⟨q1, q2⟩ := reps_strs h4 e1
    rw [q1]
    refine ⟨rfl, fun t ht => ?_⟩
    rcases List.mem_cons.mp ht with rfl | ht
    · exact h5
    · exact q2 t ht
theorem reps_of_ints : ∀ ns : List Int, Reps g x (ns.map D.int) (ns.map V.int)
  | [] => by simp [Reps]
  | n :: ns => by simp only [List.map_cons, Reps]; exact ⟨_, _, rfl, rfl, reps_of_ints ns⟩
theorem reps_of_strs : ∀ ns : List Txt, (∀ t ∈ ns, (∀ c ∈ t, c < 1114112) ∧ t.length ≤ LIM) → Reps g x (ns.map D.str) ((ns.map SX.S).map V.str)
  | [], _ => by simp [Reps]
  | n :: ns, h => by
    simp only [List.map_cons, Reps]
    exact ⟨_, _, rfl, ⟨rfl, h n (List.mem_cons_self ..)⟩, reps_of_strs ns fun t ht => h t (List.mem_cons_of_mem _ ht)⟩
end
def rBin (g : Pg) (op : Operator) : R2 := fun v u H Q => ∃ (z : Wo) (d d2 : D) (W : WX) (σ : St), z.h = H ∧ Ok g z ∧ Rep g z d v ∧ Rep g z d2 u ∧ PostG g (Rep g) W σ z (opBin op d d2 z.s) Q
theorem small_ok {i : Int} (h : small i = true) : -(2 ^ 64) < i ∧ i < 2 ^ 64 := by
  unfold small at h
  simpa using h
section
variable {g : Pg} {X : Cx}
theorem S_app (a b : Txt) : SX.S a ++ SX.S b = SX.S (a ++ b) := SX.S_cat a b
theorem opR_bin (hK : X.K = g.K) (op : Operator) : OpR X (binaryOp op) (rBin g op) := by
  intro pins s σ H v u a b Q I rv ru h
  obtain ⟨z, d, d2, W, σ', rfl, ok, r1, r2, post⟩ := h
  unfold opBin at post
  split at post
  · -- ints
    simp only [Rep] at r1 r2
    exact op_add pins s σ _ _ _ _ _ Q I rv ru ⟨_, _, r1, r2, post.here ok rfl⟩
  · split at post
    · rename_i hl
      simp only [Rep] at r1 r2
      refine op_add_str pins s σ _ _ _ _ _ Q I rv ru ⟨_, _, r1.1, r2.1, by rw [SX.S_len, SX.S_len, ← lim_eq]; exact hl, ?_⟩
      rw [S_app]
      refine post.here ok ⟨rfl, fun c hc => ?_, by rw [List.length_append]; exact hl⟩
      rcases List.mem_append.mp hc with q | q
      · exact r1.2.1 c q
      · exact r2.2.1 c q
    · exact post.elim
  · split at post
    · rename_i hl
      simp only [Rep] at r1 r2
      obtain ⟨a1, vs, e1, h1, _, q1⟩ := r1
      obtain ⟨a2, us, e2, h2, _, q2⟩ := r2
      exact op_cat pins s σ _ _ _ _ _ Q I rv ru ⟨a1, a2, vs, us, e1, e2, h1, h2, by rw [reps_len q1, reps_len q2, ← lim_eq]; exact hl, post.newL ok (reps_app q1 q2)⟩
    · exact post.elim
  · split at post
    · rename_i hl
      simp only [Rep] at r1 r2
      obtain ⟨a1, vs, e1, h1, q1⟩ := r1
      obtain ⟨a2, us, e2, h2, q2⟩ := r2
      rw [← hK] at h1 h2
      refine op_catA pins s σ _ _ _ _ _ Q I rv ru ⟨a1, a2, vs, us, e1, e2, h1, h2, by rw [reps_len q1, reps_len q2, ← lim_eq]; exact hl, fun z0 => ?_, fun _ z0 => ?_, fun _ _ => post.newT ok (reps_app q1 q2)⟩
      · subst z0
        refine post.here ok ?_
        have e0 := reps_len q1
        have e0 := List.length_eq_zero_iff.mp e0.symm
        subst e0
        simp only [Rep, List.nil_append]
        rw [hK] at h2
        exact ⟨a2, us, rfl, h2, q2⟩
      · subst z0
        refine post.here ok ?_
        have e0 := reps_len q2
        have e0 := List.length_eq_zero_iff.mp e0.symm
        subst e0
        simp only [Rep, List.append_nil]
        rw [hK] at h1
        exact ⟨a1, vs, rfl, h1, q1⟩
    · exact post.elim
  · simp only [Rep] at r1 r2
    exact op_sub pins s σ _ _ _ _ _ Q I rv ru ⟨_, _, r1, r2, post.here ok rfl⟩
  · split at post
    · rename_i hl
      simp only [Rep] at r1 r2
      refine op_mul pins s σ _ _ _ _ _ Q I rv ru ⟨_, _, r1, r2, ?_, post.here ok rfl⟩
      rcases Bool.or_eq_true_iff.mp hl with q | q
      · exact .inl (small_ok q)
      · exact .inr (small_ok q)
    · exact post.elim
  · split at post
    · rename_i hl
      simp only [Bool.and_eq_true, decide_eq_true_eq] at hl
      simp only [Rep] at r1 r2
      obtain ⟨a1, vs, e1, h1, _, q1⟩ := r1
      have hlen := reps_len q1
      refine op_rep pins s σ _ _ _ _ _ Q I rv ru ⟨a1, _, vs, e1, r2, h1, by omega, by omega, ?_, post.newL ok (reps_rep q1 _)⟩
      rw [hlen, ← lim_eq]
      exact Nat.le_trans (Nat.mul_le_mul hl.2.2 (Int.toNat_le_toNat hl.2.1)) (by decide)
    · exact post.elim
  · split at post
    · rename_i hl
      simp only [Bool.and_eq_true, decide_eq_true_eq] at hl
      simp only [Rep] at r1 r2
      obtain ⟨a1, vs, e1, h1, q1⟩ := r1
      have hlen := reps_len q1
      rw [← hK] at h1
      refine op_repT pins s σ _ _ _ _ _ Q I rv ru ⟨a1, _, vs, e1, r2, h1, ?_, hl.1, hl.2.1, by omega, post.newT ok (reps_rep q1 _)⟩
      rintro rfl
      have e0 := List.length_eq_zero_iff.mp hlen.symm
      subst e0
      simp at hl
    · exact post.elim
  · split at post
    · rename_i hl
      simp only [Bool.and_eq_true, decide_eq_true_eq] at hl
      simp only [Rep] at r1 r2
      exact op_fdiv pins s σ _ _ _ _ _ Q I rv ru ⟨_, _, r1, r2, hl, post.here ok rfl⟩
    · exact post.elim
  · split at post
    · rename_i hl
      simp only [decide_eq_true_eq] at hl
      simp only [Rep] at r1 r2
      exact op_mod pins s σ _ _ _ _ _ Q I rv ru ⟨_, _, r1, r2, hl, post.here ok rfl⟩
    · exact post.elim
  · split at post
    · rename_i hl
      simp only [powOk, Bool.and_eq_true, decide_eq_true_eq] at hl
      simp only [Rep] at r1 r2
      exact op_pow pins s σ _ _ _ _ _ Q I rv ru ⟨_, _, r1, r2, hl, post.here ok rfl⟩
    · exact post.elim
  · split at post
    · rename_i hl
      simp only [powOk, Bool.and_eq_true, decide_eq_true_eq] at hl
      simp only [Rep] at r1 r2
      exact op_shl pins s σ _ _ _ _ _ Q I rv ru ⟨_, _, r1, r2, hl, post.here ok rfl⟩
    · exact post.elim
  · split at post
    · rename_i hl
      simp only [decide_eq_true_eq] at hl
      simp only [Rep] at r1 r2
      exact op_shr pins s σ _ _ _ _ _ Q I rv ru ⟨_, _, r1, r2, hl, post.here ok rfl⟩
    · exact post.elim
  · simp only [Rep] at r1 r2
    exact op_and pins s σ _ _ _ _ _ Q I rv ru ⟨_, _, r1, r2, post.here ok rfl⟩
  · simp only [Rep] at r1 r2
    exact op_or pins s σ _ _ _ _ _ Q I rv ru ⟨_, _, r1, r2, post.here ok rfl⟩
  · simp only [Rep] at r1 r2
    exact op_xor pins s σ _ _ _ _ _ Q I rv ru ⟨_, _, r1, r2, post.here ok rfl⟩
  · -- a bool and an int
    simp only [Rep] at r1 r2
    subst r1 r2
    obtain rfl : a = Value.bool _ := rv
    obtain ⟨tk, rfl⟩ := ru
    unfold opBl at post
    split at post
    · exact PySem.IntBool.add_bool_int ⟨.int _, _, I.tok _, ⟨_, rfl⟩, post.here ok (by simp only [Rep])⟩
    · exact PySem.IntBool.sub_bool_int ⟨.int _, _, I.tok _, ⟨_, rfl⟩, post.here ok (by simp only [Rep])⟩
    · exact post.elim
  · exact post.elim
end
end Fv
end

section
set_option Elab.async false
set_option linter.all false
set_option maxRecDepth 100000
set_option maxHeartbeats 4000000
set_option autoImplicit false
namespace Fv
open PySem PySem.Spec PyProof.Rows L2
mutual
def toPy : D → PyData
  | .bl b => .bool b
  | .int i => .int i
  | .str s => .str (SX.S s)
  | .tup xs => .tuple (toPys xs)
  | .lst xs => .list (toPys xs)
  | _ => .none
def toPys : List D → List PyData
  | [] => []
  | x :: r => toPy x :: toPys r
end
mutual
theorem toPy_depth : ∀ d : D, (toPy d).depth = dep d
  | .unset | .non | .bl _ | .int _ | .str _ | .dic _ _ | .scr _ | .fn _ | .obj _ | .clo _ _ => rfl
  | .tup xs => by simp only [toPy, PyData.depth, dep, toPys_depth xs]
  | .lst xs => by simp only [toPy, PyData.depth, dep, toPys_depth xs]
theorem toPys_depth : ∀ ds : List D, PyData.depthAll (toPys ds) = deps ds
  | [] => rfl
  | x :: r => by simp only [toPys, PyData.depthAll, deps, toPy_depth x, toPys_depth r]
end
theorem S_ok {l : List Nat} (h : ∀ c ∈ l, c < 1114112) : PyData.strOk (SX.S l) = true := by
  unfold PyData.strOk
  simp only [List.size_toArray, List.all_toArray', List.all_eq_true, decide_eq_true_eq]
  exact h
theorem S_beq2 (a b : List Nat) : (SX.S a == SX.S b) = decide (a = b) := SX.S_beq_eq
mutual
theorem eqv_eq : ∀ a b : D, plain a = true → plain b = true → PyData.eqv (toPy a) (toPy b) = eqD a b
  | .unset, _, h, _ => by simp [plain] at h
  | .dic _ _, _, h, _ => by simp [plain] at h
  | .scr _, _, h, _ => by simp [plain] at h
  | .fn _, _, h, _ => by simp [plain] at h
  | .obj _, _, h, _ => by simp [plain] at h
  | .clo _ _, _, h, _ => by simp [plain] at h
  | .non, b, _, h => by cases b <;> first | rfl | simp [plain] at h
  | .bl _, b, _, h => by cases b <;> first | rfl | simp [plain] at h
  | .int _, b, _, h => by cases b <;> first | rfl | simp [plain] at h
  | .str x, b, _, h => by cases b <;> first | rfl | exact S_beq2 _ _ | simp [plain] at h
  | .tup xs, b, h1, h => by
    cases b <;> first | rfl | (simp only [toPy, PyData.eqv, eqD]; exact eqvs_eq _ _ (by simpa [plain] using h1) (by simpa [plain] using h)) | simp [plain] at h
  | .lst xs, b, h1, h => by
    cases b <;> first | rfl | (simp only [toPy, PyData.eqv, eqD]; exact eqvs_eq _ _ (by simpa [plain] using h1) (by simpa [plain] using h)) | simp [plain] at h
theorem eqvs_eq : ∀ a b : List D, plains a = true → plains b = true → PyData.eqvAll (toPys a) (toPys b) = eqDs a b
  | [], [], _, _ => rfl
  | [], _ :: _, _, _ => rfl
  | _ :: _, [], _, _ => rfl
  | x :: xs, y :: ys, h1, h2 => by
    simp only [plains, Bool.and_eq_true] at h1 h2
    simp only [toPys, PyData.eqvAll, eqDs, eqv_eq x y h1.1 h2.1, eqvs_eq xs ys h1.2 h2.2]
end
section
variable {g : Pg} {x : Wo}
mutual
theorem dp_of : ∀ (d : D) (v : V), plain d = true → Rep g x d v → Dp g.K x.h v (toPy d) ∧ (toPy d).canLay0 = true
  | .unset, _, h, _ => by simp [plain] at h
  | .dic _ _, _, h, _ => by simp [plain] at h
  | .scr _, _, h, _ => by simp [plain] at h
  | .fn _, _, h, _ => by simp [plain] at h
  | .obj _, _, h, _ => by simp [plain] at h
  | .clo _ _, _, h, _ => by simp [plain] at h
  | .non, v, _, h => by simp only [Rep] at h; subst h; exact ⟨.non, rfl⟩
  | .bl b, v, _, h => by simp only [Rep] at h; subst h; exact ⟨.bl b, rfl⟩
  | .int b, v, _, h => by simp only [Rep] at h; subst h; exact ⟨.int b, rfl⟩
  | .str b, v, _, h => by simp only [Rep] at h; obtain ⟨rfl, h, _⟩ := h; exact ⟨.str _, S_ok h⟩
  | .tup xs, v, h, h2 => by
    simp only [Rep] at h2
    obtain ⟨a, vs, rfl, h3, h4⟩ := h2
    obtain ⟨q1, q2⟩ := dps_of xs vs (by simpa [plain] using h) h4
    exact ⟨.tup h3 q1, q2⟩
  | .lst xs, v, h, h2 => by
    simp only [Rep] at h2
    obtain ⟨a, vs, rfl, h3, _, h4⟩ := h2
    obtain ⟨q1, q2⟩ := dps_of xs vs (by simpa [plain] using h) h4
    exact ⟨.lst (SqL.of h3) q1, q2⟩
theorem dps_of : ∀ (ds : List D) (vs : List V), plains ds = true → Reps g x ds vs → DpAll g.K x.h vs (toPys ds) ∧ PyData.canLayAll0 (toPys ds) = true
  | [], vs, _, h => by simp only [Reps] at h; subst h; exact ⟨.nil, rfl⟩
  | d :: ds, vs, h, h2 => by
    simp only [Reps] at h2
    simp only [plains, Bool.and_eq_true] at h
    obtain ⟨v, r, rfl, h3, h4⟩ := h2
    obtain ⟨q1, q2⟩ := dp_of d v h.1 h3
    obtain ⟨q3, q4⟩ := dps_of ds r h.2 h4
    exact ⟨.cons q1 q3, by simp only [toPys, PyData.canLayAll0, q2, q4, Bool.and_self]⟩
end
/-- what stands at a cell that is a list -/
theorem rep_deref (ok : Ok g x) {d : D} {v : V} (r : Rep g x d v) : (∃ n ds a vs, d = .obj n ∧ deref x.s d = .lst ds ∧ v = .ref a ∧ x.h a = some (.lst vs) ∧ Reps g x ds vs) ∨
    (∃ n ks ds a kvs, d = .obj n ∧ deref x.s d = .dic ks ds ∧ v = .ref a ∧ x.h a = some (.dK kvs) ∧ kvs.map (·.1) = ks.map (fun k => Sum.inr (SX.S k)) ∧ Reps g x ds (kvs.map (·.2))) ∨ Rep g x (deref x.s d) v := by
  cases d with
  | obj n =>
    have r' := r
    simp only [Rep] at r'
    obtain ⟨a, h1, rfl⟩ := r'
    simp only [deref]
    cases hc : x.s[n]? with
    | none => exact .inr (.inr r)
    | some c =>
      have q := ok.cells n a c h1 hc
      cases c with
      | dead => exact .inr (.inr r)
      | ins _ _ => exact .inr (.inr r)
      | lst ds =>
        obtain ⟨vs, h2, h3⟩ := q
        exact .inl ⟨n, ds, a, vs, rfl, rfl, rfl, h2, h3⟩
      | dic ks ds =>
        obtain ⟨kvs, h2, h3, h4⟩ := q
        exact .inr (.inl ⟨n, ks, ds, a, kvs, rfl, rfl, rfl, h2, h3, h4⟩)
  | _ => exact .inr (.inr r)
theorem dp_deref (ok : Ok g x) {d : D} {v : V} (r : Rep g x d v) (hp : plain (deref x.s d) = true) : Dp g.K x.h v (toPy (deref x.s d)) ∧ (toPy (deref x.s d)).canLay0 = true := by
  rcases rep_deref ok r with ⟨n, ds, a, vs, _, e, rfl, h1, h2⟩ | ⟨n, ks, ds, a, kvs, _, e, _⟩ | h
  · rw [e] at hp ⊢
    obtain ⟨q1, q2⟩ := dps_of ds vs (by simpa [plain] using hp) h2
    exact ⟨.lst (SqL.of h1) q1, q2⟩
  · rw [e] at hp; simp [plain] at hp
  · exact dp_of _ _ hp h
theorem isNon_ok {d : D} {v : V} {b : Bool} (h : isNon d = some b) (r : Rep g x d v) : decide (v = .non) = b := by
  cases d <;> simp only [isNon, Option.some.injEq] at h <;> try cases h
  all_goals simp only [Rep] at r
  · subst r; rfl
  · subst r; rfl
  · subst r; rfl
  · obtain ⟨rfl, _⟩ := r; rfl
  · obtain ⟨a, vs, rfl, _⟩ := r; rfl
  · obtain ⟨a, vs, rfl, _⟩ := r; rfl
  · obtain ⟨a, vs, rfl, _⟩ := r; rfl
  · obtain ⟨a, rfl, _⟩ := r; rfl
  · obtain ⟨rfl, _⟩ := r; rfl
  · obtain ⟨a, _, rfl⟩ := r; rfl
  · obtain ⟨f, pr, bd, sc, N, ql, pm, c', ctv, cl, σ, rfl, _⟩ := r; rfl
end
def rCmp (g : Pg) (op : CmpOp) : R2 := fun v u H Q => ∃ (z : Wo) (d d2 : D) (W : WX) (σ : St), z.h = H ∧ Ok g z ∧ Rep g z d v ∧ Rep g z d2 u ∧ PostG g (Rep g) W σ z (opCmp op d d2 z.s) Q
section
variable {g : Pg} {X : Cx}
theorem seq_in (hK : X.K = g.K) (hu : X.A.units + 200 < cLine) {pins : List (Addr × Obj)} {s : Shared} {σ : St} {z : Wo} {d d2 : D} {v u : V} {a b : Value} {Q : Value → Shared → Prop} (I : Inv X pins σ z.h s) (rv : RelV v a) (ru : RelV u b)
    (ok : Ok g z) (r1 : Rep g z d v) (r2 : Rep g z d2 u) {ys : List D} (hd : deref z.s d2 = .lst ys ∨ deref z.s d2 = .tup ys) (hi : inOk d ys = true) :
    (Q (.bool (ys.any fun y => eqD y d)) s → wpAny (model X.prog X.w) X.A (compareOp .In a b) Q X.xe s) ∧ (Q (.bool (!ys.any fun y => eqD y d)) s → wpAny (model X.prog X.w) X.A (compareOp .NotIn a b) Q X.xe s) := by
  simp only [inOk, Bool.and_eq_true, decide_eq_true_eq] at hi
  obtain ⟨h1, h2, h3⟩ := hi
  obtain ⟨p1, p2⟩ := dp_of d v h1 r1
  have hp : plain (deref z.s d2) = true := by
    rcases hd with e | e <;> rw [e] <;> simpa [plain] using h2
  obtain ⟨p3, p4⟩ := dp_deref ok r2 hp
  rw [← hK] at p1 p3
  obtain ⟨as, q1⟩ := Dp.reads I _ v a p1 rv
  obtain ⟨bs, q2⟩ := Dp.reads I _ u b p3 ru
  have hany : ∀ l : List D, plains l = true → ((toPys l).any fun y => PyData.eqv y (toPy d)) = l.any fun y => eqD y d := by
    intro l
    induction l with
    | nil => intro _; rfl
    | cons y r ih =>
      intro hl
      simp only [plains, Bool.and_eq_true] at hl
      simp only [toPys, List.any_cons, eqv_eq y d hl.1 h1, ih hl.2]
  have hr : X.A.units + 1 + min (PyData.depthAll (toPys ys)) (toPy d).depth < cLine := by
    rw [toPy_depth]
    have := Nat.min_le_right (PyData.depthAll (toPys ys)) (dep d)
    omega
  rcases hd with e | e
  · rw [e] at q2 p4
    exact ⟨fun h => SeqAt.in_list_reads q2 q1 p4 p2 hr (by rw [hany ys h2]; exact h), fun h => SeqAt.notIn_list_reads q2 q1 p4 p2 hr (by rw [hany ys h2]; exact h)⟩
  · rw [e] at q2 p4
    exact ⟨fun h => SeqAt.in_tuple_reads q2 q1 p4 p2 hr (by rw [hany ys h2]; exact h), fun h => SeqAt.notIn_tuple_reads q2 q1 p4 p2 hr (by rw [hany ys h2]; exact h)⟩
theorem deref_str {s : Sto} {d : D} {t : Txt} (h : deref s d = .str t) : d = .str t := by
  cases d with
  | obj n =>
    simp only [deref] at h
    split at h <;> cases h
  | _ => exact h
theorem deref_tup {s : Sto} {d : D} {t : List D} (h : deref s d = .tup t) : d = .tup t := by
  cases d with
  | obj n =>
    simp only [deref] at h
    split at h <;> cases h
  | _ => exact h
theorem opR_cmp (hK : X.K = g.K) (hu : X.A.units + 200 < cLine) (op : CmpOp) : OpR X (compareOp op) (rCmp g op) := by
  intro pins s σ H v u a b Q I rv ru h
  obtain ⟨z, d, d2, W, σ', rfl, ok, r1, r2, post⟩ := h
  cases op with
  | Eq =>
    simp only [opCmp] at post
    split at post
    · rename_i he
      simp only [eqOk, Bool.and_eq_true, decide_eq_true_eq] at he
      obtain ⟨h1, h2, h3⟩ := he
      obtain ⟨p1, c1⟩ := dp_deref ok r1 h1
      obtain ⟨p2, c2⟩ := dp_deref ok r2 h2
      rw [← hK] at p1 p2
      obtain ⟨as, q1⟩ := Dp.reads I _ v a p1 rv
      obtain ⟨bs, q2⟩ := Dp.reads I _ u b p2 ru
      refine SeqAt.compareEq_reads q1 q2 c1 c2 (by rw [toPy_depth, toPy_depth]; omega) ⟨.bl _, z.h, I, rfl, ?_⟩
      rw [eqv_eq _ _ h1 h2]
      exact post.here ok rfl
    · exact post.elim
  | NotEq =>
    simp only [opCmp] at post
    split at post
    · rename_i he
      simp only [eqOk, Bool.and_eq_true, decide_eq_true_eq] at he
      obtain ⟨h1, h2, h3⟩ := he
      obtain ⟨p1, c1⟩ := dp_deref ok r1 h1
      obtain ⟨p2, c2⟩ := dp_deref ok r2 h2
      rw [← hK] at p1 p2
      obtain ⟨as, q1⟩ := Dp.reads I _ v a p1 rv
      obtain ⟨bs, q2⟩ := Dp.reads I _ u b p2 ru
      refine SeqAt.compareNe_reads q1 q2 c1 c2 (by rw [toPy_depth, toPy_depth]; omega) ⟨.bl _, z.h, I, rfl, ?_⟩
      rw [eqv_eq _ _ h1 h2]
      exact post.here ok rfl
    · exact post.elim
  | Lt =>
    simp only [opCmp] at post
    split at post
    · simp only [Rep] at r1 r2
      exact op_lt pins s σ _ _ _ _ _ Q I rv ru ⟨_, _, r1, r2, post.here ok rfl⟩
    · simp only [Rep] at r1 r2
      exact op_lt_str pins s σ _ _ _ _ _ Q I rv ru ⟨_, _, r1.1, r2.1, post.here ok rfl⟩
    · exact post.elim
  | LtE =>
    simp only [opCmp] at post
    split at post
    · simp only [Rep] at r1 r2
      exact op_le pins s σ _ _ _ _ _ Q I rv ru ⟨_, _, r1, r2, post.here ok rfl⟩
    · exact post.elim
  | Gt =>
    simp only [opCmp] at post
    split at post
    · simp only [Rep] at r1 r2
      exact op_gt pins s σ _ _ _ _ _ Q I rv ru ⟨_, _, r1, r2, post.here ok rfl⟩
    · exact post.elim
  | GtE =>
    simp only [opCmp] at post
    split at post
    · simp only [Rep] at r1 r2
      exact op_ge pins s σ _ _ _ _ _ Q I rv ru ⟨_, _, r1, r2, post.here ok rfl⟩
    · exact post.elim
  | Is =>
    simp only [opCmp] at post
    split at post
    · simp only [Rep] at r1 r2
      exact op_isBl pins s σ _ _ _ _ _ Q I rv ru ⟨_, _, r1, r2, post.here ok rfl⟩
    · split at post
      · rename_i hn
        simp only [Rep] at r2
        refine op_isN pins s σ _ _ _ _ _ Q I rv ru ⟨r2, ?_⟩
        rw [isNon_ok hn r1]
        exact post.here ok rfl
      · exact post.elim
    · exact post.elim
  | IsNot =>
    simp only [opCmp] at post
    split at post
    · simp only [Rep] at r1 r2
      exact op_notBl pins s σ _ _ _ _ _ Q I rv ru ⟨_, _, r1, r2, post.here ok rfl⟩
    · split at post
      · rename_i hn
        simp only [Rep] at r2
        refine op_notN pins s σ _ _ _ _ _ Q I rv ru ⟨r2, ?_⟩
        rw [isNon_ok hn r1]
        exact post.here ok rfl
      · exact post.elim
    · exact post.elim
  | In =>
    simp only [opCmp, opIn] at post
    split at post
    · rename_i c t hd
      have e := deref_str hd
      subst e
      simp only [Rep] at r1 r2
      refine op_in_str pins s σ _ _ _ _ _ Q I rv ru ⟨_, _, r1.1, r2.1, ?_⟩
      rw [SX.in_one]
      exact post.here ok rfl
    · split at post
      · rename_i hd hi
        exact (seq_in hK hu I rv ru ok r1 r2 (.inl hd) hi).1 ⟨.bl _, z.h, I, rfl, post.here ok rfl⟩
      · exact post.elim
    · split at post
      · rename_i hd hi
        exact (seq_in hK hu I rv ru ok r1 r2 (.inr hd) hi).1 ⟨.bl _, z.h, I, rfl, post.here ok rfl⟩
      · exact post.elim
    · exact post.elim
  | NotIn =>
    simp only [opCmp, opIn] at post
    split at post
    · rename_i c t hd
      have e := deref_str hd
      subst e
      simp only [Rep] at r1 r2
      refine op_notin_str pins s σ _ _ _ _ _ Q I rv ru ⟨_, _, r1.1, r2.1, ?_⟩
      rw [SX.in_one]
      exact post.here ok rfl
    · split at post
      · rename_i hd hi
        exact (seq_in hK hu I rv ru ok r1 r2 (.inl hd) hi).2 ⟨.bl _, z.h, I, rfl, post.here ok rfl⟩
      · exact post.elim
    · split at post
      · rename_i hd hi
        exact (seq_in hK hu I rv ru ok r1 r2 (.inr hd) hi).2 ⟨.bl _, z.h, I, rfl, post.here ok rfl⟩
      · exact post.elim
    · exact post.elim
end
end Fv
end

section
set_option Elab.async false
set_option linter.all false
set_option maxRecDepth 100000
set_option maxHeartbeats 4000000
set_option autoImplicit false
namespace Fv
open PySem PySem.Spec PyProof.Rows L2
section
variable {g : Pg} {x : Wo}
theorem rep_lst (ok : Ok g x) {d : D} {v : V} {ds : List D} (r : Rep g x d v) (h : deref x.s d = .lst ds) : ∃ a vs, v = .ref a ∧ x.h a = some (.lst vs) ∧ Reps g x ds vs := by
  rcases rep_deref ok r with ⟨n, ds', a, vs, _, e, rfl, h1, h2⟩ | ⟨n, ks, ds', a, kvs, _, e, _⟩ | q
  · rw [h] at e; cases e
    exact ⟨a, vs, rfl, h1, h2⟩
  · rw [h] at e; cases e
  · rw [h] at q
    simp only [Rep] at q
    obtain ⟨a, vs, rfl, h1, _, h2⟩ := q
    exact ⟨a, vs, rfl, h1, h2⟩
theorem rep_tup (ok : Ok g x) {d : D} {v : V} {ds : List D} (r : Rep g x d v) (h : deref x.s d = .tup ds) : ∃ a vs, v = .ref a ∧ SqT g.K x.h a vs ∧ Reps g x ds vs := by
  have e := deref_tup h
  subst e
  simpa only [Rep] using r
theorem deref_scr {s : Sto} {d : D} {t : List Int} (h : deref s d = .scr t) : d = .scr t := by
  cases d with
  | obj n =>
    simp only [deref] at h
    split at h <;> cases h
  | _ => exact h
theorem deref_int {s : Sto} {d : D} {t : Int} (h : deref s d = .int t) : d = .int t := by
  cases d with
  | obj n =>
    simp only [deref] at h
    split at h <;> cases h
  | _ => exact h
theorem deref_bl {s : Sto} {d : D} {t : Bool} (h : deref s d = .bl t) : d = .bl t := by
  cases d with
  | obj n =>
    simp only [deref] at h
    split at h <;> cases h
  | _ => exact h
theorem rep_scr {ns : List Int} {v : V} (r : Rep g x (.scr ns) v) : ∃ a, v = .ref a ∧ SqL g.K x.h a (ns.map V.int) := by
  simp only [Rep] at r
  obtain ⟨a, rfl, ⟨o, h⟩ | ⟨h, _⟩ | h⟩ := r
  · exact ⟨a, rfl, .inl (.inr ⟨o, h⟩)⟩
  · exact ⟨a, rfl, SqL.of h⟩
  · exact ⟨a, rfl, h _⟩
theorem rep_dic (ok : Ok g x) {d : D} {v : V} {ks : List Txt} {ds : List D} (r : Rep g x d v) (h : deref x.s d = .dic ks ds) : ∃ a kvs, v = .ref a ∧ x.h a = some (.dK kvs) ∧ kvs.map (·.1) = ks.map (fun k => Sum.inr (SX.S k)) ∧ Reps g x ds (kvs.map (·.2)) := by
  rcases rep_deref ok r with ⟨n, ds', a, vs, _, e, rfl, h1, h2⟩ | ⟨n, ks', ds', a, kvs, _, e, rfl, h1, h2, h3⟩ | q
  · rw [h] at e; cases e
  · rw [h] at e; cases e
    exact ⟨a, kvs, rfl, h1, h2, h3⟩
  · rw [h] at q
    simp only [Rep] at q
    obtain ⟨a, kvs, rfl, h1, _, h2, h3⟩ := q
    exact ⟨a, kvs, rfl, h1, h2, h3⟩
end
theorem insI_perm (a : Int) : ∀ l : List Int, (insI a l).Perm (a :: l)
  | [] => .refl _
  | b :: r => by
    unfold insI
    split
    · exact .refl _
    · exact ((insI_perm a r).cons b).trans (.swap a b r)
theorem sortI_perm : ∀ l : List Int, (sortI l).Perm l
  | [] => .refl _
  | a :: r => (insI_perm a _).trans ((sortI_perm r).cons a)
theorem insI_sorted (a : Int) : ∀ l : List Int, l.Pairwise (· ≤ ·) → (insI a l).Pairwise (· ≤ ·)
  | [], _ => by simp [insI]
  | b :: r, h => by
    have h' := List.pairwise_cons.mp h
    unfold insI
    split
    · rename_i hab
      refine List.pairwise_cons.mpr ⟨fun c hc => ?_, h⟩
      rcases List.mem_cons.mp hc with rfl | hc
      · exact hab
      · exact Int.le_trans hab (h'.1 c hc)
    · rename_i hab
      refine List.pairwise_cons.mpr ⟨fun c hc => ?_, insI_sorted a r h'.2⟩
      rcases List.mem_cons.mp ((insI_perm a r).mem_iff.mp hc) with rfl | hc
      · omega
      · exact h'.1 c hc
theorem sortI_sorted : ∀ l : List Int, (sortI l).Pairwise (· ≤ ·)
  | [] => .nil
  | a :: r => insI_sorted a _ (sortI_sorted r)
theorem sortI_uniq {l l' : List Int} (h : l'.Perm l) (hs : l'.Pairwise (· ≤ ·)) : l' = sortI l :=
  (h.trans (sortI_perm l).symm).eq_of_pairwise (fun a b _ _ h1 h2 => Int.le_antisymm h1 h2) hs (sortI_sorted l)
theorem insT_perm (a : Txt) : ∀ l : List Txt, (insT a l).Perm (a :: l)
  | [] => .refl _
  | b :: r => by
    unfold insT
    split
    · exact ((insT_perm a r).cons b).trans (.swap a b r)
    · exact .refl _
theorem sortT_perm : ∀ l : List Txt, (sortT l).Perm l
  | [] => .refl _
  | a :: r => (insT_perm a _).trans ((sortT_perm r).cons a)
def leT (a b : Txt) : Prop := ¬ b < a
theorem leT_trans {a b c : Txt} (h1 : leT a b) (h2 : leT b c) : leT a c := by
  have h1' : a ≤ b := h1
  have h2' : b ≤ c := h2
  exact List.le_trans h1' h2'
theorem leT_anti {a b : Txt} (h1 : leT a b) (h2 : leT b a) : a = b := by
  have h1' : a ≤ b := h1
  have h2' : b ≤ a := h2
  exact List.le_antisymm h1' h2'
theorem leT_total {a b : Txt} (h : ¬ leT a b) : leT b a := by
  unfold leT at h ⊢
  have h : b < a := Decidable.not_not.mp h
  exact List.lt_asymm h
theorem insT_sorted (a : Txt) : ∀ l : List Txt, l.Pairwise leT → (insT a l).Pairwise leT
  | [], _ => by simp [insT]
  | b :: r, h => by
    have h' := List.pairwise_cons.mp h
    unfold insT
    split
    · rename_i hab
      refine List.pairwise_cons.mpr ⟨fun c hc => ?_, insT_sorted a r h'.2⟩
      rcases List.mem_cons.mp ((insT_perm a r).mem_iff.mp hc) with rfl | hc
      · exact List.lt_asymm hab
      · exact h'.1 c hc
    · rename_i hab
      refine List.pairwise_cons.mpr ⟨fun c hc => ?_, h⟩
      rcases List.mem_cons.mp hc with rfl | hc
      · exact hab
      · exact leT_trans hab (h'.1 c hc)
theorem sortT_sorted : ∀ l : List Txt, (sortT l).Pairwise leT
  | [] => .nil
  | a :: r => insT_sorted a _ (sortT_sorted r)
theorem sortT_uniq {l l' : List Txt} (h : l'.Perm l) (hs : l'.Pairwise leT) : l' = sortT l :=
  (h.trans (sortT_perm l).symm).eq_of_pairwise (fun a b _ _ h1 h2 => leT_anti h1 h2) hs (sortT_sorted l)
theorem risingS_head : ∀ (ss : List Str) (p : Str), risingS p ss = true → sortedS ss = true ∧ (∀ y ∈ ss, ltCps y.cps.toList p.cps.toList = false)
  | [], _, _ => ⟨rfl, by simp⟩
  | x :: r, p, h => by
    simp only [risingS, Bool.and_eq_true, Bool.not_eq_true'] at h
    refine ⟨h.2, fun y hy => ?_⟩
    rcases List.mem_cons.mp hy with rfl | hy
    · exact h.1
    · have q := (risingS_head r x h.2).2 y hy
      rw [ltCps_eq] at q ⊢
      have q1 := h.1
      rw [ltCps_eq] at q1
      have q : leT x.cps.toList y.cps.toList := of_decide_eq_false q
      have q1 : leT p.cps.toList x.cps.toList := of_decide_eq_false q1
      exact decide_eq_false (leT_trans q1 q)
theorem sortedS_pair : ∀ (ss : List Str), sortedS ss = true → ss.Pairwise (fun a b => leT a.cps.toList b.cps.toList)
  | [], _ => .nil
  | x :: r, h => by
    obtain ⟨h1, h2⟩ := risingS_head r x h
    refine List.pairwise_cons.mpr ⟨fun y hy => ?_, sortedS_pair r h1⟩
    have := h2 y hy
    rw [ltCps_eq] at this
    exact of_decide_eq_false this
theorem S_toList (t : Txt) : (SX.S t).cps.toList = t := rfl
theorem S_of (y : Str) : SX.S y.cps.toList = y := by
  cases y with
  | mk a => rfl
theorem sortT_uniqS {l : List Txt} {ys : List Str} (h : ys.Perm (l.map SX.S)) (hs : sortedS ys = true) : ys = (sortT l).map SX.S := by
  have h1 : (ys.map fun y => y.cps.toList).Perm l := by
    have q := h.map fun y => y.cps.toList
    rw [List.map_map] at q
    have e : (fun y : Str => y.cps.toList) ∘ SX.S = id := by funext t; rfl
    rw [e, List.map_id] at q
    exact q
  have h2 : (ys.map fun y => y.cps.toList).Pairwise leT := List.pairwise_map.mpr (sortedS_pair ys hs)
  rw [← sortT_uniq h1 h2, List.map_map]
  have e : SX.S ∘ (fun y : Str => y.cps.toList) = id := by funext t; exact S_of t
  rw [e, List.map_id]
theorem maxL_mem : ∀ (l : List Int) (a : Int), maxL a l ∈ a :: l
  | [], a => by simp [maxL]
  | b :: r, a => by
    have q := maxL_mem r (if a < b then b else a)
    unfold maxL
    rcases List.mem_cons.mp q with q | q
    · rw [q]
      split <;> simp
    · simp [q]
theorem maxL_ge : ∀ (l : List Int) (a : Int), ∀ y ∈ a :: l, y ≤ maxL a l
  | [], a, y, h => by simp at h; subst h; exact Int.le_refl _
  | b :: r, a, y, h => by
    unfold maxL
    have q := maxL_ge r (if a < b then b else a)
    rcases List.mem_cons.mp h with rfl | h
    · have := q _ (List.mem_cons_self ..)
      split at this <;> split <;> omega
    · rcases List.mem_cons.mp h with rfl | h
      · have := q _ (List.mem_cons_self ..)
        split at this <;> split <;> omega
      · exact q y (List.mem_cons_of_mem _ h)
def rF1 (g : Pg) (f : F1) : List V → Hp → VK → Prop := fun vs H Q => ∃ (z : Wo) (d : D) (v : V) (W : WX) (σ : St), vs = [v] ∧ z.h = H ∧ Ok g z ∧ Rep g z d v ∧ PostG g (Rep g) W σ z (opF1 f d z.s) Q
def rF2 (g : Pg) (f : F2) : List V → Hp → VK → Prop := fun vs H Q => ∃ (z : Wo) (d d2 : D) (v v2 : V) (W : WX) (σ : St), vs = [v, v2] ∧ z.h = H ∧ Ok g z ∧ Rep g z d v ∧ Rep g z d2 v2 ∧ PostG g (Rep g) W σ z (opF2 f d d2 z.s) Q
def f1V : F1 → Value
  | .len => .builtin "len" | .sum => .builtin "sum" | .max => .builtin "max" | .all => .builtin "all" | .any => .builtin "any" | .abs => .builtin "abs"
  | .int => .type "int" | .list => .type "list" | .tuple => .type "tuple" | .sorted => .builtin "sorted"
def f2V : F2 → Value
  | .max => .builtin "max" | .min => .builtin "min"
section
variable {g : Pg} {X : Cx}
theorem CallR.imp {f : Value} {r r' : List V → Hp → VK → Prop} (h : CallR X f r) (hi : ∀ xs H Q, r' xs H Q → r xs H Q) : CallR X f r' := fun pins s σ H xs us Q I rv q => h pins s σ H xs us Q I rv (hi _ _ _ q)
theorem reps_chars (z : Wo) : ∀ {t : Txt}, (∀ c ∈ t, c < 1114112) → Reps g z (t.map fun c => D.str [c]) (t.map fun c => V.str ⟨#[c]⟩)
  | [], _ => by simp [Reps]
  | c :: t, h => by
    simp only [List.map_cons, Reps]
    refine ⟨_, _, rfl, ?_, reps_chars z fun x hx => h x (List.mem_cons_of_mem _ hx)⟩
    show V.str ⟨#[c]⟩ = V.str (SX.S [c]) ∧ (∀ x ∈ [c], x < 1114112) ∧ [c].length ≤ LIM
    refine ⟨rfl, fun x hx => ?_, Nat.le_of_ble_eq_true rfl⟩
    rw [List.mem_singleton] at hx
    subst hx
    exact h _ (List.mem_cons_self ..)
theorem call_list_S (hc : X.calm = true) : CallR X (.type "list") (fun xs H Q => ∃ t : Txt, xs = [.str (SX.S t)] ∧ t.length ≤ sizeLine ∧ ∀ l, H l = none → Q (.ref l) (upd H l (.lst (t.map fun c => V.str ⟨#[c]⟩)))) := by
  intro pins s σ H xs us Q I r h
  obtain ⟨t, rfl, hl, q⟩ := h
  obtain ⟨u, rfl, rx⟩ := vals1 r
  obtain ⟨tk, rfl⟩ := rx
  have hsz : (SX.S t).cps.size = t.length := by simp [SX.S]
  refine call_list_str (I.ok.hd hc) (SX.S t) tk (fun h' tk' acc' c' hk he hi => ?_) (by rw [hsz]; exact hl)
  have hv : Vals (t.map fun c => V.str ⟨#[c]⟩) acc'.toList := by
    obtain ⟨h1, h2⟩ := hi
    rw [hsz] at h1
    have key : ∀ (l : List Nat) (as : List Value), as.length = l.length → (∀ (j : Nat) (v : Value), as[j]? = some v → ∃ (c : Nat) (u : Tok), l[j]? = some c ∧ v = Value.str ⟨#[c]⟩ u) → Vals (l.map fun c => V.str ⟨#[c]⟩) as := by
      intro l
      induction l with
      | nil => intro as h _; cases as with
        | nil => exact .nil
        | cons => simp at h
      | cons c l ih => intro as h h'; cases as with
        | nil => simp at h
        | cons a as =>
          refine .cons ?_ (ih as (by simpa using h) fun j v hj => by simpa using h' (j + 1) v (by simpa using hj))
          obtain ⟨c', u, e1, e2⟩ := h' 0 a rfl
          simp at e1
          subst e1
          exact ⟨u, e2⟩
    refine key t acc'.toList (by simpa using h1) fun j v hj => ?_
    obtain ⟨c, u, e1, e2⟩ := h2 j v (by simpa using hj)
    exact ⟨c, u, by simpa [SX.S] using e1, e2⟩
  exact ⟨.ref _, _, I.laid (t' := tk') hk (Nat.le_refl _) (show ObjOk X.prog X.w _ h' _ (.lst _) from ⟨by rw [List.length_map]; exact hl, acc'.toList, c', hv, by simpa using he⟩), rfl, q _ (I.hok.fresh (Nat.le_refl _))⟩
theorem call_sortedT : CallR X (.builtin "sorted") (fun vs H Q => ∃ (a : Addr) (xs : List Txt), vs = [V.ref a] ∧ SqL X.K H a ((xs.map SX.S).map V.str) ∧ ∀ p, H p = none → Q (.ref p) (upd H p (.lst (((sortT xs).map SX.S).map V.str)))) := by
  intro pins s σ H vs us Q I r h
  obtain ⟨a, xs, rfl, hs, q⟩ := h
  obtain ⟨its, rv, hl, hz⟩ := I.list hs
  rw [Vals.ref1 r]
  have hlen0 := rv.length
  refine PyProof.Rows.sorted_strsAny hl.isList rv.strs (by rw [← hlen0]; exact hz) fun out ys h1 h2 h3 => ?_
  obtain ⟨ep, he'⟩ := PyProof.Rows.sortedAll_at s.heap its out
  have hy := sortT_uniqS h2 h3
  subst hy
  have hlen : (((sortT xs).map SX.S).map V.str).length ≤ sizeLine := by
    rw [List.length_map, h2.length_eq]
    rw [List.length_map] at hz
    exact hz
  exact ⟨.ref _, upd H (s.heap.objs.size + 1) (.lst (((sortT xs).map SX.S).map V.str)), I.laid (t' := s.toks) (fun _ _ => PyProof.Rows.sortedAll_old) (Nat.le_succ _) ⟨hlen, out.toList, ep, vals_of_strs h1, he'⟩, rfl, q _ (I.hok.fresh (Nat.le_succ _))⟩
theorem rF1_ok (hK : X.K = g.K) (hc : X.calm = true) (f : F1) : CallR X (f1V f) (rF1 g f) := by
  cases f with
  | len =>
    refine CallR.imp call_len fun xs H Q h => ?_
    obtain ⟨z, d, v, W, σ, rfl, rfl, ok, r, post⟩ := h
    cases hd : deref z.s d <;> simp only [opF1, hd] at post <;> (try exact post.elim)
    all_goals rw [hK]
    · have e := deref_str hd
      subst e
      simp only [Rep] at r
      obtain ⟨rfl, h1, h2⟩ := r
      exact ⟨_, _, rfl, ⟨by rw [SX.S_len, ← lim_eq]; exact h2, by rw [SX.S_len]⟩, post.here ok rfl⟩
    · obtain ⟨a, vs, rfl, h1, h2⟩ := rep_tup ok r hd
      exact ⟨_, _, rfl, .inr ⟨vs, h1, by rw [reps_len h2]⟩, post.here ok rfl⟩
    · obtain ⟨a, vs, rfl, h1, h2⟩ := rep_lst ok r hd
      exact ⟨_, _, rfl, .inl ⟨vs, SqL.of h1, by rw [reps_len h2]⟩, post.here ok rfl⟩
    · have e := deref_scr hd
      subst e
      obtain ⟨a, rfl, h1⟩ := rep_scr r
      exact ⟨_, _, rfl, .inl ⟨_, h1, by rw [List.length_map]⟩, post.here ok rfl⟩
  | sum =>
    refine CallR.imp (cr_sum hc) fun xs H Q h => ?_
    obtain ⟨z, d, v, W, σ, rfl, rfl, ok, r, post⟩ := h
    cases hd : deref z.s d <;> simp only [opF1, hd] at post <;> (try exact post.elim)
    all_goals rw [hK]
    obtain ⟨a, vs, rfl, h1, h2⟩ := rep_lst ok r hd
    split at post
    · rename_i ns hn
      rw [reps_ints h2 hn] at h1
      exact ⟨_, ns, rfl, SqL.of h1, post.here ok rfl⟩
    · exact post.elim
  | max =>
    refine CallR.imp (cr_max hc) fun xs H Q h => ?_
    obtain ⟨z, d, v, W, σ, rfl, rfl, ok, r, post⟩ := h
    cases hd : deref z.s d <;> simp only [opF1, hd] at post <;> (try exact post.elim)
    all_goals rw [hK]
    obtain ⟨a, vs, rfl, h1, h2⟩ := rep_lst ok r hd
    split at post
    · rename_i n ns hn
      rw [reps_ints h2 hn] at h1
      refine ⟨_, n :: ns, rfl, SqL.of h1, Nat.succ_pos _, fun m hm hg => ?_⟩
      have e : m = maxL n ns := Int.le_antisymm (maxL_ge ns n m hm) (hg _ (maxL_mem ns n))
      rw [e]
      exact post.here ok rfl
    · exact post.elim
  | all =>
    refine CallR.imp (cr_all hc) fun xs H Q h => ?_
    obtain ⟨z, d, v, W, σ, rfl, rfl, ok, r, post⟩ := h
    cases hd : deref z.s d <;> simp only [opF1, hd] at post <;> (try exact post.elim)
    all_goals rw [hK]
    obtain ⟨a, vs, rfl, h1, h2⟩ := rep_lst ok r hd
    split at post
    · rename_i ns hn
      rw [reps_bls h2 hn] at h1
      exact ⟨_, ns, rfl, SqL.of h1, post.here ok rfl⟩
    · exact post.elim
  | any =>
    refine CallR.imp (cr_any hc) fun xs H Q h => ?_
    obtain ⟨z, d, v, W, σ, rfl, rfl, ok, r, post⟩ := h
    cases hd : deref z.s d <;> simp only [opF1, hd] at post <;> (try exact post.elim)
    all_goals rw [hK]
    obtain ⟨a, vs, rfl, h1, h2⟩ := rep_lst ok r hd
    split at post
    · rename_i ns hn
      rw [reps_bls h2 hn] at h1
      exact ⟨_, ns, rfl, SqL.of h1, post.here ok rfl⟩
    · exact post.elim
  | abs =>
    refine CallR.imp call_abs fun xs H Q h => ?_
    obtain ⟨z, d, v, W, σ, rfl, rfl, ok, r, post⟩ := h
    cases hd : deref z.s d <;> simp only [opF1, hd] at post <;> (try exact post.elim)
    have e := deref_int hd
    subst e
    simp only [Rep] at r
    subst r
    exact ⟨_, rfl, post.here ok rfl⟩
  | int =>
    refine CallR.imp call_int1 fun xs H Q h => ?_
    obtain ⟨z, d, v, W, σ, rfl, rfl, ok, r, post⟩ := h
    cases hd : deref z.s d <;> simp only [opF1, hd] at post <;> (try exact post.elim)
    · have e := deref_bl hd
      subst e
      simp only [Rep] at r
      subst r
      exact .inr ⟨_, rfl, post.here ok rfl⟩
    · have e := deref_int hd
      subst e
      simp only [Rep] at r
      subst r
      exact .inl ⟨_, rfl, post.here ok rfl⟩
  | list =>
    intro pins s σ H xs us Q I rv h
    obtain ⟨z, d, v, W, σ', rfl, rfl, ok, r, post⟩ := h
    cases hd : deref z.s d <;> simp only [opF1, hd] at post <;> (try exact post.elim)
    · have e := deref_str hd
      subst e
      simp only [Rep] at r
      obtain ⟨rfl, h1, h2⟩ := r
      exact call_list_S hc pins s σ _ _ us Q I rv ⟨_, rfl, by rw [← lim_eq]; exact h2, post.newL ok (reps_chars z h1)⟩
    · obtain ⟨a, vs, rfl, h1, h2⟩ := rep_tup ok r hd
      exact call_list_of pins s σ _ _ us Q I rv ⟨_, _, rfl, .inr (by rw [hK]; exact h1), post.newL ok h2⟩
    · obtain ⟨a, vs, rfl, h1, h2⟩ := rep_lst ok r hd
      exact call_list_of pins s σ _ _ us Q I rv ⟨_, _, rfl, .inl (SqL.of h1), post.newL ok h2⟩
  | tuple =>
    refine CallR.imp call_tuple_of fun xs H Q h => ?_
    obtain ⟨z, d, v, W, σ, rfl, rfl, ok, r, post⟩ := h
    cases hd : deref z.s d <;> simp only [opF1, hd] at post <;> (try exact post.elim)
    all_goals rw [hK]
    · obtain ⟨a, vs, rfl, h1, h2⟩ := rep_tup ok r hd
      exact ⟨_, _, rfl, .inr ⟨h1, post.here ok (by simp only [Rep]; exact ⟨a, vs, rfl, h1, h2⟩)⟩⟩
    · obtain ⟨a, vs, rfl, h1, h2⟩ := rep_lst ok r hd
      exact ⟨_, _, rfl, .inl ⟨SqL.of h1, post.newT ok h2⟩⟩
  | sorted =>
    intro pins s σ H xs us Q I rv h
    obtain ⟨z, d, v, W, σ', rfl, rfl, ok, r, post⟩ := h
    cases hd : deref z.s d <;> simp only [opF1, hd] at post <;> (try exact post.elim)
    obtain ⟨a, vs, rfl, h1, h2⟩ := rep_lst ok r hd
    split at post
    · rename_i ns hn
      rw [reps_ints h2 hn] at h1
      refine cr_sortedI pins s σ _ _ us Q I rv ⟨_, ns, rfl, SqL.of h1, fun ns' p hp hs hnone => ?_⟩
      rw [sortI_uniq hp hs]
      exact post.newL ok (reps_of_ints _) p hnone
    · split at post
      · rename_i ts hn
        obtain ⟨e, hb⟩ := reps_strs h2 hn
        rw [e] at h1
        exact call_sortedT pins s σ _ _ us Q I rv ⟨_, ts, rfl, SqL.of h1, post.newL ok (reps_of_strs _ fun t ht => hb t ((sortT_perm ts).mem_iff.mp ht))⟩
      · exact post.elim
theorem rF2_ok (hc : X.calm = true) (f : F2) : CallR X (f2V f) (rF2 g f) := by
  cases f with
  | max =>
    refine CallR.imp (call_max2 hc) fun xs H Q h => ?_
    obtain ⟨z, d, d2, v, v2, W, σ, rfl, rfl, ok, r, r2, post⟩ := h
    cases d <;> cases d2 <;> simp only [opF2] at post <;> (try exact post.elim)
    simp only [Rep] at r r2
    subst r r2
    exact ⟨_, _, rfl, post.here ok rfl⟩
  | min =>
    refine CallR.imp (call_min2 hc) fun xs H Q h => ?_
    obtain ⟨z, d, d2, v, v2, W, σ, rfl, rfl, ok, r, r2, post⟩ := h
    cases d <;> cases d2 <;> simp only [opF2] at post <;> (try exact post.elim)
    simp only [Rep] at r r2
    subst r r2
    exact ⟨_, _, rfl, post.here ok rfl⟩
end
end Fv
end

section
set_option Elab.async false
set_option linter.all false
set_option maxRecDepth 100000
set_option maxHeartbeats 4000000
set_option autoImplicit false
namespace Fv
open PySem PySem.Spec PyProof.Rows L2
section
variable {g : Pg} {x : Wo}
theorem reps_atI {ds : List D} {vs : List V} {i : Int} {d : D} (r : Reps g x ds vs) (h : L2.atI ds i = some d) : ∃ v, L2.atI vs i = some v ∧ Rep g x d v := by
  unfold L2.atI at h ⊢
  rw [reps_len r]
  obtain ⟨j, e, h2⟩ := Option.bind_eq_some_iff.mp h
  obtain ⟨v, q1, q2⟩ := reps_get r h2
  exact ⟨v, by rw [e]; exact q1, q2⟩
theorem reps_cut {ds : List D} {vs : List V} (r : Reps g x ds vs) (lo hi : Option Int) : Reps g x (cutL ds lo hi) (cutV vs lo hi) := by
  unfold cutL cutV
  rw [reps_len r]
  exact reps_take _ (reps_drop _ r)
theorem reps_rev : ∀ {ds : List D} {vs : List V}, Reps g x ds vs → Reps g x ds.reverse vs.reverse
  | [], _, h => by simp only [Reps] at h; subst h; simp [Reps]
  | d :: ds, _, h => by
    simp only [Reps] at h
    obtain ⟨v, r, rfl, h3, h4⟩ := h
    rw [List.reverse_cons, List.reverse_cons]
    refine reps_app (reps_rev h4) ?_
    simp only [Reps]
    exact ⟨_, _, rfl, h3, rfl⟩
theorem lookK_ok : ∀ {ks : List Txt} {ds : List D} {kvs : List (Key × V)} {t : Txt} {d : D}, kvs.map (·.1) = ks.map (fun k => Sum.inr (SX.S k)) → Reps g x ds (kvs.map (·.2)) → lookK ks ds t = some d →
    ∃ v, valV kvs (Sum.inr (SX.S t)) = some v ∧ Rep g x d v
  | [], [], _, _, _, _, _, h => by simp [lookK] at h
  | [], _ :: _, _, _, _, _, _, h => by simp [lookK] at h
  | _ :: _, [], _, _, _, _, _, h => by simp [lookK] at h
  | k :: ks, e :: ds, [], t, d, h1, _, _ => by simp at h1
  | k :: ks, e :: ds, (a, v) :: kvs, t, d, h1, h2, h => by
    simp only [List.map_cons, List.cons.injEq] at h1
    simp only [List.map_cons, Reps] at h2
    obtain ⟨v', r, e', h3, h4⟩ := h2
    cases e'
    obtain ⟨rfl, h1⟩ := h1
    unfold lookK at h
    unfold valV
    by_cases hk : k = t
    · subst hk
      simp at h
      subst h
      exact ⟨v, by simp, h3⟩
    · rw [if_neg hk] at h
      have hne : ¬ ((Sum.inr (SX.S k) : Key) = Sum.inr (SX.S t)) := fun z => hk (SX.S_inj (Sum.inr.inj z))
      have ih := lookK_ok h1 h4 h
      unfold valV at ih
      simp only [List.find?_cons, hne, decide_false]
      exact ih
end
def rAt (g : Pg) : R2 := fun v u H Q => ∃ (z : Wo) (d d2 : D) (W : WX) (σ : St), z.h = H ∧ Ok g z ∧ Rep g z d v ∧ Rep g z d2 u ∧ PostG g (Rep g) W σ z (opAt d d2 z.s) Q
section
variable {g : Pg} {X : Cx}
theorem IxR.imp {r r' : R2} (h : IxR X r) (hi : ∀ v u H Q, r' v u H Q → r v u H Q) : IxR X r' := fun value slice pins s σ H x y v u Q I rx ry q e => h value slice pins s σ H x y v u Q I rx ry (hi _ _ _ _ q) e
theorem atI_mem {α : Type} {l : List α} {i : Int} {a : α} (h : L2.atI l i = some a) : a ∈ l := by
  unfold L2.atI at h
  obtain ⟨j, _, h2⟩ := Option.bind_eq_some_iff.mp h
  exact List.mem_of_getElem? h2
theorem ixR_at (hK : X.K = g.K) : IxR X (rAt g) := by
  refine IxR.imp ix_seq fun v u H Q h => ?_
  obtain ⟨z, d, d2, W, σ, rfl, ok, r1, r2, post⟩ := h
  rw [hK]
  cases hd : deref z.s d <;> cases d2 <;> simp only [opAt, hd] at post <;> (try exact post.elim)
  · have e := deref_str hd
    subst e
    split at post
    · rename_i c hc
      simp only [Rep] at r1 r2
      obtain ⟨rfl, h1, h2⟩ := r1
      subst r2
      refine .inr (.inr ⟨_, _, c, rfl, rfl, by rw [SX.S_len, ← lim_eq]; exact h2, hc, ?_⟩)
      have hm := atI_mem hc
      exact post.here ok (show V.str ⟨#[c]⟩ = V.str (SX.S [c]) ∧ (∀ x ∈ [c], x < 1114112) ∧ [c].length ≤ LIM from ⟨rfl, fun x hx => by rw [List.mem_singleton.mp hx]; exact h1 _ hm, Nat.le_of_ble_eq_true rfl⟩)
    · exact post.elim
  · obtain ⟨a, vs, rfl, h1, h2⟩ := rep_tup ok r1 hd
    simp only [Rep] at r2
    subst r2
    split at post
    · rename_i w hw
      obtain ⟨v, q1, q2⟩ := reps_atI h2 hw
      exact .inr (.inl ⟨_, _, _, v, rfl, rfl, h1, q1, post.here ok q2⟩)
    · exact post.elim
  · obtain ⟨a, vs, rfl, h1, h2⟩ := rep_lst ok r1 hd
    simp only [Rep] at r2
    subst r2
    split at post
    · rename_i w hw
      obtain ⟨v, q1, q2⟩ := reps_atI h2 hw
      exact .inl ⟨_, _, _, v, rfl, rfl, SqL.of h1, q1, post.here ok q2⟩
    · exact post.elim
  · have e := deref_scr hd
    subst e
    obtain ⟨a, rfl, h1⟩ := rep_scr r1
    simp only [Rep] at r2
    subst r2
    split at post
    · rename_i w hw
      refine .inl ⟨_, _, _, .int w, rfl, rfl, h1, ?_, post.here ok rfl⟩
      unfold L2.atI at hw ⊢
      rw [List.length_map]
      obtain ⟨j, e, h2⟩ := Option.bind_eq_some_iff.mp hw
      rw [e]
      simp [h2]
    · exact post.elim
end
theorem dg_ok {g : Pg} {z : Wo} {d d2 : D} {v u : V} {W : WX} {σ : St} {Q : VK} (ok : Ok g z) (r1 : Rep g z d v) (r2 : Rep g z d2 u) (post : PostG g (Rep g) W σ z (opDg d d2 z.s) Q) : ∃ a w, v = .ref a ∧ DGet z.h a u (some w) ∧ Q w z.h := by
  cases hd : deref z.s d <;> cases d2 <;> simp only [opDg, hd] at post <;> (try exact post.elim)
  split at post
  · rename_i w hw
    obtain ⟨a, kvs, rfl, h1, h2, h3⟩ := rep_dic ok r1 hd
    obtain ⟨q, h4, h5⟩ := lookK_ok h2 h3 hw
    simp only [Rep] at r2
    obtain ⟨rfl, _⟩ := r2
    exact ⟨a, q, rfl, .inl ⟨kvs, _, .inl h1, rfl, h4.symm⟩, post.here ok h5⟩
  · exact post.elim
section
variable {g : Pg} {X : Cx}
def rSl (g : Pg) : V → Option Int → Option Int → Hp → VK → Prop := fun v lo hi H Q => ∃ (z : Wo) (d : D) (W : WX) (σ : St), z.h = H ∧ Ok g z ∧ Rep g z d v ∧ PostG g (Rep g) W σ z (opSl d lo hi z.s) Q
theorem slR_ok (hK : X.K = g.K) : L2.SlR X (rSl g) := by
  intro pins s σ H x v vl vu lo hi sl Q I rv hs p1 p2 h
  obtain ⟨z, d, W, σ', rfl, ok, r1, post⟩ := h
  cases d <;> simp only [opSl] at post <;> (try exact post.elim)
  · simp only [Rep] at r1
    obtain ⟨rfl, h1, h2⟩ := r1
    refine sl_str pins s σ _ _ v vl vu lo hi sl Q I rv hs p1 p2 ⟨_, rfl, by rw [SX.S_len, ← lim_eq]; exact h2, ?_⟩
    have e : ∀ t : Txt, cutS (SX.S t) lo hi = SX.S (cutL t lo hi) := fun t => by
      unfold cutS cutL
      rw [SX.S_len]
    rw [e]
    refine post.here ok ⟨rfl, fun c hc => h1 c ?_, ?_⟩
    · unfold cutL at hc
      exact List.mem_of_mem_drop (List.mem_of_mem_take hc)
    · unfold cutL
      rw [List.length_take, List.length_drop]
      omega
  · simp only [Rep] at r1
    obtain ⟨a', vs, rfl, h1, h2⟩ := r1
    refine sl_tupA pins s σ _ _ v vl vu lo hi sl Q I rv hs p1 p2 ⟨_, vs, rfl, by rw [hK]; exact h1, fun hfull => ?_, fun _ => post.newT ok (reps_cut h2 lo hi)⟩
    refine post.here ok ?_
    rename_i xs
    have e : cutL xs lo hi = xs := by
      unfold cutL
      rw [← reps_len h2, hfull.1, hfull.2]
      simp [reps_len h2]
    rw [e]
    simp only [Rep]
    exact ⟨a', vs, rfl, h1, h2⟩
  · simp only [Rep] at r1
    obtain ⟨a', vs, rfl, h1, _, h2⟩ := r1
    exact sl_list pins s σ _ _ v vl vu lo hi sl Q I rv hs p1 p2 ⟨_, vs, rfl, SqL.of h1, post.newL ok (reps_cut h2 lo hi)⟩
end
def tyN : Ty → String
  | .tuple => "tuple" | .str => "str" | .int => "int" | .bool => "bool"
theorem isTy_ok {g : Pg} {x : Wo} {t : Ty} {d : D} {v : V} {b : Bool} (h : isTy t d = some b) (r : Rep g x d v) : ∃ T : Value, TyX g.K x.h v T ∧ PySem.W.kitOne g.K T (.type (tyN t)) = some b := by
  cases d <;> simp only [isTy, Option.some.injEq] at h <;> (try cases h)
  · simp only [Rep] at r; subst r
    exact ⟨_, .base .non, by cases t <;> rfl⟩
  · simp only [Rep] at r; subst r
    exact ⟨_, .base (.bl _), by cases t <;> rfl⟩
  · simp only [Rep] at r; subst r
    exact ⟨_, .base (.int _), by cases t <;> rfl⟩
  · simp only [Rep] at r; obtain ⟨rfl, _⟩ := r
    exact ⟨_, .base (.str _), by cases t <;> rfl⟩
  · simp only [Rep] at r
    obtain ⟨a, vs, rfl, h1, _⟩ := r
    refine ⟨.type "tuple", ?_, by cases t <;> rfl⟩
    rcases h1 with (h1 | ⟨o, h1⟩) | ⟨o, its, n, h1, h2, _⟩
    · exact .base (.tup h1)
    · exact .fTuple h1
    · exact .kTuple h1 h2
  · simp only [Rep] at r
    obtain ⟨a, vs, rfl, h1, _⟩ := r
    exact ⟨.type "list", .base (.lst h1), by cases t <;> rfl⟩
def rIsin (g : Pg) (t : Ty) : List V → Hp → VK → Prop := fun vs H Q => ∃ (z : Wo) (d : D) (v : V) (b : Bool), vs = [v, .ty (tyN t)] ∧ z.h = H ∧ Ok g z ∧ Rep g z d v ∧ isTy t d = some b ∧ Q (.bl b) H
theorem rIsin_ok {g : Pg} {X : Cx} (hK : X.K = g.K) (t : Ty) : CallR X (.builtin "isinstance") (rIsin g t) := by
  refine CallR.imp call_isi fun xs H Q h => ?_
  obtain ⟨z, d, v, b, rfl, rfl, ok, r, hb, q⟩ := h
  obtain ⟨T, h1, h2⟩ := isTy_ok hb r
  exact ⟨v, _, T, _, b, rfl, .ty _, by rw [hK]; exact h1, by rw [hK]; exact h2, q⟩
theorem okTxt_ok {t : Txt} (h : okTxt t = true) : (∀ c ∈ t, c < 1114112) ∧ t.length ≤ LIM := by
  simp only [okTxt, Bool.and_eq_true, List.all_eq_true, decide_eq_true_eq] at h
  exact h
theorem joinL_mem (a : Txt) : ∀ (ts : List Txt) (c : Nat), c ∈ TL.joinL a ts → c ∈ a ∨ ∃ t ∈ ts, c ∈ t
  | [], c, h => by simp [TL.joinL] at h
  | [p], c, h => .inr ⟨p, by simp, h⟩
  | p :: q :: r, c, h => by
    simp only [TL.joinL, List.mem_append] at h
    rcases h with h | h | h
    · exact .inr ⟨p, by simp, h⟩
    · exact .inl h
    · rcases joinL_mem a (q :: r) c h with h | ⟨t, h1, h2⟩
      · exact .inl h
      · exact .inr ⟨t, List.mem_cons_of_mem _ h1, h2⟩
theorem joinL_len (a : Txt) : ∀ ts : List Txt, (TL.joinL a ts).length ≤ (ts.map (·.length)).sum + ts.length * a.length
  | [] => by simp [TL.joinL]
  | [p] => by simp [TL.joinL]
  | p :: q :: r => by
    have ih := joinL_len a (q :: r)
    simp only [TL.joinL, List.length_append, List.map_cons, List.sum_cons, List.length_cons] at ih ⊢
    have : (r.length + 1 + 1) * a.length = (r.length + 1) * a.length + a.length := by rw [Nat.add_mul, Nat.one_mul]
    omega
def rM1 (g : Pg) (m : M1) : V → List V → Hp → VK → Prop := fun v vs H Q => ∃ (z : Wo) (d d2 : D) (v2 : V) (W : WX) (σ : St), vs = [v2] ∧ z.h = H ∧ Ok g z ∧ Rep g z d v ∧ Rep g z d2 v2 ∧ PostG g (Rep g) W σ z (opM1 m d d2 z.s) Q
def m1Id : M1 → String
  | .join => "str.join" | .split => "str.split" | .index => "str.index"
def m1Nm : M1 → Str
  | .join => "join" | .split => "split" | .index => "index"
theorem rM1_ok {g : Pg} {X : Cx} (hK : X.K = g.K) (m : M1) : MtR X (m1Id m) (rM1 g m) := by
  intro pins s σ H v xs v' us Q I rv rvs h
  obtain ⟨z, d, d2, v2, W, σ', rfl, rfl, ok, r, r2, post⟩ := h
  cases m with
  | join =>
    cases d <;> cases d2 <;> simp only [opM1] at post <;> (try exact post.elim)
    split at post
    · rename_i ts hts
      split at post
      · rename_i hl
        simp only [Rep] at r r2
        obtain ⟨rfl, h1, h2⟩ := r
        obtain ⟨a, vs, rfl, h3, _, h4⟩ := r2
        obtain ⟨e, hb⟩ := reps_strs h4 hts
        subst e
        refine mt_join pins s σ _ _ _ v' us Q I rv rvs ⟨_, a, ts.map SX.S, rfl, rfl, .inl (SqL.of h3), ?_, ?_⟩
        · rw [SX.lens, SX.S_len, List.length_map]
          exact hl
        · rw [TL.join_eq]
          have e : Str.join (SX.S ‹Txt›) (ts.map SX.S) = SX.S (TL.joinL ‹Txt› ts) := TL.ext_tl (by rw [TL.tl_join, SX.map_S_tl])
          rw [e]
          refine post.here ok ⟨rfl, fun c hc => ?_, Nat.le_trans (joinL_len _ _) hl⟩
          rcases joinL_mem _ _ c hc with q | ⟨t, q1, q2⟩
          · exact h1 c q
          · exact (hb t q1).1 c q2
      · exact post.elim
    · exact post.elim
  | split =>
    cases d <;> cases d2 <;> simp only [opM1] at post <;> (try exact post.elim)
    split at post
    · rename_i hb
      obtain ⟨h1, h2, h3, h4⟩ := hb
      simp only [Rep] at r r2
      obtain ⟨rfl, _⟩ := r
      obtain ⟨rfl, _⟩ := r2
      refine mt_split pins s σ _ _ _ v' us Q I rv rvs ⟨_, _, rfl, rfl, ?_, by rw [SX.S_len, ← lim_eq]; exact h3, ?_⟩
      · rw [SX.S_len]
        cases ‹List Nat› with
        | nil => exact absurd rfl h1
        | cons _ _ => rfl
      · rw [SX.split_S h1 h2]
        exact post.newL ok (reps_of_strs _ fun t ht => okTxt_ok (List.all_eq_true.mp h4 t ht))
    · exact post.elim
  | index =>
    cases d <;> cases d2 <;> simp only [opM1] at post <;> (try exact post.elim)
    split at post
    · rename_i i rest hi
      simp only [Rep] at r r2
      obtain ⟨rfl, _⟩ := r
      obtain ⟨rfl, _⟩ := r2
      exact mt_sindex pins s σ _ _ _ v' us Q I rv rvs ⟨_, _, i, rest, rfl, rfl, by rw [SX.S_len]; exact hi, post.here ok rfl⟩
    · exact post.elim
end Fv
end

section
set_option Elab.async false
set_option linter.all false
set_option maxRecDepth 100000
set_option maxHeartbeats 4000000
set_option autoImplicit false
namespace Fv
open PySem PySem.Spec PyProof.Rows L2
section
variable {g : Pg} {x : Wo}
theorem renv_len : ∀ {env : Envd} {σ : St}, REnv g x env σ → σ.length = env.length
  | [], _, h => by simp only [REnv] at h; rw [h]; rfl
  | d :: ds, _, h => by
    simp only [REnv] at h
    obtain ⟨v, r, rfl, _, h3⟩ := h
    simp [renv_len h3]
theorem renv_get : ∀ {env : Envd} {σ : St} {i : Nat} {d : D}, REnv g x env σ → env[i]? = some d → ∃ v, σ[i]? = some v ∧ (d = .unset ∨ ∃ u, v = some u ∧ Rep g x d u)
  | [], _, _, _, _, h2 => by simp at h2
  | d :: ds, _, 0, _, h, h2 => by
    simp only [REnv] at h
    obtain ⟨v, r, rfl, h3, _⟩ := h
    simp at h2
    subst h2
    exact ⟨v, rfl, h3⟩
  | d :: ds, _, i + 1, e, h, h2 => by
    simp only [REnv] at h
    obtain ⟨v, r, rfl, _, h3⟩ := h
    obtain ⟨u, q1, q2⟩ := renv_get (i := i) (d := e) h3 (by simpa using h2)
    exact ⟨u, by simpa using q1, q2⟩
theorem renv_set : ∀ {env : Envd} {σ : St} (i : Nat) {d : D} {v : Option V}, REnv g x env σ → (d = .unset ∨ ∃ u, v = some u ∧ Rep g x d u) → REnv g x (env.set i d) (σ.set i v)
  | [], _, _, _, _, h, _ => by simp only [REnv] at h; subst h; simp [REnv]
  | d :: ds, _, 0, _, _, h, h2 => by
    simp only [REnv] at h
    obtain ⟨v, r, rfl, _, h3⟩ := h
    simp only [List.set_cons_zero, REnv]
    exact ⟨_, _, rfl, h2, h3⟩
  | d :: ds, _, i + 1, _, _, h, h2 => by
    simp only [REnv] at h
    obtain ⟨v, r, rfl, h1, h3⟩ := h
    simp only [List.set_cons_succ, REnv]
    exact ⟨_, _, rfl, h1, renv_set i h3 h2⟩
theorem renv_put {env : Envd} {σ : St} (i : Nat) {d : D} {v : V} (h : REnv g x env σ) (r : Rep g x d v) : REnv g x (env.set i d) (σ.set i (some v)) := renv_set i h (.inr ⟨v, rfl, r⟩)
theorem renv_wipe {env : Envd} {σ : St} (h : REnv g x env σ) : ∀ vs : List Nat, REnv g x (wipeD env vs) (wipe σ vs)
  | [] => h
  | v :: vs => renv_set v (renv_wipe h vs) (.inl rfl)
end
section
variable {g : Pg} {W : WX} {σ : St} {H : Hp}
theorem tR_bind {α β γ δ : Type} {Rp : Wo → α → β → Prop} {Rq : Wo → γ → δ → Prop} {f : Envd → Sto → R α} {op : Envd → α → Sto → R γ} {Q : δ → Hp → Prop} {Q' : β → Hp → Prop}
    (h : tR g W Rq (fun env s => (f env s).bind (op env)) σ H Q)
    (hk : ∀ (x : Wo) (env : Envd) (d : α) (v : β), Ok g x → REnv g x env σ → Rp x d v → PostG g Rq W σ x (op env d x.s) Q → Q' v x.h) : tR g W Rp f σ H Q' := by
  obtain ⟨x, env, rfl, ok, re, post⟩ := h
  exact ⟨x, env, rfl, ok, re, post.bind ok re fun y d v e ok1 re1 r1 post1 => hk y env d v ok1 re1 r1 post1⟩
theorem tR_bind2 {α β γ δ : Type} {Rp : Wo → α → β → Prop} {Rq : Wo → γ → δ → Prop} {f1 : Envd → Sto → R D} {f2 : Envd → Sto → R α} {op : D → α → Sto → R γ} {Q : δ → Hp → Prop} {Q' : V → β → Hp → Prop}
    (h : tR g W Rq (fun env s => (f1 env s).bind fun a s1 => (f2 env s1).bind fun b s2 => op a b s2) σ H Q)
    (hk : ∀ (z : Wo) (d : D) (d2 : α) (v : V) (u : β), Ok g z → Rep g z d v → Rp z d2 u → PostG g Rq W σ z (op d d2 z.s) Q → Q' v u z.h) :
    tR g W (Rep g) f1 σ H fun v H1 => tR g W Rp f2 σ H1 fun u H2 => Q' v u H2 := by
  obtain ⟨x, env, rfl, ok, re, post⟩ := h
  refine ⟨x, env, rfl, ok, re, post.bind ok re fun y d v e ok1 re1 r1 post1 => ⟨y, env, rfl, ok1, re1, post1.bind ok1 re1 fun z d2 u e2 ok2 re2 r2 post2 => ?_⟩⟩
  exact hk z d d2 v u ok2 (r1.mono ok1 e2) r2 post2
end
structure GX (g : Pg) (k : Nat) (X : Cx) (W : WX) : Prop where
  prog : X.prog = g.P
  w : X.w = g.w
  K : X.K = g.K
  mg : X.mg = g.mg
  base : X.base = g.base
  calm : X.calm = true
  room : Room (k + 1) X.A
  tk : L2N.Takes X W
  nd : X.N.Nodup
theorem GX.hu {g : Pg} {k : Nat} {X : Cx} {W : WX} (G : GX g k X W) : X.A.units + 200 < cLine := by
  have := G.room.un
  omega
/-- the names of the text -/
structure Tx where
  fn : List (Option Str)
  gl : List (Option Str)
  ex : List Str
  nm : Bool
def bltNames : List Str := ["len", "sum", "max", "min", "all", "any", "abs", "int", "list", "tuple", "sorted", "isinstance", "range", "zip", "enumerate", "str", "bool"]
def spOf (g : Pg) (k f : Nat) : Sp := fun vs H Q E => ∃ (z : Wo) (ds : List D), z.h = H ∧ Ok g z ∧ Reps g z ds vs ∧ PostG g (Rep g) (fun v dd _ H => E v dd H) [] z (callF g.T k (.fn f) ds z.s) Q
structure FnAt (g : Pg) (k : Nat) (f : Nat) : Prop where
  ok : ∃ (fd : FuncData) (ps : List Str), FnOk g.P g.w g.K g.mg g.base (L2N.CX g.P g.w) (k + 1) (g.fa f) fd ps (spOf g k f) ∧ Binds g.K fd ps []
  keep : PySem.W.keepIn g.K (.ref (g.fa f)) = true
  lk : ∃ (fd : FuncData) (ps : List Str) (oc : Value) (od : Option Addr) (osl : Array (Option Value)), FnOk g.P g.w g.K g.mg g.base (L2N.CX g.P g.w) (k + 1) (g.fa f) fd ps (spOf g k f) ∧ g.K.lookup (g.fa f) = some ⟨oc, od, .func fd, osl⟩ ∧ ps = fd.params.args.map (·.arg)
/-- an own class of exceptions, raised with one text -/
def ExcAt (g : Pg) (x : Str) (C : Addr) : Prop := ∃ (B newId initId : String) (bmB : List Value), ExcBaseFacts B newId initId bmB ∧ PySem.W.excIn g.K C bmB newId = true ∧ g.mg x = some (.ref C) ∧ PySem.W.keepIn g.K (.ref C) = true ∧
  ∀ (M : Model) (h : Heap), g.K.In h → PySem.W.Looks M h (isSubtype (.ref C) (.type "BaseException")) true ∧ PySem.W.Looks M h (typeOf (.ref C)) (.type "type")
structure TxOk (g : Pg) (t : Tx) : Prop where
  ex : ∀ (i : Nat) (x : Str), t.ex[i]? = some x → x ≠ "__debug__" ∧ ExcAt g x (g.exA i)
  fn : ∀ (f : Nat) (x : Str), t.fn[f]? = some (some x) → g.mg x = some (.ref (g.fa f)) ∧ x ≠ "__debug__" ∧ x ≠ "__name__"
  gl : ∀ (i : Nat) (x : Str), t.gl[i]? = some (some x) → x ≠ "__debug__" ∧ ∃ (u : Value) (v : V), g.mg x = some u ∧ RelV v u ∧ ∀ z, Ok g z → Rep g z (g.T.G i) v
  blt : ∀ x ∈ bltNames, g.mg x = none
  hs : ∀ f : Nat, g.hs f = true ↔ ∃ x : Str, t.fn[f]? = some (some x)
/-- the calls at this depth -/
structure CallsOk (g : Pg) (t : Tx) (k : Nat) : Prop where
  fn : ∀ f : Nat, g.hs f = true → FnAt g k f
def notStar : PySem.Expr → Bool
  | .Starred _ _ => false
  | _ => true
theorem star_ok {e : PySem.Expr} (h : notStar e = true) (es : List PySem.Expr) (env : Env) : starEach (e :: es) env = (false, eval e env) :: starEach es env := by
  cases e <;> first | rfl | cases h
theorem stars_ok {pos : Pos} : ∀ {es : List PySem.Expr}, es.all notStar = true → ∀ env : Env, (backTo pos (starEach es env)).any (·.1) = false
  | [], _, _ => rfl
  | e :: es, h, env => by
    simp only [List.all_cons, Bool.and_eq_true] at h
    rw [star_ok h.1]
    have ih := stars_ok (pos := pos) h.2 env
    unfold backTo at ih ⊢
    simp only [List.map_cons, List.any_cons, Bool.or_eq_false_iff]
    exact ⟨trivial, ih⟩
def notCall0 : PySem.Expr → Bool
  | .Call (.Name _ _) [] [] _ => false
  | _ => true
theorem base_ok {e : PySem.Expr} (h : notCall0 e = true) (m : Str) (env : Env) (w : Sem Value) : attributeBase e m env w = w := by
  unfold attributeBase
  split
  · cases h
  · rfl
def notSlice : PySem.Expr → Bool
  | .Slice _ _ _ _ => false
  | _ => true
theorem plainIx_ok {e : PySem.Expr} (h : notSlice e = true) : PlainIx e := by
  intro o i
  cases e <;> first | rfl | cases h
def notSet : PySem.Expr → Bool
  | .Set _ _ _ => false
  | _ => true
theorem marks_ok {e : PySem.Expr} (h : notSet e = true) (op : CmpOp) : behindInMarks op e = false := by
  cases e <;> first | rfl | cases h
def plainT : PySem.Expr → Bool
  | .UnaryOp .Not _ _ => false
  | .BoolOp _ _ _ => false
  | .IfExp _ _ _ _ => false
  | .Compare _ _ _ _ => false
  | _ => true
theorem plainT_ok {e : PySem.Expr} (h : plainT e = true) (env : Env) (whole : Sem Value) : isTrue e env whole = (do let v ← whole; standAt e.pos; holding [v] (truthy v)) := by
  cases e <;> first | rfl | (exfalso; cases h; done) | skip
  rename_i op a p
  cases op <;> first | rfl | cases h
def visB (sc : Scope) (x : Str) : Bool := sc.names.lookup x == some .local || sc.names.lookup x == some .cell || sc.names.lookup x == some .free
theorem visB_ok {sc : Scope} {x : Str} (h : visB sc x = true) : Vis sc x := by
  unfold visB at h
  simp only [Bool.or_eq_true, beq_iff_eq] at h
  rcases h with (h | h) | h
  · exact .inl h
  · exact .inr (.inl h)
  · exact .inr (.inr h)
def locB (sc : Scope) (x : Str) : Bool := sc.names.lookup x == some .local || sc.names.lookup x == some .cell
theorem locB_ok {sc : Scope} {x : Str} (h : locB sc x = true) : Loc sc x := by
  unfold locB at h
  simp only [Bool.or_eq_true, beq_iff_eq] at h
  exact h
def glB (sc : Scope) (x : Str) : Bool := sc.names.lookup x == some .globalImplicit
theorem glB_ok {X : Cx} {x : Str} (h : glB X.env.scope x = true) : Gl X x := by
  unfold glB at h
  simp only [beq_iff_eq] at h
  exact h
def nmB (x : Str) : Bool := !(x == ("__debug__" : Str)) && !(x == ("__classdict__" : Str))
theorem nmB_ok {x : Str} (h : nmB x = true) : (x == ("__debug__" : Str)) = false ∧ (x == ("__classdict__" : Str)) = false := by
  unfold nmB at h
  simpa only [Bool.and_eq_true, Bool.not_eq_true'] using h
theorem ne_beq {x y : Str} (h : x ≠ y) : (x == y) = false := by
  cases q : x == y with
  | false => rfl
  | true => exact absurd (eq_of_beq q) h
abbrev tC' (g : Pg) (k : Nat) (W : WX) (c : CE) : TT := tR g W (fun (_ : Wo) (b b' : Bool) => b = b') (evC g.T.G (callF g.T k) (some c))
section
variable {g : Pg} {k : Nat} {X : Cx} {W : WX} {a b c : PySem.Expr} {ca cb cc : CE} {pos : Pos}
theorem pt_of (h : PE X a (tE g k W ca)) (hp : plainT a = true) : PT X a (tC' g k W ca) :=
  (pt_val h (plainT_ok hp X.env)).imp fun σ H Q h => tR_bind (op := fun (_ : Envd) (x : D) (s1 : Sto) => match x with
    | .bl b => .ok b s1
    | _ => .bad) h fun x env d v ok re r post => by
      cases d <;> first | exact post.elim | skip
      simp only [Rep] at r
      exact ⟨_, r, post.here ok rfl⟩
theorem pe_var_ok {i : Nat} {x : Str} (hN : X.N[i]? = some x) (hv : visB X.env.scope x = true) (hn : nmB x = true) : PE X (.Name x pos) (tE g k W (.var i)) :=
  (pe_var hN (visB_ok hv) (nmB_ok hn).1 (nmB_ok hn).2).imp fun σ H Q h => by
    obtain ⟨z, env, rfl, ok, re, post⟩ := h
    simp only [evE] at post
    split at post
    · exact post.elim
    · rename_i d hd hi
      obtain ⟨v, q1, q2⟩ := renv_get re hi
      rcases q2 with q2 | ⟨u, rfl, q2⟩
      · exact absurd q2 hd
      · exact ⟨u, q1, post.here ok q2⟩
    · exact post.elim
theorem tc_ok {v : V} {d : D} {ce : CE} {σ : St} {H : Hp} {Q : VK} (he : ∀ env s, evE g.T.G (callF g.T k) ce env s = .ok d s) (hr : ∀ z, Ok g z → Rep g z d v) (h : tE g k W ce σ H Q) : tC v σ H Q := by
  obtain ⟨z, env, rfl, ok, re, post⟩ := h
  rw [he] at post
  exact post.here ok (hr z ok)
theorem pe_non_ok {j : Nat} : PE X (.Constant .none j pos) (tE g k W .non) := pe_non.imp fun _ _ _ h => tc_ok (d := .non) (fun _ _ => rfl) (fun _ _ => rfl) h
theorem pe_bl_ok {j : Nat} {v : Bool} : PE X (.Constant (.bool v) j pos) (tE g k W (.bl v)) := pe_bl.imp fun _ _ _ h => tc_ok (d := .bl v) (fun _ _ => rfl) (fun _ _ => rfl) h
theorem pe_int_ok {j : Nat} {v : Int} : PE X (.Constant (.int v) j pos) (tE g k W (.int v)) := pe_int.imp fun _ _ _ h => tc_ok (d := .int v) (fun _ _ => rfl) (fun _ _ => rfl) h
theorem pe_str_ok {j : Nat} {v : Txt} {x : Str} (hx : x = SX.S v) (hv : okTxt v = true) : PE X (.Constant (.str x) j pos) (tE g k W (.str v)) := by
  subst hx
  exact pe_str.imp fun _ _ _ h => tc_ok (d := .str v) (fun _ _ => rfl) (fun _ _ => ⟨rfl, okTxt_ok hv⟩) h
theorem pe_glob_ok {t : Tx} (T : TxOk g t) (G : GX g k X W) {i : Nat} {x : Str} (hi : t.gl[i]? = some (some x)) (hg : glB X.env.scope x = true) : PE X (.Name x pos) (tE g k W (.glob i)) := by
  obtain ⟨h0, u, v, h1, h2, h3⟩ := T.gl i x hi
  exact (pe_glob (glB_ok hg) (by rw [G.mg]; exact h1) h2 (ne_beq h0)).imp fun _ _ _ h => tc_ok (d := g.T.G i) (fun _ _ => rfl) h3 h
theorem pe_fn_ok {t : Tx} (T : TxOk g t) (G : GX g k X W) {i : Nat} {x : Str} (hi : t.fn[i]? = some (some x)) (hg : glB X.env.scope x = true) : PE X (.Name x pos) (tE g k W (.fnv i)) := by
  obtain ⟨h1, h0, _⟩ := T.fn i x hi
  have hlt : g.hs i = true := (T.hs i).mpr ⟨x, hi⟩
  exact (pe_glob (v := .ref (g.fa i)) (glB_ok hg) (by rw [G.mg]; exact h1) rfl (ne_beq h0)).imp fun _ _ _ h => tc_ok (d := .fn i) (fun _ _ => rfl) (fun _ _ => by simp only [Rep]; exact ⟨trivial, hlt⟩) h
theorem pe_bin_ok (G : GX g k X W) {op : Operator} (ha : PE X a (tE g k W ca)) (hb : PE X b (tE g k W cb)) : PE X (.BinOp a op b pos) (tE g k W (.bin op ca cb)) :=
  (pe_op (opR_bin G.K op) ha hb).imp fun _ _ _ h => tR_bind2 (op := fun d d2 s => opBin op d d2 s) h fun z d d2 v u ok r1 r2 post => ⟨z, d, d2, _, _, rfl, ok, r1, r2, post⟩
theorem pe_cmp_ok (G : GX g k X W) {op : CmpOp} (ha : PE X a (tE g k W ca)) (hb : PE X b (tE g k W cb)) (hs : notSet b = true) : PE X (.Compare a [op] [b] pos) (tE g k W (.cmp op ca cb)) :=
  (pe_cmpR (opR_cmp G.K G.hu op) ha hb (marks_ok hs op)).imp fun _ _ _ h => tR_bind2 (op := fun d d2 s => opCmp op d d2 s) h fun z d d2 v u ok r1 r2 post => ⟨z, d, d2, _, _, rfl, ok, r1, r2, post⟩
theorem opCmp_bl {op : CmpOp} {x y d : D} {s s' : Sto} (h : opCmp op x y s = .ok d s') : (∃ b, d = .bl b) ∧ s' = s := by
  unfold opCmp opIn at h
  cases op <;> simp only at h
  all_goals (repeat' split at h) <;> first | (cases h; exact ⟨⟨_, rfl⟩, rfl⟩) | cases h
theorem opCmp_err {op : CmpOp} {x y : D} {s s' : Sto} {e : Nat} (h : opCmp op x y s = .err e s') : False := by
  unfold opCmp opIn at h
  cases op <;> simp only at h
  all_goals (repeat' split at h) <;> cases h
theorem pt_cmp_ok (G : GX g k X W) {op : CmpOp} (ha : PE X a (tE g k W ca)) (hb : PE X b (tE g k W cb)) (hs : notSet b = true) : PT X (.Compare a [op] [b] pos) (tC' g k W (.cmp op ca cb)) :=
  (pt_cmpR (opR_cmp G.K G.hu op) ha hb (marks_ok hs op)).imp fun σ H Q h => by
    have h' : tR g W (fun (_ : Wo) (b b' : Bool) => b = b') (fun env s => (evE g.T.G (callF g.T k) ca env s).bind fun x s1 => (evE g.T.G (callF g.T k) cb env s1).bind fun y s2 => (opCmp op x y s2).bind fun z s3 => match z with
        | .bl b => R.ok b s3
        | _ => .bad) σ H Q := by
      obtain ⟨x, env, h1, h2, h3, post⟩ := h
      refine ⟨x, env, h1, h2, h3, ?_⟩
      have e : ∀ s, evC g.T.G (callF g.T k) (some (.cmp op ca cb)) env s = (evE g.T.G (callF g.T k) ca env s).bind fun x s1 => (evE g.T.G (callF g.T k) cb env s1).bind fun y s2 => (opCmp op x y s2).bind fun z s3 => match z with
          | .bl b => R.ok b s3
          | _ => .bad := by
        intro s
        simp only [evC, evE]
        cases evE g.T.G (callF g.T k) ca env s with
        | ok x s1 =>
          simp only [R.bind]
          cases evE g.T.G (callF g.T k) cb env s1 <;> rfl
        | err => rfl
        | bad => rfl
      rw [e] at post
      exact post
    refine tR_bind2 (op := fun d d2 s => (opCmp op d d2 s).bind fun z s3 => match z with
        | .bl b => R.ok b s3
        | _ => .bad) h' fun z d d2 v u ok r1 r2 post => ⟨z, d, d2, W, σ, rfl, ok, r1, r2, ?_⟩
    cases hq : opCmp op d d2 z.s with
    | bad => rw [hq] at post; exact post
    | err e s' => exact (opCmp_err hq).elim
    | ok d' s' =>
      obtain ⟨⟨b, rfl⟩, rfl⟩ := opCmp_bl hq
      rw [hq] at post
      intro y e oky es v' rv'
      simp only [Rep] at rv'
      subst rv'
      exact ⟨b, rfl, post y e oky es b rfl⟩
theorem pe_neg_ok (ha : PE X a (tE g k W ca)) : PE X (.UnaryOp .USub a pos) (tE g k W (.neg ca)) :=
  (pe_un un_neg ha).imp fun _ _ _ h => tR_bind (op := fun (_ : Envd) (x : D) (s1 : Sto) => match x with
    | .int i => .ok (D.int (-i)) s1
    | _ => .bad) h fun x env d v ok re r post => by
      cases d <;> first | exact post.elim | skip
      simp only [Rep] at r
      exact ⟨_, r, post.here ok rfl⟩
theorem pe_not_ok (ha : PE X a (tE g k W ca)) : PE X (.UnaryOp .Not a pos) (tE g k W (.not ca)) :=
  (pe_not ha).imp fun _ _ _ h => tR_bind (op := fun (_ : Envd) (x : D) (s1 : Sto) => match x with
    | .bl b => .ok (D.bl (!b)) s1
    | _ => .bad) h fun x env d v ok re r post => by
      cases d <;> first | exact post.elim | skip
      simp only [Rep] at r
      exact ⟨_, r, post.here ok rfl⟩
theorem evC_not (env : Envd) (s : Sto) : evC g.T.G (callF g.T k) (some (.not ca)) env s = (evC g.T.G (callF g.T k) (some ca) env s).bind fun b s1 => .ok (!b) s1 := by
  simp only [evC, evE]
  cases evE g.T.G (callF g.T k) ca env s with
  | ok x s1 => cases x <;> rfl
  | err => rfl
  | bad => rfl
theorem pt_not_ok (ha : PT X a (tC' g k W ca)) : PT X (.UnaryOp .Not a pos) (tC' g k W (.not ca)) :=
  (pt_not ha).imp fun σ H Q h => by
    obtain ⟨x, env, h1, h2, h3, post⟩ := h
    rw [evC_not] at post
    exact tR_bind (op := fun _ b s1 => .ok (!b) s1) ⟨x, env, h1, h2, h3, post⟩ fun x env d v ok re r post => by
      subst r
      exact post.here ok rfl
theorem pe_and_ok {rest : List PySem.Expr} (ha : PE X a (tE g k W ca)) (hb : PE X (.BoolOp .And (b :: rest) pos) (tE g k W cb)) : PE X (.BoolOp .And (a :: b :: rest) pos) (tE g k W (.and ca cb)) :=
  (pe_and ha hb).imp fun _ _ _ h => tR_bind (op := fun (env : Envd) (x : D) (s1 : Sto) => match x with
    | .bl true => evE g.T.G (callF g.T k) cb env s1
    | .bl false => .ok (D.bl false) s1
    | _ => .bad) h fun x env d v ok re r post => by
      cases d <;> first | exact post.elim | skip
      rename_i b
      simp only [Rep] at r
      cases b
      · exact ⟨_, r, by rw [if_neg (by decide)]; exact post.here ok rfl⟩
      · exact ⟨_, r, by rw [if_pos rfl]; exact ⟨x, env, rfl, ok, re, post⟩⟩
theorem pe_or_ok {rest : List PySem.Expr} (ha : PE X a (tE g k W ca)) (hb : PE X (.BoolOp .Or (b :: rest) pos) (tE g k W cb)) : PE X (.BoolOp .Or (a :: b :: rest) pos) (tE g k W (.or ca cb)) :=
  (pe_or ha hb).imp fun _ _ _ h => tR_bind (op := fun (env : Envd) (x : D) (s1 : Sto) => match x with
    | .bl false => evE g.T.G (callF g.T k) cb env s1
    | .bl true => .ok (D.bl true) s1
    | _ => .bad) h fun x env d v ok re r post => by
      cases d <;> first | exact post.elim | skip
      rename_i b
      simp only [Rep] at r
      cases b
      · exact ⟨_, r, by rw [if_neg (by decide)]; exact ⟨x, env, rfl, ok, re, post⟩⟩
      · exact ⟨_, r, by rw [if_pos rfl]; exact post.here ok rfl⟩
theorem evC_and (env : Envd) (s : Sto) : evC g.T.G (callF g.T k) (some (.and ca cb)) env s = (evC g.T.G (callF g.T k) (some ca) env s).bind fun b s1 => if b = true then evC g.T.G (callF g.T k) (some cb) env s1 else .ok false s1 := by
  simp only [evC, evE]
  cases evE g.T.G (callF g.T k) ca env s with
  | ok x s1 => cases x with
    | bl b => cases b <;> rfl
    | _ => rfl
  | err => rfl
  | bad => rfl
theorem evC_or (env : Envd) (s : Sto) : evC g.T.G (callF g.T k) (some (.or ca cb)) env s = (evC g.T.G (callF g.T k) (some ca) env s).bind fun b s1 => if b = true then .ok true s1 else evC g.T.G (callF g.T k) (some cb) env s1 := by
  simp only [evC, evE]
  cases evE g.T.G (callF g.T k) ca env s with
  | ok x s1 => cases x with
    | bl b => cases b <;> rfl
    | _ => rfl
  | err => rfl
  | bad => rfl
theorem pw_and_ok {rest : List PySem.Expr} (ha : PT X a (tC' g k W ca)) (hb : PW X (.BoolOp .And (b :: rest) pos) (tC' g k W cb)) : PW X (.BoolOp .And (a :: b :: rest) pos) (tC' g k W (.and ca cb)) :=
  (pw_and ha hb).imp fun σ H Q h => by
    obtain ⟨x, env, h1, h2, h3, post⟩ := h
    rw [evC_and] at post
    exact tR_bind (op := fun env b s1 => if b = true then evC g.T.G (callF g.T k) (some cb) env s1 else .ok false s1) ⟨x, env, h1, h2, h3, post⟩ fun x env d v ok re r post => by
      subst r
      cases d
      · rw [if_neg (by decide)] at post ⊢; exact post.here ok rfl
      · rw [if_pos rfl] at post ⊢; exact ⟨x, env, rfl, ok, re, post⟩
theorem pw_or_ok {rest : List PySem.Expr} (ha : PT X a (tC' g k W ca)) (hb : PW X (.BoolOp .Or (b :: rest) pos) (tC' g k W cb)) : PW X (.BoolOp .Or (a :: b :: rest) pos) (tC' g k W (.or ca cb)) :=
  (pw_or ha hb).imp fun σ H Q h => by
    obtain ⟨x, env, h1, h2, h3, post⟩ := h
    rw [evC_or] at post
    exact tR_bind (op := fun env b s1 => if b = true then .ok true s1 else evC g.T.G (callF g.T k) (some cb) env s1) ⟨x, env, h1, h2, h3, post⟩ fun x env d v ok re r post => by
      subst r
      cases d
      · rw [if_neg (by decide)] at post ⊢; exact ⟨x, env, rfl, ok, re, post⟩
      · rw [if_pos rfl] at post ⊢; exact post.here ok rfl
theorem pe_ite_ok (hc : PT X c (tC' g k W cc)) (ha : PE X a (tE g k W ca)) (hb : PE X b (tE g k W cb)) : PE X (.IfExp c a b pos) (tE g k W (.ite cc ca cb)) :=
  (pe_ifExp hc ha hb).imp fun σ H Q h => by
    obtain ⟨x, env, h1, h2, h3, post⟩ := h
    have e : ∀ s, evE g.T.G (callF g.T k) (.ite cc ca cb) env s = (evC g.T.G (callF g.T k) (some cc) env s).bind fun b s1 => if b = true then evE g.T.G (callF g.T k) ca env s1 else evE g.T.G (callF g.T k) cb env s1 := by
      intro s
      simp only [evC, evE]
      cases evE g.T.G (callF g.T k) cc env s with
      | ok x s1 => cases x with
        | bl b => cases b <;> rfl
        | _ => rfl
      | err => rfl
      | bad => rfl
    rw [e] at post
    exact tR_bind (op := fun env b s1 => if b = true then evE g.T.G (callF g.T k) ca env s1 else evE g.T.G (callF g.T k) cb env s1) ⟨x, env, h1, h2, h3, post⟩ fun x env d v ok re r post => by
      subst r
      cases d
      · rw [if_neg (by decide)] at post ⊢; exact ⟨x, env, rfl, ok, re, post⟩
      · rw [if_pos rfl] at post ⊢; exact ⟨x, env, rfl, ok, re, post⟩
end
end Fv
end

section
set_option Elab.async false
set_option linter.all false
set_option maxRecDepth 100000
set_option maxHeartbeats 4000000
set_option autoImplicit false
namespace Fv
open PySem PySem.Spec PyProof.Rows L2
section
variable {g : Pg} {k : Nat} {X : Cx} {W : WX} {a b c : PySem.Expr} {ca cb cc : CE} {pos : Pos} {es : List PySem.Expr} {ces : List CE}
theorem pa_nil_ok : PA X [] (tEs g k W []) := pa_nil.imp fun σ H Q h => by
  obtain ⟨z, env, rfl, ok, re, post⟩ := h
  exact post.here ok (by simp only [Reps])
theorem pa_cons_ok (ha : PE X a (tE g k W ca)) (hr : PA X es (tEs g k W ces)) (hs : notStar a = true) : PA X (a :: es) (tEs g k W (ca :: ces)) :=
  (pa_cons ha hr (star_ok hs es X.env)).imp fun σ H Q h => by
    refine tR_bind2 (op := fun (d : D) (ds : List D) (s : Sto) => R.ok (d :: ds) s) h fun z d ds v vs ok r1 r2 post => post.here ok ?_
    simp only [Reps]
    exact ⟨v, vs, rfl, r1, r2⟩
theorem pe_tup_ok {j : Nat} (h : PA X es (tEs g k W ces)) : PE X (.Tuple es j pos) (tE g k W (.tup ces)) :=
  (pe_tup h).imp fun σ H Q h => tR_bind (op := fun (_ : Envd) (ds : List D) (s1 : Sto) => if ds.length ≤ LIM then R.ok (D.tup ds) s1 else .bad) h fun x env ds vs ok re r post => by
    split at post
    · rename_i hl
      exact ⟨by rw [reps_len r, ← lim_eq]; exact hl, post.newT ok r⟩
    · exact post.elim
theorem pe_lst_ok (h : PA X es (tEs g k W ces)) : PE X (.List es pos) (tE g k W (.lst ces)) :=
  (pe_lst h).imp fun σ H Q h => tR_bind (op := fun (_ : Envd) (ds : List D) (s1 : Sto) => if ds.length ≤ LIM then R.ok (D.lst ds) s1 else .bad) h fun x env ds vs ok re r post => by
    split at post
    · rename_i hl
      exact ⟨by rw [reps_len r, ← lim_eq]; exact hl, post.newL ok r⟩
    · exact post.elim
theorem pe_lstN_ok (h : PA X es (tEs g k W ces)) : PE X (.List es pos) (tE g k W (.lstN ces)) :=
  (pe_lst h).imp fun σ H Q h => tR_bind (op := fun (_ : Envd) (ds : List D) (s1 : Sto) => if ds.length ≤ LIM ∧ noClos ds = true then R.ok (D.obj s1.length) (s1 ++ [.lst ds]) else .bad) h fun x env ds vs ok re r post => by
    split at post
    · rename_i hl
      exact ⟨by rw [reps_len r, ← lim_eq]; exact hl.1, post.newC ok r hl.2⟩
    · exact post.elim
def f1N : F1 → Str
  | .len => "len" | .sum => "sum" | .max => "max" | .all => "all" | .any => "any" | .abs => "abs" | .int => "int" | .list => "list" | .tuple => "tuple" | .sorted => "sorted"
def f2N : F2 → Str
  | .max => "max" | .min => "min"
theorem cb1 {f : F1} {σ : St} {H : Hp} {Q : VK} (h : tE g k W (.f1 f ca) σ H Q) : tCB (rF1 g f) (tEs g k W [ca]) σ H Q := by
  obtain ⟨x, env, h1, h2, h3, post⟩ := h
  have e : ∀ s, evE g.T.G (callF g.T k) (.f1 f ca) env s = (evEs g.T.G (callF g.T k) [ca] env s).bind fun ds s1 => match ds with
      | [d] => opF1 f d s1
      | _ => .bad := by
    intro s
    simp only [evE, evEs]
    cases evE g.T.G (callF g.T k) ca env s <;> rfl
  rw [e] at post
  refine tR_bind (op := fun (_ : Envd) (ds : List D) (s1 : Sto) => match ds with
      | [d] => opF1 f d s1
      | _ => .bad) ⟨x, env, h1, h2, h3, post⟩ fun z env ds vs ok re r post => ?_
  match ds, post with
  | [], post => exact post.elim
  | [d], post =>
    simp only [Reps] at r
    obtain ⟨v, r', rfl, r1, rfl⟩ := r
    exact ⟨z, d, v, W, σ, rfl, rfl, ok, r1, post⟩
  | _ :: _ :: _, post => exact post.elim
theorem pe_f1_ok {t : Tx} (T : TxOk g t) (G : GX g k X W) {f : F1} {p : Pos} (ha : PE X a (tE g k W ca)) (hs : notStar a = true) (hg : glB X.env.scope (f1N f) = true) : PE X (.Call (.Name (f1N f) p) [a] [] pos) (tE g k W (.f1 f ca)) := by
  have hA := pa_cons_ok ha pa_nil_ok hs
  have hS := star_ok hs [] X.env
  have hp : (backTo pos (starEach ([] : List PySem.Expr) X.env)).any (·.1) = false := rfl
  have hm : ∀ x ∈ bltNames, X.mg x = none := fun x hx => by rw [G.mg]; exact T.blt x hx
  have hr := rF1_ok (g := g) G.K G.calm f
  cases f with
  | len => exact (pe_callB hr (glB_ok hg) (hm _ (by decide)) rfl hA (by decide) (by decide) hS hp).imp fun _ _ _ h => cb1 h
  | sum => exact (pe_callB hr (glB_ok hg) (hm _ (by decide)) rfl hA (by decide) (by decide) hS hp).imp fun _ _ _ h => cb1 h
  | max => exact (pe_callB hr (glB_ok hg) (hm _ (by decide)) rfl hA (by decide) (by decide) hS hp).imp fun _ _ _ h => cb1 h
  | all => exact (pe_callB hr (glB_ok hg) (hm _ (by decide)) rfl hA (by decide) (by decide) hS hp).imp fun _ _ _ h => cb1 h
  | any => exact (pe_callB hr (glB_ok hg) (hm _ (by decide)) rfl hA (by decide) (by decide) hS hp).imp fun _ _ _ h => cb1 h
  | abs => exact (pe_callB hr (glB_ok hg) (hm _ (by decide)) rfl hA (by decide) (by decide) hS hp).imp fun _ _ _ h => cb1 h
  | sorted => exact (pe_callB hr (glB_ok hg) (hm _ (by decide)) rfl hA (by decide) (by decide) hS hp).imp fun _ _ _ h => cb1 h
  | int => exact (pe_callTy hr (glB_ok hg) (hm _ (by decide)) rfl hA (by decide) (by decide) hS hp).imp fun _ _ _ h => cb1 h
  | list => exact (pe_callTy hr (glB_ok hg) (hm _ (by decide)) rfl hA (by decide) (by decide) hS hp).imp fun _ _ _ h => cb1 h
  | tuple => exact (pe_callTy hr (glB_ok hg) (hm _ (by decide)) rfl hA (by decide) (by decide) hS hp).imp fun _ _ _ h => cb1 h
theorem cb2 {f : F2} {σ : St} {H : Hp} {Q : VK} (h : tE g k W (.f2 f ca cb) σ H Q) : tCB (rF2 g f) (tEs g k W [ca, cb]) σ H Q := by
  obtain ⟨x, env, h1, h2, h3, post⟩ := h
  have e : ∀ s, evE g.T.G (callF g.T k) (.f2 f ca cb) env s = (evEs g.T.G (callF g.T k) [ca, cb] env s).bind fun ds s1 => match ds with
      | [d, d2] => opF2 f d d2 s1
      | _ => .bad := by
    intro s
    simp only [evE, evEs]
    cases evE g.T.G (callF g.T k) ca env s with
    | ok d s1 =>
      simp only [R.bind]
      cases evE g.T.G (callF g.T k) cb env s1 <;> rfl
    | err => rfl
    | bad => rfl
  rw [e] at post
  refine tR_bind (op := fun (_ : Envd) (ds : List D) (s1 : Sto) => match ds with
      | [d, d2] => opF2 f d d2 s1
      | _ => .bad) ⟨x, env, h1, h2, h3, post⟩ fun z env ds vs ok re r post => ?_
  match ds, post with
  | [], post => exact post.elim
  | [_], post => exact post.elim
  | [d, d2], post =>
    simp only [Reps] at r
    obtain ⟨v, r', rfl, r1, v2, r'', rfl, r2, rfl⟩ := r
    exact ⟨z, d, d2, v, v2, W, σ, rfl, rfl, ok, r1, r2, post⟩
  | _ :: _ :: _ :: _, post => exact post.elim
theorem pe_f2_ok {t : Tx} (T : TxOk g t) (G : GX g k X W) {f : F2} {p : Pos} (ha : PE X a (tE g k W ca)) (hb : PE X b (tE g k W cb)) (hs : notStar a = true) (hs2 : notStar b = true) (hg : glB X.env.scope (f2N f) = true) :
    PE X (.Call (.Name (f2N f) p) [a, b] [] pos) (tE g k W (.f2 f ca cb)) := by
  have hA := pa_cons_ok ha (pa_cons_ok hb pa_nil_ok hs2) hs
  have hS := star_ok hs [b] X.env
  have hp : (backTo pos (starEach [b] X.env)).any (·.1) = false := stars_ok (by simp [hs2]) X.env
  have hm : ∀ x ∈ bltNames, X.mg x = none := fun x hx => by rw [G.mg]; exact T.blt x hx
  have hr := rF2_ok (g := g) G.calm f
  cases f with
  | max => exact (pe_callB hr (glB_ok hg) (hm _ (by decide)) rfl hA (by decide) (by decide) hS hp).imp fun _ _ _ h => cb2 h
  | min => exact (pe_callB hr (glB_ok hg) (hm _ (by decide)) rfl hA (by decide) (by decide) hS hp).imp fun _ _ _ h => cb2 h
def tyS : Ty → Str
  | .tuple => "tuple" | .str => "str" | .int => "int" | .bool => "bool"
theorem pe_isin_ok {t : Tx} (T : TxOk g t) (G : GX g k X W) {ty : Ty} {p p2 : Pos} (ha : PE X a (tE g k W ca)) (hs : notStar a = true) (hg : glB X.env.scope "isinstance" = true) (hg2 : glB X.env.scope (tyS ty) = true) :
    PE X (.Call (.Name "isinstance" p) [a, .Name (tyS ty) p2] [] pos) (tE g k W (.isin ca ty)) := by
  have hm : ∀ x ∈ bltNames, X.mg x = none := fun x hx => by rw [G.mg]; exact T.blt x hx
  have hT : PE X (.Name (tyS ty) p2) (tC (.ty (tyN ty))) := by
    cases ty with
    | tuple => exact pe_bltn (glB_ok hg2) (hm _ (by decide)) (u := .type "tuple") rfl rfl (by decide) (by decide)
    | str => exact pe_bltn (glB_ok hg2) (hm _ (by decide)) (u := .type "str") rfl rfl (by decide) (by decide)
    | int => exact pe_bltn (glB_ok hg2) (hm _ (by decide)) (u := .type "int") rfl rfl (by decide) (by decide)
    | bool => exact pe_bltn (glB_ok hg2) (hm _ (by decide)) (u := .type "bool") rfl rfl (by decide) (by decide)
  have hA := pa_cons ha (pa_cons hT pa_nil (star_ok rfl [] X.env)) (star_ok hs [.Name (tyS ty) p2] X.env)
  refine (pe_callB (rIsin_ok (g := g) G.K ty) (glB_ok hg) (hm _ (by decide)) rfl hA (by decide) (by decide) (star_ok hs _ X.env) (stars_ok (by rfl) X.env)).imp fun σ H Q h => ?_
  refine tR_bind (op := fun (_ : Envd) (x : D) (s1 : Sto) => match isTy ty x with
    | some b => R.ok (D.bl b) s1
    | none => .bad) h fun z env d v ok re r post => ?_
  split at post
  · rename_i b hb
    exact ⟨z, d, v, b, rfl, rfl, ok, r, hb, post.here ok rfl⟩
  · exact post.elim
theorem pe_idx_ok (G : GX g k X W) (ha : PE X a (tE g k W ca)) (hb : PE X b (tE g k W cb)) (hs : notSlice b = true) : PE X (.Subscript a b pos) (tE g k W (.idx ca cb)) :=
  (pe_ix (ixR_at G.K) ha hb (plainIx_ok hs)).imp fun _ _ _ h => tR_bind2 (op := fun d d2 s => opAt d d2 s) h fun z d d2 v u ok r1 r2 post => ⟨z, d, d2, _, _, rfl, ok, r1, r2, post⟩
theorem pe_dget_ok (G : GX g k X W) (ha : PE X a (tE g k W ca)) (hb : PE X b (tE g k W cb)) (hs : notSlice b = true) : PE X (.Subscript a b pos) (tE g k W (.dget ca cb)) :=
  (pe_dget (by have := G.hu; omega) ha hb (plainIx_ok hs)).imp fun _ _ _ h => tR_bind2 (op := fun d d2 s => opDg d d2 s) h fun z d d2 v u ok r1 r2 post => dg_ok ok r1 r2 post
theorem pe_m1_ok (G : GX g k X W) {m : M1} {apos : Pos} (ha : PE X a (tE g k W ca)) (hb : PE X b (tE g k W cb)) (hs : notStar b = true) (hc : notCall0 a = true) (hl : (apos.endLine == pos.line) = true) :
    PE X (.Call (.Attribute a (m1Nm m) apos) [b] [] pos) (tE g k W (.m1 m ca cb)) := by
  have hr := rM1_ok (g := g) G.K m
  have hS := star_ok hs [] X.env
  have fin : ∀ σ H Q, tE g k W (.m1 m ca cb) σ H Q → tM1 (rM1 g m) (tE g k W ca) (tE g k W cb) σ H Q := fun σ H Q h => by
    obtain ⟨x, env, rfl, ok, re, post⟩ := h
    refine ⟨x, env, rfl, ok, re, post.bind ok re fun y d v e ok1 re1 r1 post1 => ?_⟩
    split at post1
    · rename_i hd
      cases d <;> simp only [isStr] at hd <;> try cases hd
      refine ⟨?_, y, env, rfl, ok1, re1, post1.bind ok1 re1 fun z d2 v2 e2 ok2 re2 r2 post2 => ⟨z, _, d2, v2, W, σ, rfl, rfl, ok2, r1.mono ok1 e2, r2, post2⟩⟩
      simp only [Rep] at r1
      exact ⟨_, r1.1⟩
    · exact post1.elim
  cases m with
  | join => exact (pe_m1 F.slot_str_join F.type_str_join hr ha hb hS (base_ok hc _ _ _) hl).imp fin
  | split => exact (pe_m1 F.slot_str_split F.type_str_split hr ha hb hS (base_ok hc _ _ _) hl).imp fin
  | index => exact (pe_m1 F.slot_str_index F.type_str_index hr ha hb hS (base_ok hc _ _ _) hl).imp fin
abbrev tO (g : Pg) (k : Nat) (W : WX) (c : Option CE) : TO := tR g W (fun (_ : Wo) (d i : Option Int) => d = i) (evO g.T.G (callF g.T k) c)
theorem po_none_ok : PO X none (tO g k W none) := ⟨fun pins s σ H Q I h => po_none.run pins s σ H Q I (by
  obtain ⟨z, env, rfl, ok, re, post⟩ := h
  exact post.here (d := none) ok rfl)⟩
theorem po_some_ok (h : PE X a (tE g k W ca)) : PO X (some a) (tO g k W (some ca)) := ⟨fun pins s σ H Q I q => (po_some h).run pins s σ H Q I (by
  refine tR_bind (op := fun (_ : Envd) (x : D) (s1 : Sto) => match x with
    | .int i => R.ok (some i) s1
    | _ => .bad) q fun x env d v ok re r post => ?_
  cases d <;> first | exact post.elim | skip
  simp only [Rep] at r
  exact ⟨_, r, post.here (d := some _) ok rfl⟩)⟩
theorem pe_sl_ok (G : GX g k X W) {lo hi : Option PySem.Expr} {cl ch : Option CE} {p2 : Pos} (ha : PE X a (tE g k W ca)) (hl : PO X lo (tO g k W cl)) (hh : PO X hi (tO g k W ch)) : PE X (.Subscript a (.Slice lo hi none p2) pos) (tE g k W (.sl ca cl ch)) :=
  (pe_slice (slR_ok G.K) ha hl hh).imp fun σ H Q h => by
    obtain ⟨x, env, rfl, ok, re, post⟩ := h
    refine ⟨x, env, rfl, ok, re, post.bind ok re fun y d v e ok1 re1 r1 post1 => ⟨y, env, rfl, ok1, re1, post1.bind ok1 re1 fun y2 l l' e2 ok2 re2 r2 post2 => ⟨y2, env, rfl, ok2, re2, post2.bind ok2 re2 fun y3 u u' e3 ok3 re3 r3 post3 => ?_⟩⟩⟩
    subst r2 r3
    exact ⟨y3, d, W, σ, rfl, ok3, (r1.mono ok1 e2).mono ok2 e3, post3⟩
theorem chain_post {o1 : CmpOp} {z : Wo} {d d2 : D} {σ : St} {Q Q' : VK} {f : Sto → R D} {W' : WX}
    (post : PostG g (Rep g) W σ z ((opCmp o1 d d2 z.s).bind fun y s3 => match y with
      | .bl true => f s3
      | .bl false => .ok (.bl false) s3
      | _ => .bad) Q) (ok : Ok g z)
    (hQ : ∀ (y : Wo) (b : Bool), Ext z y → Ok g y → y.s = z.s → PostG g (Rep g) W σ y (if b = true then f y.s else .ok (.bl false) y.s) Q → Q' (.bl b) y.h) : PostG g (Rep g) W' σ z (opCmp o1 d d2 z.s) Q' := by
  cases hq : opCmp o1 d d2 z.s with
  | bad => rw [hq] at post; exact post.elim
  | err e s' => exact (opCmp_err hq).elim
  | ok d' s' =>
    obtain ⟨⟨b, rfl⟩, rfl⟩ := opCmp_bl hq
    rw [hq] at post
    intro y e oky es v' rv'
    simp only [Rep] at rv'
    subst rv'
    refine hQ y b e oky es ?_
    rw [es]
    cases b
    · rw [if_neg (by decide)]; exact post.ext e
    · rw [if_pos rfl]; exact post.ext e
theorem pe_chain_ok (G : GX g k X W) {o1 o2 : CmpOp} (ha : PE X a (tE g k W ca)) (hb : PE X b (tE g k W cb)) (hc : PE X c (tE g k W cc)) (hs : notSet c = true) : PE X (.Compare a [o1, o2] [b, c] pos) (tE g k W (.chain o1 o2 ca cb cc)) :=
  (pe_chain (opR_cmp G.K G.hu o1) (opR_cmp G.K G.hu o2) ha hb hc (by simpa [lastMarks] using marks_ok hs o2)).imp fun σ H Q h => by
    obtain ⟨x, env, rfl, ok, re, post⟩ := h
    refine ⟨x, env, rfl, ok, re, post.bind ok re fun y d v e ok1 re1 r1 post1 => ⟨y, env, rfl, ok1, re1, post1.bind ok1 re1 fun z d2 v2 e2 ok2 re2 r2 post2 => ⟨z, d, d2, W, σ, rfl, ok2, r1.mono ok1 e2, r2, ?_⟩⟩⟩
    refine chain_post (f := fun s3 => (evE g.T.G (callF g.T k) cc env s3).bind fun w s4 => opCmp o2 d2 w s4) post2 ok2 fun y3 b e3 ok3 es3 post3 => ⟨b, rfl, ?_⟩
    cases b
    · rw [if_neg (by decide)] at post3 ⊢; exact post3.here ok3 rfl
    · rw [if_pos rfl] at post3 ⊢
      exact ⟨y3, env, rfl, ok3, re2.mono ok2 e3, post3.bind ok3 (re2.mono ok2 e3) fun y4 w u e4 ok4 re4 r4 post4 => ⟨y4, d2, w, W, σ, rfl, ok4, (r2.mono ok2 e3).mono ok3 e4, r4, post4⟩⟩
theorem pt_chain_ok (G : GX g k X W) {o1 o2 : CmpOp} (ha : PE X a (tE g k W ca)) (hb : PE X b (tE g k W cb)) (hc : PE X c (tE g k W cc)) (hs : notSet c = true) : PT X (.Compare a [o1, o2] [b, c] pos) (tC' g k W (.chain o1 o2 ca cb cc)) :=
  (pt_chain (opR_cmp G.K G.hu o1) (opR_cmp G.K G.hu o2) ha hb hc (by simpa [lastMarks] using marks_ok hs o2)).imp fun σ H Q h => by
    have h' : tR g W (Rep g) (evE g.T.G (callF g.T k) (.chain o1 o2 ca cb cc)) σ H fun x H' => ∃ k, x = .bl k ∧ Q k H' :=
      tR_bind (op := fun (_ : Envd) (x : D) (s1 : Sto) => match x with
        | .bl b => R.ok b s1
        | _ => .bad) h fun x env d v ok re r post => by
          cases d <;> first | exact post.elim | skip
          simp only [Rep] at r
          exact ⟨_, r, post.here ok rfl⟩
    obtain ⟨x, env, rfl, ok, re, post⟩ := h'
    refine ⟨x, env, rfl, ok, re, post.bind ok re fun y d v e ok1 re1 r1 post1 => ⟨y, env, rfl, ok1, re1, post1.bind ok1 re1 fun z d2 v2 e2 ok2 re2 r2 post2 => ⟨z, d, d2, W, σ, rfl, ok2, r1.mono ok1 e2, r2, ?_⟩⟩⟩
    refine chain_post (f := fun s3 => (evE g.T.G (callF g.T k) cc env s3).bind fun w s4 => opCmp o2 d2 w s4) post2 ok2 fun y3 b e3 ok3 es3 post3 => ⟨b, rfl, ?_⟩
    cases b
    · rw [if_neg (by decide)] at post3 ⊢; exact post3.here ok3 rfl
    · rw [if_pos rfl] at post3 ⊢
      exact ⟨y3, env, rfl, ok3, re2.mono ok2 e3, post3.bind ok3 (re2.mono ok2 e3) fun y4 w u e4 ok4 re4 r4 post4 => ⟨y4, d2, w, W, σ, rfl, ok4, (r2.mono ok2 e3).mono ok3 e4, r4, post4⟩⟩
theorem run_call {t : Tx} (T : TxOk g t) (G : GX g k X W) {f : Nat} (F : FnAt g k f) {x : Str} (hx : t.fn[f]? = some (some x)) :
    ∃ (fd : FuncData) (ps : List Str), FnOk X.prog X.w X.K X.mg X.base (L2N.CX X.prog X.w) (k + 1) (g.fa f) fd ps (spOf g k f) ∧ Binds X.K fd ps [] ∧ X.mg x = some (.ref (g.fa f)) ∧ PySem.W.keepIn X.K (.ref (g.fa f)) = true := by
  obtain ⟨fd, ps, h1, h2⟩ := F.ok
  refine ⟨fd, ps, ?_, by rw [G.K]; exact h2, by rw [G.mg]; exact (T.fn f x hx).1, by rw [G.K]; exact F.keep⟩
  rw [G.prog, G.w, G.K, G.mg, G.base]
  exact h1
theorem sp_ok {f : Nat} {z : Wo} {ds : List D} {vs : List V} {σ : St} {Q : VK} (ok : Ok g z) (r : Reps g z ds vs) (post : PostG g (Rep g) W σ z (callF g.T k (.fn f) ds z.s) Q) : spOf g k f vs z.h Q (WE W σ) := ⟨z, ds, rfl, ok, r, post⟩
theorem pe_call_ok {t : Tx} (T : TxOk g t) (G : GX g k X W) {f : Nat} (F : FnAt g k f) {x : Str} {p : Pos} (hx : t.fn[f]? = some (some x)) (hg : glB X.env.scope x = true) (ha : PA X (a :: es) (tEs g k W (ca :: ces))) (hs : (a :: es).all notStar = true) :
    PE X (.Call (.Name x p) (a :: es) [] pos) (tE g k W (.call f (ca :: ces))) := by
  obtain ⟨fd, ps, h1, h2, h3, h4⟩ := run_call T G F hx
  have hs' := hs
  simp only [List.all_cons, Bool.and_eq_true] at hs'
  refine (pe_callS (E := WE W) h1 G.room (glB_ok hg) h3 h4 h2 (L2N.passAt G.tk) ha (ne_beq (T.fn f x hx).2.1) (star_ok hs'.1 es X.env) (stars_ok hs'.2 X.env)).imp fun σ H Q h => ?_
  exact tR_bind (op := fun (_ : Envd) (ds : List D) (s1 : Sto) => callF g.T k (.fn f) ds s1) h fun z env ds vs ok re r post => sp_ok ok r post
theorem pe_call0_ok {t : Tx} (T : TxOk g t) (G : GX g k X W) {f : Nat} (F : FnAt g k f) {x : Str} {p : Pos} (hx : t.fn[f]? = some (some x)) (hg : glB X.env.scope x = true) : PE X (.Call (.Name x p) [] [] pos) (tE g k W (.call f [])) := by
  obtain ⟨fd, ps, h1, h2, h3, h4⟩ := run_call T G F hx
  refine ⟨fun pins s σ H Q I h => ?_⟩
  refine wpAny_Call_Name_kw (ld_glob I (glB_ok hg) h3 ?_ (ne_beq (T.fn f x hx).2.1))
  refine PySem.W.callWith_K0 I.kIn h4 (run_fnS (us := []) (E := WE W) h1 G.room h2 (L2N.passAt G.tk σ) I .nil ?_)
  obtain ⟨z, env, rfl, ok, re, post⟩ := h
  exact sp_ok ok (by simp only [Reps]) post
end
end Fv
end

section
set_option Elab.async false
set_option linter.all false
set_option maxRecDepth 100000
set_option maxHeartbeats 4000000
set_option autoImplicit false
namespace Fv
open PySem PySem.Spec PyProof.Rows L2
mutual
def vars : Tg → List Nat
  | .v i => [i]
  | .t ts => varss ts
def varss : List Tg → List Nat
  | [] => []
  | t :: ts => vars t ++ varss ts
end
def tgR (g : Pg) (t : Tg) : TG := fun v σ H Q => ∃ (x : Wo) (env env' : Envd) (d : D), x.h = H ∧ Ok g x ∧ REnv g x env σ ∧ Rep g x d v ∧ bindTg t d env = some env' ∧
  ∀ σ', REnv g x env' σ' → (∀ i, i ∉ vars t → σ'[i]? = σ[i]?) → Q σ' H
def tgsR (g : Pg) (ts : List Tg) : TGs := fun vs σ H Q => ∃ (x : Wo) (env env' : Envd) (ds : List D), x.h = H ∧ Ok g x ∧ REnv g x env σ ∧ Reps g x ds vs ∧ bindTgs ts ds env = some env' ∧
  ∀ σ', REnv g x env' σ' → (∀ i, i ∉ varss ts → σ'[i]? = σ[i]?) → Q σ' H
mutual
def chkTg (N : List Str) (sc : Str → Bool) : Tg → PySem.Expr → Bool
  | .v i, .Name x _ => decide (N[i]? = some x) && sc x
  | .t ts, .Tuple es _ _ => chkTgs N sc ts es
  | _, _ => false
def chkTgs (N : List Str) (sc : Str → Bool) : List Tg → List PySem.Expr → Bool
  | [], [] => true
  | t :: ts, e :: es => chkTg N sc t e && chkTgs N sc ts es
  | _, _ => false
end
theorem bindTgs_len : ∀ {ts : List Tg} {ds : List D} {env env' : Envd}, bindTgs ts ds env = some env' → ds.length = ts.length
  | [], [], _, _, _ => rfl
  | [], _ :: _, _, _, h => by simp [bindTgs] at h
  | _ :: _, [], _, _, h => by simp [bindTgs] at h
  | t :: ts, d :: ds, env, env', h => by
    simp only [bindTgs] at h
    obtain ⟨e1, _, h2⟩ := Option.bind_eq_some_iff.mp h
    simp [bindTgs_len h2]
theorem chkTgs_len {N : List Str} {sc : Str → Bool} : ∀ {ts : List Tg} {es : List PySem.Expr}, chkTgs N sc ts es = true → es.length = ts.length
  | [], [], _ => rfl
  | [], _ :: _, h => by simp [chkTgs] at h
  | _ :: _, [], h => by simp [chkTgs] at h
  | t :: ts, e :: es, h => by
    simp only [chkTgs, Bool.and_eq_true] at h
    simp [chkTgs_len h.2]
theorem chkTg_star {N : List Str} {sc : Str → Bool} {t : Tg} {e : PySem.Expr} (h : chkTg N sc t e = true) (es : List PySem.Expr) (env : Env) : assignEach (e :: es) env = (false, assign e env) :: assignEach es env := by
  cases t <;> cases e <;> first | rfl | (simp [chkTg] at h)
theorem chkTgs_star {N : List Str} {sc : Str → Bool} : ∀ {ts : List Tg} {es : List PySem.Expr}, chkTgs N sc ts es = true → ∀ env : Env, (assignEach es env).length = es.length ∧ (assignEach es env).findIdx? (·.1) = none
  | [], [], _, _ => ⟨rfl, rfl⟩
  | [], _ :: _, h, _ => by simp [chkTgs] at h
  | _ :: _, [], h, _ => by simp [chkTgs] at h
  | t :: ts, e :: es, h, env => by
    simp only [chkTgs, Bool.and_eq_true] at h
    rw [chkTg_star h.1]
    obtain ⟨h1, h2⟩ := chkTgs_star h.2 env
    refine ⟨by simp [h1], ?_⟩
    rw [List.findIdx?_cons]
    simp [h2]
section
variable {g : Pg} {k : Nat} {X : Cx} {W : WX}
/-- what may be assigned here -/
def AsgOk (X : Cx) (asg : Str → Bool) : Prop := ∀ x, asg x = true → Loc X.env.scope x ∧ (X.fn x = true ∨ X.env.scope.names.lookup x = some .local)
mutual
theorem pg_ok (G : GX g k X W) {asg : Str → Bool} (A : AsgOk X asg) : ∀ (t : Tg) (e : PySem.Expr), chkTg X.N asg t e = true → PG X e (tgR g t)
  | .v i, e, h => by
    cases e <;> simp only [chkTg, Bool.and_eq_true, decide_eq_true_eq] at h <;> try cases h
    rename_i x pos h1 h2
    obtain ⟨hl, hf⟩ := A x h2
    refine ⟨fun pins s σ H v u Q I r q => (pg_name G.nd h1 hl hf).run pins s σ H v u Q I r ?_⟩
    obtain ⟨z, env, env', d, rfl, ok, re, rd, hb, hq⟩ := q
    simp only [bindTg] at hb
    split at hb
    · cases hb
      refine hq _ (renv_put i re rd) fun j hj => ?_
      simp only [vars, List.mem_singleton] at hj
      rw [List.getElem?_set_ne (Ne.symm hj)]
    · cases hb
  | .t ts, e, h => by
    cases e <;> simp only [chkTg] at h <;> try cases h
    rename_i es k pos
    have hl := chkTgs_len h
    obtain ⟨h1, h2⟩ := chkTgs_star h X.env
    have hs := pgs_ok G A ts es h
    refine ⟨fun pins s σ H v u Q I r q => ?_⟩
    obtain ⟨z, env, env', d, rfl, ok, re, rd, hb, hq⟩ := q
    cases d <;> simp only [bindTg] at hb <;> try cases hb
    · simp only [Rep] at rd
      obtain ⟨a, vs, rfl, q1, q2⟩ := rd
      refine (pg_tup G.calm hs h1 h2).run pins s σ _ _ u Q I r ⟨a, vs, rfl, by rw [G.K]; exact q1, ?_, z, env, env', _, rfl, ok, re, q2, hb, hq⟩
      rw [reps_len q2, bindTgs_len hb, hl]
    · simp only [Rep] at rd
      obtain ⟨a, vs, rfl, q1, _, q2⟩ := rd
      refine (pg_unl G.calm hs h1 h2).run pins s σ _ _ u Q I r ⟨a, vs, rfl, SqL.of q1, ?_, z, env, env', _, rfl, ok, re, q2, hb, hq⟩
      rw [reps_len q2, bindTgs_len hb, hl]
theorem pgs_ok (G : GX g k X W) {asg : Str → Bool} (A : AsgOk X asg) : ∀ (ts : List Tg) (es : List PySem.Expr), chkTgs X.N asg ts es = true → PGs X es (tgsR g ts)
  | [], [], _ => ⟨fun pins s σ H vs us Q I r q => pgs_nil.run pins s σ H vs us Q I r (by
      obtain ⟨z, env, env', ds, rfl, ok, re, rd, hb, hq⟩ := q
      cases ds with
      | nil =>
        simp only [Reps] at rd
        simp only [bindTgs, Option.some.injEq] at hb
        subst hb
        exact ⟨rd, hq σ re fun _ _ => rfl⟩
      | cons => simp [bindTgs] at hb)⟩
  | [], _ :: _, h => by simp [chkTgs] at h
  | _ :: _, [], h => by simp [chkTgs] at h
  | t :: ts, e :: es, h => by
    simp only [chkTgs, Bool.and_eq_true] at h
    have h1 := pg_ok G A t e h.1
    have h2 := pgs_ok G A ts es h.2
    refine ⟨fun pins s σ H vs us Q I r q => (pgs_cons h1 h2 (by rw [chkTg_star h.1]; rfl)).run pins s σ H vs us Q I r ?_⟩
    obtain ⟨z, env, env', ds, rfl, ok, re, rd, hb, hq⟩ := q
    cases ds with
    | nil => simp [bindTgs] at hb
    | cons d ds =>
      simp only [Reps] at rd
      obtain ⟨v, r', rfl, q1, q2⟩ := rd
      simp only [bindTgs] at hb
      obtain ⟨e1, hb1, hb2⟩ := Option.bind_eq_some_iff.mp hb
      refine ⟨v, r', rfl, z, env, e1, d, rfl, ok, re, q1, hb1, fun σ1 re1 k1 => ⟨z, e1, env', ds, rfl, ok, re1, q2, hb2, fun σ2 re2 k2 => hq σ2 re2 fun i hi => ?_⟩⟩
      simp only [varss, List.mem_append, not_or] at hi
      rw [k2 i hi.2, k1 i hi.1]
end
end
def IterOk (g : Pg) (x : Wo) (ds : List D) (J : It) : Prop := ds.length ≤ sizeLine ∧ ∀ y : Wo, ExtW x y → Ok g y → ∀ i : Nat, (ds.length ≤ i → J.stop i y.h) ∧
  ∀ d, ds[i]? = some d → J.go i y.h ∧ ∀ v H', J.yld i y.h v H' → ∃ z : Wo, z.h = H' ∧ z.s = y.s ∧ Ext y z ∧ Ok g z ∧ Rep g z d v
abbrev tI (g : Pg) (k : Nat) (W : WX) (c : CI) : TI := tR g W (IterOk g) (evI g.T.G (callF g.T k) c)
theorem pe_len {X : Cx} {e : PySem.Expr} {t : TE} (h : PE X e t) : PE X e fun σ H Q => t σ H fun v H1 => (∀ a xs, v = .ref a → SqL X.K H1 a xs ∨ SqT X.K H1 a xs → xs.length ≤ sizeLine) → Q v H1 :=
  ⟨fun pins s σ H Q I q => wpAny_mono (h.run pins s σ H _ I q) (fun u s' ⟨v, H', I', r, q'⟩ => ⟨v, H', I', r, q' fun a xs _ hs => by
    rcases hs with hs | hs
    · obtain ⟨_, _, _, h⟩ := I'.list hs; exact h
    · obtain ⟨_, _, _, h⟩ := I'.tuple hs; exact h⟩) fun _ _ h => h⟩
theorem pa_len {X : Cx} {e : List PySem.Expr} {t : TA} (h : PA X e t) : PA X e fun σ H Q => t σ H fun vs H1 => (∀ a xs, V.ref a ∈ vs → SqL X.K H1 a xs ∨ SqT X.K H1 a xs → xs.length ≤ sizeLine) → Q vs H1 :=
  ⟨fun p pins s σ H Q I q => wpAny_mono (h.run p pins s σ H _ I q) (fun u s' ⟨v, H', I', r, q'⟩ => ⟨v, H', I', r, q' fun a xs _ hs => by
    rcases hs with hs | hs
    · obtain ⟨_, _, _, h⟩ := I'.list hs; exact h
    · obtain ⟨_, _, _, h⟩ := I'.tuple hs; exact h⟩) fun _ _ h => h⟩
theorem _root_.L2.PI.imp {X : Cx} {tg e : PySem.Expr} {t t' : TI} (h : PI X tg e t) (hi : ∀ σ H Q, t' σ H Q → t σ H Q) : PI X tg e t' := ⟨fun pins s σ H Q I q => h.run pins s σ H Q I (hi σ H Q q)⟩
section
variable {g : Pg} {k : Nat} {X : Cx} {W : WX} {a b c tg : PySem.Expr} {ca cb cc : CE} {pos : Pos}
theorem iter_lst {x : Wo} {ad : Addr} {vs : List V} {ds : List D} (ok : Ok g x) (r : Rep g x (.lst ds) (.ref ad)) (hl : ds.length ≤ sizeLine) : IterOk g x ds (Itl g.K ad) := by
  refine ⟨hl, fun y e oky i => ?_⟩
  have ry := Rep.monoW ok e _ _ r
  simp only [Rep] at ry
  obtain ⟨a', vs, e', h1, _, h2⟩ := ry
  cases e'
  have hlen := reps_len h2
  refine ⟨fun hi => ⟨vs, SqL.of h1, by omega⟩, fun d hd => ?_⟩
  obtain ⟨v, q1, q2⟩ := reps_get h2 hd
  refine ⟨⟨vs, v, SqL.of h1, q1⟩, fun v' H' hy => ?_⟩
  obtain ⟨rfl, hy⟩ := hy
  have := hy vs (SqL.of h1)
  rw [q1] at this
  cases this
  exact ⟨y, rfl, rfl, Ext.refl oky.len, oky, q2⟩
theorem iter_tup {x : Wo} {ad : Addr} {vs : List V} {ds : List D} (ok : Ok g x) (r : Rep g x (.tup ds) (.ref ad)) (hl : ds.length ≤ sizeLine) : IterOk g x ds (Itt g.K ad) := by
  refine ⟨hl, fun y e oky i => ?_⟩
  have ry := Rep.monoW ok e _ _ r
  simp only [Rep] at ry
  obtain ⟨a', vs, e', h1, h2⟩ := ry
  cases e'
  have hlen := reps_len h2
  refine ⟨fun hi => ⟨vs, h1, by omega⟩, fun d hd => ?_⟩
  obtain ⟨v, q1, q2⟩ := reps_get h2 hd
  refine ⟨⟨vs, v, h1, q1⟩, fun v' H' hy => ?_⟩
  obtain ⟨rfl, hy⟩ := hy
  have := hy vs h1
  rw [q1] at this
  cases this
  exact ⟨y, rfl, rfl, Ext.refl oky.len, oky, q2⟩
theorem iter_str {x : Wo} {t : Txt} (ht : (∀ c ∈ t, c < 1114112) ∧ t.length ≤ LIM) : IterOk g x (t.map fun c => D.str [c]) (Its (SX.S t)) := by
  have hsz : (SX.S t).cps.size = t.length := by simp [SX.S]
  refine ⟨by rw [List.length_map, ← lim_eq]; exact ht.2, fun y e oky i => ⟨fun hi => ?_, fun d hd => ?_⟩⟩
  · show (SX.S t).cps.size ≤ i
    rw [hsz]
    simpa using hi
  · rw [List.getElem?_map] at hd
    obtain ⟨c, hc, rfl⟩ := Option.map_eq_some_iff.mp hd
    refine ⟨?_, fun v H' hy => ?_⟩
    · show i < (SX.S t).cps.size
      rw [hsz]
      exact (List.getElem?_eq_some_iff.mp hc).1
    · obtain ⟨rfl, c', h1, rfl⟩ := hy
      have : t[i]? = some c' := by simpa [SX.S] using h1
      rw [hc] at this
      cases this
      exact ⟨y, rfl, rfl, Ext.refl oky.len, oky, (show V.str ⟨#[c]⟩ = V.str (SX.S [c]) ∧ (∀ x ∈ [c], x < 1114112) ∧ [c].length ≤ LIM from ⟨rfl, fun x hx => by rw [List.mem_singleton.mp hx]; exact ht.1 _ (List.mem_of_getElem? hc), Nat.le_of_ble_eq_true rfl⟩)⟩
/-- a list, a tuple or a text: walked -/
theorem iter_run {pins : List (Addr × Obj)} {σ : St} {s1 : Shared} {x : Wo} {d : D} {ds : List D} {v : V} {u : Value} {RR : It → Hp → Prop} (hK : X.K = g.K) (I1 : Inv X pins σ x.h s1) (r1 : RelV v u) (ok : Ok g x) (r : Rep g x d v) (hd0 : itemsOf d = some ds)
    (q : ∀ J, IterOk g x ds J → RR J x.h) : wpAny (model X.prog X.w) X.A (pyIter u) (PIE X pins σ tg RR) X.xe s1 := by
  cases d <;> simp only [itemsOf, Option.some.injEq] at hd0 <;> try cases hd0
  · 
    have r' := r
    simp only [Rep] at r
    obtain ⟨rfl, h1, h2⟩ := r
    obtain ⟨t, rfl⟩ := r1
    have q := q _ (iter_str ⟨h1, h2⟩)
    cases ha : (SX.S ‹Txt›).cps.all (· < 128)
    · exact wpAny_pyIter_wide ha (pi_one (tk := s1.toks) I1 _ (turn_str _ _ t "str_iterator" (.inr rfl)) ⟨_, Heap.get?_push_size _ rfl, rfl, rfl⟩ q)
    · exact wpAny_pyIter_ascii ha (pi_one (tk := s1.toks) I1 _ (turn_str _ _ t "str_ascii_iterator" (.inl rfl)) ⟨_, Heap.get?_push_size _ rfl, rfl, rfl⟩ q)
  · have r' := r
    simp only [Rep] at r'
    obtain ⟨a, vs, rfl, h1, h2⟩ := r'
    cases r1
    have hs : SqT X.K x.h a vs := by rw [hK]; exact h1
    obtain ⟨its, rv, p, hz⟩ := I1.tuple hs
    have q := q _ (iter_tup (vs := vs) ok r (by rw [← reps_len h2]; exact hz))
    rw [← hK] at q
    refine wpAny_pyIter_tuple (show s1.heap.IsTuple a its.toArray from p) ?_
    refine ⟨s1.heap.objs.size, [s1.heap.objs.size], _, _, x.h, rfl, I1.kept (t' := s1.toks) fun b o e => Heap.get?_push_of_some _ e, turn_tuple a _, ⟨_, Heap.get?_push_size _ rfl, rfl, rfl⟩, fun b hb => ?_, q⟩
    have e : b = s1.heap.objs.size := by simpa using hb
    subst e
    exact I1.fpOk (Nat.le_refl _) (I1.hok.fresh (Nat.le_refl _))
  · have r' := r
    simp only [Rep] at r'
    obtain ⟨a, vs, rfl, h1, h0, h2⟩ := r'
    cases r1
    obtain ⟨its, rv, p, hz⟩ := I1.list (SqL.of h1)
    have q := q _ (iter_lst (vs := vs) ok r (by rw [← reps_len h2]; exact hz))
    rw [← hK] at q
    refine wpAny_pyIter_list p.isList ?_
    refine ⟨s1.heap.objs.size, [s1.heap.objs.size], _, _, x.h, rfl, I1.kept (t' := s1.toks) fun b o e => Heap.get?_push_of_some _ e, turn_list a _, ⟨_, Heap.get?_push_size _ rfl, rfl, rfl⟩, fun b hb => ?_, q⟩
    have e : b = s1.heap.objs.size := by simpa using hb
    subst e
    exact I1.fpOk (Nat.le_refl _) (I1.hok.fresh (Nat.le_refl _))
theorem pi_seq_ok (G : GX g k X W) (ha : PE X a (tE g k W ca)) : PI X tg a (tI g k W (.seq ca)) := by
  refine ⟨fun pins s σ H RR I h => ?_⟩
  have key : tE g k W ca σ H fun v H1 => ∃ (x : Wo) (d : D) (ds : List D), x.h = H1 ∧ Ok g x ∧ Rep g x d v ∧ itemsOf d = some ds ∧ ∀ J, IterOk g x ds J → RR J H1 :=
    tR_bind (op := fun (_ : Envd) (x : D) (s1 : Sto) => match itemsOf x with
      | some xs => R.ok xs s1
      | none => .bad) h fun x env d v ok re r post => by
        split at post
        · rename_i ds hds
          exact ⟨x, d, ds, rfl, ok, r, hds, fun J hJ => post.here ok hJ⟩
        · exact post.elim
  refine thn (ha.run pins s σ H _ I key) fun u s1 ⟨v, H1, I1, r1, x, d, ds, e, ok, r, hd, q⟩ => ?_
  subst e
  exact iter_run G.K I1 r1 ok r hd q
theorem okRng_ok {i : Int} (h : okRng i = true) : -8388608 ≤ i ∧ i ≤ 8388608 := by
  simpa only [okRng, Bool.and_eq_true, decide_eq_true_eq] using h
theorem iter_rng {x : Wo} {lo : Int} {n : Nat} (hl : n ≤ sizeLine) : IterOk g x (rngL lo n) (Itr lo n) := by
  refine ⟨by simpa [rngL] using hl, fun y e oky i => ⟨fun hi => (show n ≤ i by simpa [rngL] using hi), fun d hd => ?_⟩⟩
  have hi : i < n := by
    have := (List.getElem?_eq_some_iff.mp hd).1
    simpa [rngL] using this
  refine ⟨hi, fun v H' hy => ?_⟩
  obtain ⟨rfl, rfl⟩ := hy
  refine ⟨y, rfl, rfl, Ext.refl oky.len, oky, ?_⟩
  unfold rngL at hd
  rw [List.getElem?_map, List.getElem?_range hi] at hd
  simp at hd
  subst hd
  rfl
theorem pi_rng1_ok {t : Tx} (T : TxOk g t) (G : GX g k X W) {p : Pos} (ha : PE X a (tE g k W ca)) (hs : notStar a = true) (hg : glB X.env.scope "range" = true) : PI X tg (.Call (.Name "range" p) [a] [] pos) (tI g k W (.rng1 ca)) :=
  (pi_range1 (glB_ok hg) (by rw [G.mg]; exact T.blt _ (by decide)) (pa_cons_ok ha pa_nil_ok hs) (star_ok hs [] X.env)).imp fun σ H RR h => by
    have e : ∀ env s, evI g.T.G (callF g.T k) (.rng1 ca) env s = (evEs g.T.G (callF g.T k) [ca] env s).bind fun ds s1 => match ds with
        | [.int j] => if okRng j then R.ok (rngL 0 j.toNat) s1 else .bad
        | _ => .bad := by
      intro env s
      simp only [evI, evEs]
      cases evE g.T.G (callF g.T k) ca env s with
      | ok x s1 => cases x <;> rfl
      | err => rfl
      | bad => rfl
    obtain ⟨x, env, h1, h2, h3, post⟩ := h
    rw [e] at post
    refine tR_bind (op := fun (_ : Envd) (ds : List D) (s1 : Sto) => match ds with
        | [.int j] => if okRng j then R.ok (rngL 0 j.toNat) s1 else .bad
        | _ => .bad) ⟨x, env, h1, h2, h3, post⟩ fun z env ds vs ok re r post => ?_
    split at post
    · rename_i j
      split at post
      · rename_i hj
        have hj := okRng_ok hj
        simp only [Reps] at r
        obtain ⟨v, r', rfl, r1, rfl⟩ := r
        simp only [Rep] at r1
        subst r1
        exact ⟨j, rfl, by omega, by omega, post.here ok (iter_rng (by rw [← lim_eq]; simp only [LIM]; omega))⟩
      · exact post.elim
    · exact post.elim
theorem pi_rng2_ok {t : Tx} (T : TxOk g t) (G : GX g k X W) {p : Pos} (ha : PE X a (tE g k W ca)) (hb : PE X b (tE g k W cb)) (hs : notStar a = true) (hs2 : notStar b = true) (hg : glB X.env.scope "range" = true) : PI X tg (.Call (.Name "range" p) [a, b] [] pos) (tI g k W (.rng2 ca cb)) :=
  (pi_range2 (glB_ok hg) (by rw [G.mg]; exact T.blt _ (by decide)) (pa_cons_ok ha (pa_cons_ok hb pa_nil_ok hs2) hs) (by rw [star_ok hs, star_ok hs2]; rfl) (star_ok hs2 [] X.env)).imp fun σ H RR h => by
    have e : ∀ env s, evI g.T.G (callF g.T k) (.rng2 ca cb) env s = (evEs g.T.G (callF g.T k) [ca, cb] env s).bind fun ds s1 => match ds with
        | [.int i, .int j] => if okRng i && okRng j then R.ok (rngL i (j - i).toNat) s1 else .bad
        | _ => .bad := by
      intro env s
      simp only [evI, evEs]
      cases evE g.T.G (callF g.T k) ca env s with
      | ok x s1 =>
        simp only [R.bind]
        cases evE g.T.G (callF g.T k) cb env s1 with
        | ok y s2 => cases x <;> cases y <;> rfl
        | err => rfl
        | bad => rfl
      | err => rfl
      | bad => rfl
    obtain ⟨x, env, h1, h2, h3, post⟩ := h
    rw [e] at post
    refine tR_bind (op := fun (_ : Envd) (ds : List D) (s1 : Sto) => match ds with
        | [.int i, .int j] => if okRng i && okRng j then R.ok (rngL i (j - i).toNat) s1 else .bad
        | _ => .bad) ⟨x, env, h1, h2, h3, post⟩ fun z env ds vs ok re r post => ?_
    split at post
    · rename_i i j
      split at post
      · rename_i hj
        simp only [Bool.and_eq_true] at hj
        have hi := okRng_ok hj.1
        have hj := okRng_ok hj.2
        simp only [Reps] at r
        obtain ⟨v, r', rfl, r1, v2, r'', rfl, r2, rfl⟩ := r
        simp only [Rep] at r1 r2
        subst r1 r2
        exact ⟨i, j, rfl, by omega, post.here ok (iter_rng (by rw [← lim_eq]; simp only [LIM]; omega))⟩
      · exact post.elim
    · exact post.elim
end
end Fv
end

section
set_option Elab.async false
set_option linter.all false
set_option maxRecDepth 100000
set_option maxHeartbeats 4000000
set_option autoImplicit false
namespace Fv
open PySem PySem.Spec PyProof.Rows L2
def WF : WX := fun _ _ _ _ => False
theorem takes_WF (X : Cx) : L2N.Takes X WF := fun u s' h => by
  obtain ⟨_, _, _, _, _, _, _, _, _, _, _, _, _, _, _, _, h⟩ := h
  exact h.elim
def relabelS (scope sc : Scope) : Scope :=
  { scope with names := scope.names.map fun (n, k) => if (k == .free && sc.kind == .function && sc.names.lookup n == some .cell) then (n, .cell) else (n, k) }
theorem relabel_eq (scope : Scope) (env : Env) : relabel scope env = relabelS scope env.scope := rfl
theorem lookup_relabel (sc : Scope) (x : Str) : ∀ names : List (Str × NameKind),
    (names.map fun (n, k) => if (k == NameKind.free && sc.kind == .function && sc.names.lookup n == some .cell) then (n, NameKind.cell) else (n, k)).lookup x =
      (names.lookup x).map fun k => if (k == NameKind.free && sc.kind == .function && sc.names.lookup x == some .cell) then NameKind.cell else k
  | [] => rfl
  | (n, k) :: r => by
    have ih := lookup_relabel sc x r
    simp only [List.map_cons]
    by_cases hx : x = n
    · subst hx
      cases h : (k == NameKind.free && sc.kind == .function && sc.names.lookup x == some .cell)
      · simp only [Bool.false_eq_true, if_false, List.lookup_cons, beq_self_eq_true, Option.map_some, h]
      · simp only [if_true, List.lookup_cons, beq_self_eq_true, Option.map_some, h]
    · have hn : (x == n) = false := ne_beq hx
      split <;> simp only [List.lookup_cons, hn, ih]
theorem asg_blk {X : Cx} {scope : Scope} {s : Shared} {H : Hp} {C : Addr} {cl : List (Str × Addr)} {fp : List Addr} : AsgOk (X.blk s H scope (compEnvC scope cl C X.env) fp) (locB scope) := fun x h => by
  have key : (X.blk s H scope (compEnvC scope cl C X.env) fp).env.scope.names.lookup x = (scope.names.lookup x).map fun k => if (k == NameKind.free && X.env.scope.kind == .function && X.env.scope.names.lookup x == some .cell) then NameKind.cell else k := lookup_relabel X.env.scope x scope.names
  rcases locB_ok h with q | q
  · rw [q] at key
    have key : (X.blk s H scope (compEnvC scope cl C X.env) fp).env.scope.names.lookup x = some .local := key
    exact ⟨.inl key, .inr key⟩
  · rw [q] at key
    have key : (X.blk s H scope (compEnvC scope cl C X.env) fp).env.scope.names.lookup x = some .cell := key
    refine ⟨.inr key, .inl ?_⟩
    show (scope.names.lookup x == some NameKind.cell) = true
    rw [q]; rfl
theorem gx_blk {g : Pg} {k : Nat} {X : Cx} {W : WX} (G : GX g k X W) (s : Shared) (H : Hp) (scope : Scope) (C : Addr) (cl : List (Str × Addr)) (fp : List Addr) : GX g k (X.blk s H scope (compEnvC scope cl C X.env) fp) WF :=
  ⟨G.prog, G.w, G.K, G.mg, G.base, G.calm, G.room, takes_WF _, G.nd⟩
structure LoopI (g : Pg) (x : Wo) (D : Addr) (y : Wo) : Prop where
  e : ExtW x y
  ok : Ok g y
  tm : y.tm = D :: x.tm
  kt : ∀ a ∈ x.tm, y.h a = x.h a
  nm : D ∉ y.m
  hD : x.h D = none
  nt : D ∉ x.tm
def MadeO (o : HO) : Prop := (∃ vs, o = .lst vs) ∨ ∃ kvs, o = .dK kvs
section
variable {g : Pg} {x y z : Wo} {D : Addr}
theorem LoopI.start (ok : Ok g x) (hD : x.h D = none) {o : HO} (ho : MadeO o) : LoopI g x D ⟨x.m, x.s, upd x.h D o, D :: x.tm⟩ := by
  have e0 := ext_put ok hD o
  have k0 := ok_put ok hD o
  have eW : ExtW x ⟨x.m, x.s, upd x.h D o, D :: x.tm⟩ := ⟨e0.pre, e0.dead, e0.keep, e0.held, e0.new, e0.len, e0.len', fun a h => by
    rcases List.mem_cons.mp h with rfl | h
    · exact .inr (free_none hD)
    · exact .inl h⟩
  refine ⟨eW, ⟨k0.len, k0.nd, fun n a c h1 h2 => ?_, k0.tabs, k0.all, k0.nc, fun a h => (by
    rcases List.mem_cons.mp h with q | h
    · rw [q]; exact fresh_nm ok hD
    · exact ok.tmm a h), fun a h => ?_⟩, rfl, e0.keepT, fresh_nm ok hD, hD, fun h => by
    obtain ⟨u, h1, _⟩ := ok.tmk D h
    rw [hD] at h1; cases h1⟩
  · exact (ok.cells n a c h1 h2).monoW ok eW fun u hu => by
      show upd x.h D o a = some u
      rw [upd_ne (ne_of_none hu hD)]; exact hu
  · rcases List.mem_cons.mp h with rfl | h
    · exact ⟨o, upd_same, ho⟩
    · exact k0.tmk a h
theorem Ext.nm (e : Ext x y) {a : Addr} (h : a ∉ x.m) (h0 : ¬ Free x a) : a ∉ y.m := fun hm => by
  obtain ⟨n, hn⟩ := List.mem_iff_getElem?.mp hm
  by_cases hlt : n < x.m.length
  · have hx := e.get (List.getElem?_eq_getElem hlt)
    rw [hn] at hx
    cases hx
    exact h (List.getElem_mem hlt)
  · exact h0 (e.new n a (by omega) hn)
theorem LoopI.step (L : LoopI g x D y) (e : Ext y z) (ok : Ok g z) : LoopI g x D z ∧ z.h D = y.h D := by
  have hm : D ∈ y.tm := by rw [L.tm]; exact List.mem_cons_self ..
  have h0 : ¬ Free y D := by
    obtain ⟨o, h, hk⟩ := L.ok.tmk D hm
    refine not_free h fun ps => ?_
    rcases hk with ⟨_, rfl⟩ | ⟨_, rfl⟩ <;> simp
  exact ⟨⟨L.e.trans e.toExtW, ok, e.tm.trans L.tm, fun a h => (e.keepT a (by rw [L.tm]; exact List.mem_cons_of_mem _ h)).trans (L.kt a h), e.nm L.nm h0, L.hD, L.nt⟩, e.keepT D hm⟩
theorem LoopI.put (L : LoopI g x D y) {o : HO} (ho : MadeO o) : LoopI g x D ⟨y.m, y.s, upd y.h D o, y.tm⟩ ∧ ExtW y ⟨y.m, y.s, upd y.h D o, y.tm⟩ := by
  have hm : D ∈ y.tm := by rw [L.tm]; exact List.mem_cons_self ..
  obtain ⟨u, hu, hk⟩ := L.ok.tmk D hm
  have eW : ExtW y ⟨y.m, y.s, upd y.h D o, y.tm⟩ := by
    refine ⟨⟨[], by simp⟩, fun n c h1 h2 => ⟨c, h1, h2⟩, fun a v h1 h2 h3 => ?_, fun a h => ?_, fun n a h1 h2 => ?_, L.ok.len, L.ok.len, fun _ h => .inl h⟩
    · show upd y.h D o a = some v
      have hz : a ≠ D := fun q => h2 (.inl (by rw [q]; exact hm))
      rw [upd_ne hz]; exact h1
    · intro f
      by_cases hz : a = D
      · subst hz
        have f : Free _ a := f
        refine not_free (x := ⟨y.m, y.s, upd y.h a o, y.tm⟩) upd_same (fun ps => ?_) f
        rcases ho with ⟨_, rfl⟩ | ⟨_, rfl⟩ <;> simp
      · refine h fun v hv => f v ?_
        show upd y.h D o a = some v
        rw [upd_ne hz]; exact hv
    · have h2 : y.m[n]? = some a := h2
      rw [List.getElem?_eq_none_iff.mpr h1] at h2; cases h2
  have nD : ∀ a ∈ y.m, a ≠ D := fun a ha z => L.nm (z ▸ ha)
  refine ⟨⟨L.e.trans eW, ⟨L.ok.len, L.ok.nd, fun n a c h1 h2 => ?_, tabs_put L.ok.tabs fun v hv => ?_, fun a h => (by
      obtain ⟨v, h1, h2⟩ := L.ok.all a h
      exact ⟨v, by show upd y.h D o a = some v; rw [upd_ne (nD a h)]; exact h1, h2⟩), L.ok.nc, L.ok.tmm, fun a h => ?_⟩, L.tm, fun a h => ?_, L.nm, L.hD, L.nt⟩, eW⟩
  · exact (L.ok.cells n a c h1 h2).monoW L.ok eW fun v hv => by
      show upd y.h D o a = some v
      rw [upd_ne (nD a (List.mem_of_getElem? h1))]; exact hv
  · rw [hu] at hv
    cases hv
    rcases hk with ⟨_, rfl⟩ | ⟨_, rfl⟩ <;> exact ⟨fun _ => by simp, fun _ => by simp⟩
  · by_cases hz : a = D
    · subst hz
      exact ⟨o, upd_same, ho⟩
    · obtain ⟨v, h1, h2⟩ := L.ok.tmk a h
      exact ⟨v, by show upd y.h D o a = some v; rw [upd_ne hz]; exact h1, h2⟩
  · show upd y.h D o a = x.h a
    have hz : a ≠ D := fun q => L.nt (by rw [← q]; exact h)
    rw [upd_ne hz]
    exact L.kt a h
theorem LoopI.fin (okx : Ok g x) (L : LoopI g x D y) : Ext x ⟨y.m, y.s, y.h, x.tm⟩ ∧ Ok g ⟨y.m, y.s, y.h, x.tm⟩ ∧ ¬ live ⟨y.m, y.s, y.h, x.tm⟩ D ∧ ExtW y ⟨y.m, y.s, y.h, x.tm⟩ := by
  have eW : ExtW y ⟨y.m, y.s, y.h, x.tm⟩ := ⟨⟨[], by simp⟩, fun n c h1 h2 => ⟨c, h1, h2⟩, fun a v h1 h2 h3 => h1, fun a h => h, fun n a h1 h2 => (by
    have h2 : y.m[n]? = some a := h2
    rw [List.getElem?_eq_none_iff.mpr h1] at h2; cases h2), L.ok.len, L.ok.len, fun a h => .inl (by rw [L.tm]; exact List.mem_cons_of_mem _ h)⟩
  refine ⟨⟨L.e.trans eW, rfl, L.kt⟩, ⟨L.ok.len, L.ok.nd, fun n a c h1 h2 => (L.ok.cells n a c h1 h2).monoW L.ok eW fun v hv => hv, L.ok.tabs, L.ok.all, L.ok.nc, fun a h => L.ok.tmm a (by rw [L.tm]; exact List.mem_cons_of_mem _ h), fun a h => L.ok.tmk a (by rw [L.tm]; exact List.mem_cons_of_mem _ h)⟩, ?_, eW⟩
  rintro (h | ⟨n, c, h1, _⟩)
  · obtain ⟨o, h1, _⟩ := okx.tmk D h
    rw [L.hD] at h1; cases h1
  · exact L.nm (List.mem_of_getElem? h1)
end

mutual
theorem bindTg_elen : ∀ (t : Tg) (d : D) {e e' : Envd}, bindTg t d e = some e' → e'.length = e.length
  | .v i, d, e, e', h => by
    simp only [bindTg] at h
    split at h
    · cases h; simp
    · cases h
  | .t ts, d, e, e', h => by
    cases d <;> simp only [bindTg] at h <;> first | cases h | exact bindTgs_elen ts _ h
theorem bindTgs_elen : ∀ (ts : List Tg) (ds : List D) {e e' : Envd}, bindTgs ts ds e = some e' → e'.length = e.length
  | [], [], e, e', h => by simp only [bindTgs, Option.some.injEq] at h; rw [h]
  | [], _ :: _, _, _, h => by simp [bindTgs] at h
  | _ :: _, [], _, _, h => by simp [bindTgs] at h
  | t :: ts, d :: ds, e, e', h => by
    simp only [bindTgs] at h
    obtain ⟨e1, h1, h2⟩ := Option.bind_eq_some_iff.mp h
    rw [bindTgs_elen ts ds h2, bindTg_elen t d h1]
end
theorem noErr_bind {α β : Type} {r : R α} {f : α → Sto → R β} : (r.bind f).noErr = r.noErr.bind fun x s => (f x s).noErr := by
  cases r <;> rfl
theorem wipe_get (σ : St) : ∀ (vs : List Nat) (i : Nat), (wipe σ vs)[i]? = if i ∈ vs then (σ[i]?).map fun _ => none else σ[i]?
  | [], i => by simp [wipe]
  | v :: vs, i => by
    show ((wipe σ vs).set v none)[i]? = _
    have ih := wipe_get σ vs i
    by_cases hv : v = i
    · subst hv
      rw [List.getElem?_set_self', ih]
      split <;> cases σ[v]? <;> simp
    · rw [List.getElem?_set_ne hv, ih]
      have : i ∈ v :: vs ↔ i ∈ vs := by simp [Ne.symm hv]
      simp only [this]
theorem wipe_same {σ σ' : St} {own vs : List Nat} (hl : σ'.length = σ.length) (hv : ∀ i ∈ vs, i ∈ own) (h : ∀ i, i ∉ vs → σ'[i]? = (wipe σ own)[i]?) : wipe σ' own = wipe σ own := by
  refine List.ext_getElem? fun i => ?_
  rw [wipe_get]
  by_cases hi : i ∈ own
  · rw [if_pos hi, wipe_get, if_pos hi]
    by_cases hlt : i < σ.length
    · rw [List.getElem?_eq_getElem hlt, List.getElem?_eq_getElem (by omega)]; rfl
    · rw [List.getElem?_eq_none (by omega), List.getElem?_eq_none (by omega)]
  · rw [if_neg hi]
    exact h i fun h' => hi (hv i h')
theorem wipe_len (σ : St) : ∀ vs : List Nat, (wipe σ vs).length = σ.length
  | [] => rfl
  | v :: vs => by simp [wipe, wipe_len σ vs]
section
variable {g : Pg} {k : Nat} {W : WX}
/-- a part of a result that is not bad: the part's reading where no error is let through -/
theorem post_part {α β : Type} {Rp : Wo → α → β → Prop} {σ : St} {x : Wo} {r : R α} {Q : β → Hp → Prop} (hne : r.noErr ≠ .bad) (hk : ∀ a s', r = .ok a s' → ∀ y : Wo, Ext x y → Ok g y → y.s = s' → ∀ v, Rp y a v → Q v y.h) : PostG g Rp WF σ x r Q := by
  cases r with
  | ok a s' => exact fun y e oky es v rv => hk a s' rfl y e oky es v rv
  | err e s' => exact absurd rfl hne
  | bad => exact absurd rfl hne
theorem bind_ne {α β : Type} {r : R α} {f : α → Sto → R β} (h : r.bind f ≠ .bad) : r ≠ .bad := fun e => h (by rw [e]; rfl)
abbrev tC2 (g : Pg) (k : Nat) (W : WX) (c : Option CE) : TT := tR g W (fun (_ : Wo) (b b' : Bool) => b = b') (evC g.T.G (callF g.T k) c)
def compF (g : Pg) (k : Nat) (e : CE) (tg : Tg) (own : List Nat) (c : Option CE) (env : Envd) : D → Sto → R (Option D) := fun x s2 => match bindTg tg x (wipeD env own) with
  | some env1 => (evC g.T.G (callF g.T k) c env1 s2).bind fun b s3 => if b then (evE g.T.G (callF g.T k) e env1 s3).bind fun y s4 => .ok (some y) s4 else .ok none s3
  | none => .bad
theorem lc_read {ce : CE} {ctg : Tg} {own : List Nat} {ci : CI} {cif : Option CE} {σ : St} {H : Hp} {Q : VK} (hv : ∀ i ∈ vars ctg, i ∈ own) (h : tE g k W (.comp ce ctg own ci cif) σ H Q) :
    tLc (tI g k W ci) (tgR g ctg) (tC2 g k WF cif) (tE g k WF ce) own σ H Q := by
  refine tR_bind (Rp := IterOk g) (op := fun env xs s1 => ((filterMapL (compF g k ce ctg own cif env) xs s1).noErr).bind fun ys s2 => .ok (D.lst ys) s2) h fun x env ds J ok re hJ post => ?_
  intro Da hD
  have hne : ((filterMapL (compF g k ce ctg own cif env) ds x.s).noErr).bind (fun ys s2 => R.ok (D.lst ys) s2) ≠ .bad := fun e => by rw [e] at post; exact post
  have hj := hJ.2
  have hsl := hJ.1
  let Fc := compF g k ce ctg own cif env
  let RES : R D := ((filterMapL Fc ds x.s).noErr).bind fun ys s2 => .ok (D.lst ys) s2
  refine ⟨fun i m Hh => m = ds.length - i ∧ i ≤ ds.length ∧ ∃ (y : Wo) (acc : List D) (vs : List V), y.h = Hh ∧ LoopI g x Da y ∧ y.h Da = some (.lst vs) ∧ Reps g y acc vs ∧ acc.length ≤ i ∧
      ((filterMapL Fc (ds.drop i) y.s).noErr).bind (fun ys s2 => .ok (D.lst (acc ++ ys)) s2) = RES, ⟨ds.length, rfl, Nat.zero_le _, ⟨x.m, x.s, upd x.h Da (.lst []), Da :: x.tm⟩, [], [], rfl, LoopI.start ok hD (.inl ⟨_, rfl⟩), upd_same, by simp only [Reps], Nat.le_refl _, rfl⟩, ?_⟩
  rintro i m Hh ⟨rfl, hi, y, acc, vs, rfl, L, hy, racc, hacc, hres⟩
  by_cases hlt : i < ds.length
  · refine .inr ?_
    have hd : ds[i]? = some ds[i] := List.getElem?_eq_getElem hlt
    obtain ⟨hgo, hyld⟩ := (hj y L.e L.ok i).2 _ hd
    refine ⟨hgo, fun H' => (fun m' => m' = ds.length - (i + 1) ∧ i + 1 ≤ ds.length ∧ ∃ (y : Wo) (acc : List D) (vs : List V), y.h = H' ∧ LoopI g x Da y ∧ y.h Da = some (.lst vs) ∧ Reps g y acc vs ∧ acc.length ≤ i + 1 ∧
      ((filterMapL Fc (ds.drop (i + 1)) y.s).noErr).bind (fun ys s2 => .ok (D.lst (acc ++ ys)) s2) = RES) (ds.length - (i + 1)), fun H' hn => ⟨_, by omega, hn⟩, fun v H' hyl => ?_⟩
    obtain ⟨z, rfl, es, ez, okz, rz⟩ := hyld v H' hyl
    obtain ⟨Lz, hz⟩ := L.step ez okz
    have hdrop : ds.drop i = ds[i] :: ds.drop (i + 1) := List.drop_eq_getElem_cons hlt
    rw [hdrop, ← es] at hres
    have hres1 : (((Fc ds[i] z.s).noErr).bind fun o s1 => ((filterMapL Fc (ds.drop (i + 1)) s1).noErr).bind fun ys s2 => R.ok (D.lst (acc ++ match o with
        | some q => q :: ys
        | none => ys)) s2) = RES := by
      rw [← hres]
      simp only [filterMapL, noErr_bind]
      cases (Fc ds[i] z.s).noErr with
      | ok o s1 =>
        simp only [R.bind]
        cases (filterMapL Fc (ds.drop (i + 1)) s1).noErr with
        | ok ys s2 => cases o <;> rfl
        | err => rfl
        | bad => rfl
      | err => rfl
      | bad => rfl
    have rew : REnv g z (wipeD env own) (wipe σ own) := renv_wipe (((REnv.monoW ok L.e _ _ re)).mono L.ok ez) own
    cases hb : bindTg ctg ds[i] (wipeD env own) with
    | none =>
      exfalso
      have : Fc ds[i] z.s = .bad := by simp only [Fc, compF, hb]
      rw [this] at hres1
      exact hne hres1.symm
    | some env1 =>
      have hF : Fc ds[i] z.s = (evC g.T.G (callF g.T k) cif env1 z.s).bind fun b s3 => if b then (evE g.T.G (callF g.T k) ce env1 s3).bind fun y s4 => .ok (some y) s4 else .ok none s3 := by simp only [Fc, compF, hb]
      rw [hF, noErr_bind] at hres1
      refine ⟨z, _, env1, _, rfl, okz, rew, rz, hb, fun σ2 re2 hk2 => ⟨?_, z, env1, rfl, okz, re2, ?_⟩⟩
      · refine wipe_same (vs := vars ctg) ?_ hv hk2
        have h1 := renv_len re2
        have h2 := renv_len rew
        rw [wipe_len] at h2
        rw [h1, bindTg_elen _ _ hb, ← h2]
      · refine post_part (fun e => ?_) fun b s3 hb2 y3 e3 ok3 es3 b' hbb => ?_
        · rw [e] at hres1
          exact hne hres1.symm
        · subst hbb
          rw [hb2] at hres1
          subst es3
          obtain ⟨L3, h3⟩ := Lz.step e3 ok3
          have r3 : Reps g y3 acc vs := (racc.mono L.ok ez).mono okz e3
          have hD3 : y3.h Da = some (.lst vs) := by rw [h3, hz]; exact hy
          cases b with
          | false =>
            rw [if_neg (by decide)]
            refine ⟨rfl, hlt, y3, acc, vs, rfl, L3, hD3, r3, by omega, hres1⟩
          | true =>
            rw [if_pos rfl]
            have hres2 : (((evE g.T.G (callF g.T k) ce env1 y3.s).noErr).bind fun q s4 => ((filterMapL Fc (ds.drop (i + 1)) s4).noErr).bind fun ys s2 => R.ok (D.lst (acc ++ q :: ys)) s2) = RES := by
              rw [← hres1]
              simp only [R.noErr, R.bind, if_true]
              cases evE g.T.G (callF g.T k) ce env1 y3.s <;> rfl
            refine ⟨y3, env1, rfl, ok3, re2.mono okz e3, post_part (fun e => ?_) fun q s4 hq y4 e4 ok4 es4 v4 rv4 => ?_⟩
            · rw [e] at hres2
              exact hne hres2.symm
            · rw [hq] at hres2
              subst es4
              obtain ⟨L4, h4⟩ := L3.step e4 ok4
              have hD4 : y4.h Da = some (.lst vs) := by rw [h4]; exact hD3
              have hlen := reps_len r3
              refine ⟨vs, hD4, by omega, ?_⟩
              obtain ⟨L5, e5⟩ := L4.put (o := .lst (vs ++ [v4])) (.inl ⟨_, rfl⟩)
              refine ⟨rfl, hlt, _, acc ++ [q], vs ++ [v4], rfl, L5, upd_same, ?_, by simp; omega, ?_⟩
              · refine reps_app (Reps.monoW ok4 e5 _ _ (r3.mono ok3 e4)) ?_
                simp only [Reps]
                exact ⟨_, _, rfl, Rep.monoW ok4 e5 _ _ rv4, rfl⟩
              · rw [← hres2]
                simp only [R.noErr, R.bind, List.append_assoc, List.singleton_append]
  · have hi' : i = ds.length := by omega
    subst hi'
    refine .inl ⟨(hj y L.e L.ok _).1 (Nat.le_refl _), ?_⟩
    rw [List.drop_length] at hres
    simp only [filterMapL, R.noErr, R.bind, List.append_nil] at hres
    obtain ⟨f1, f2, f3, f4⟩ := L.fin ok
    have hres : RES = .ok (.lst acc) y.s := hres.symm
    have post : PostG g (Rep g) W σ x RES Q := post
    rw [hres] at post
    refine post _ f1 f2 rfl (.ref Da) ?_
    simp only [Rep]
    exact ⟨Da, vs, rfl, hy, f3, Reps.monoW L.ok f4 _ _ racc⟩
theorem fold_ok {e : PySem.Expr} (h : notSet e = true) (env : Env) (x : Value) : foldedSetIterable e env x = pure x := by
  cases e <;> first | rfl | cases h
theorem tYes_imp {X : Cx} : PTs X [] (tC2 g k WF none) := ⟨fun pins s σ H Q I h => pts_nil.run pins s σ H Q I (by
  obtain ⟨z, env, rfl, ok, re, post⟩ := h
  exact post.here (d := true) ok rfl)⟩
theorem pts_some {X : Cx} {c : PySem.Expr} {cc : CE} (h : PT X c (tC' g k WF cc)) : PTs X [c] (tC2 g k WF (some cc)) := pts_one h
/-- what holds of a block of X -/
structure BlkX (X XB : Cx) (scope : Scope) : Prop where
  N : XB.N = X.N
  sc : XB.env.scope = relabelS scope X.env.scope
section
variable {X : Cx} {elt iter tg : PySem.Expr} {ifs : List PySem.Expr} {scope : Scope} {own : List (Str × Nat)} {pos : Pos} {ce : CE} {ctg : Tg} {ci : CI} {cif : Option CE}
theorem pe_comp_ok (G : GX g k X W) (hi : PI X tg iter (tI g k W ci)) (hb : blkC X.N X.env.scope scope own = true) (htg : chkTg X.N (locB scope) ctg tg = true) (hv : ∀ i ∈ vars ctg, i ∈ own.map (·.2))
    (ht : ∀ XB, GX g k XB WF → BlkX X XB scope → PTs XB ifs (tC2 g k WF cif)) (he : ∀ XB, GX g k XB WF → BlkX X XB scope → PE XB elt (tE g k WF ce)) (hs : notSet iter = true) :
    PE X (.ListComp elt [⟨tg, iter, ifs, 0⟩] scope pos) (tE g k W (.comp ce ctg (own.map (·.2)) ci cif)) :=
  (pe_lc G.calm G.nd hi (blkOk_by hb) (fun s H C cl fp => pg_ok (gx_blk G s H scope C cl fp) asg_blk ctg tg htg) (fun s H C cl fp => ht _ (gx_blk G s H scope C cl fp) ⟨rfl, rfl⟩) (fun s H C cl fp => he _ (gx_blk G s H scope C cl fp) ⟨rfl, rfl⟩) (fold_ok hs X.env)).imp
    fun _ _ _ h => lc_read hv h
theorem ps_comp_ok (G : GX g k X W) {i : Nat} {y : Str} {py spos : Pos} (hy : X.N[i]? = some y) (hyl : X.env.scope.names.lookup y = some .local) (hsw : swapsWith (.ListComp elt [⟨tg, iter, ifs, 0⟩] scope pos) (some (.Name y py)) spos.line X.env = pure true)
    (hi : PI X tg iter (tI g k W ci)) (hb : blkC X.N X.env.scope scope own = true) (htg : chkTg X.N (locB scope) ctg tg = true) (hv : ∀ i ∈ vars ctg, i ∈ own.map (·.2))
    (ht : ∀ XB, GX g k XB WF → BlkX X XB scope → PTs XB ifs (tC2 g k WF cif)) (he : ∀ XB, GX g k XB WF → BlkX X XB scope → PE XB elt (tE g k WF ce)) (hs : notSet iter = true) :
    PS X (.Assign [.Name y py] (.ListComp elt [⟨tg, iter, ifs, 0⟩] scope pos) spos) (tAsg (tE g k W (.comp ce ctg (own.map (·.2)) ci cif)) (gName i)) :=
  ⟨fun pins s σ H D I h => (ps_setLc G.calm G.nd hy hyl hsw hi (blkOk_by hb) (fun s H C cl fp => pg_ok (gx_blk G s H scope C cl fp) asg_blk ctg tg htg) (fun s H C cl fp => ht _ (gx_blk G s H scope C cl fp) ⟨rfl, rfl⟩) (fun s H C cl fp => he _ (gx_blk G s H scope C cl fp) ⟨rfl, rfl⟩) (fold_ok hs X.env)).run pins s σ H D I (lc_read hv h)⟩
end
end
end Fv
end

section
set_option Elab.async false
set_option linter.all false
set_option maxRecDepth 100000
set_option maxHeartbeats 4000000
set_option autoImplicit false
namespace Fv
open PySem PySem.Spec PyProof.Rows L2
theorem putK_new {kvs : List (Key × V)} {ks : List Txt} {k : Txt} {v : V} (h : kvs.map (·.1) = ks.map (fun k => Sum.inr (SX.S k))) (hk : k ∉ ks) : putK kvs (Sum.inr (SX.S k)) v = kvs ++ [(Sum.inr (SX.S k), v)] := by
  unfold putK
  rw [if_neg]
  intro hb
  obtain ⟨kv, h1, h2⟩ := List.any_eq_true.mp hb
  have h2 := of_decide_eq_true h2
  have : kv.1 ∈ kvs.map (·.1) := List.mem_map_of_mem h1
  rw [h, h2] at this
  obtain ⟨k', h3, h4⟩ := List.mem_map.mp this
  exact hk (SX.S_inj (Sum.inr.inj h4) ▸ h3)
section
variable {g : Pg} {k : Nat} {W : WX}
def dcF (g : Pg) (k : Nat) (kx e : CE) (tg : Tg) (own : List Nat) (env : Envd) : D → Sto → R (D × D) := fun x s2 => match bindTg tg x (wipeD env own) with
  | some env1 => (evE g.T.G (callF g.T k) kx env1 s2).bind fun y s3 => (evE g.T.G (callF g.T k) e env1 s3).bind fun z s4 => .ok (y, z) s4
  | none => .bad
theorem dc_read {ck ce : CE} {ctg : Tg} {own : List Nat} {ci : CI} {σ : St} {H : Hp} {Q : VK} (hv : ∀ i ∈ vars ctg, i ∈ own) (h : tE g k W (.dcomp ck ce ctg own ci) σ H Q) :
    tDc (tI g k W ci) (tgR g ctg) (tC2 g k WF none) (tE g k WF ck) (tE g k WF ce) own σ H Q := by
  refine tR_bind (Rp := IterOk g) (op := fun env xs s1 => (dcL (dcF g k ck ce ctg own env) xs [] [] s1).noErr) h fun x env ds J ok re hJ post => ?_
  intro Da hD
  have hne : (dcL (dcF g k ck ce ctg own env) ds [] [] x.s).noErr ≠ .bad := fun e => by rw [e] at post; exact post
  have hj := hJ.2
  have hsl := hJ.1
  let Fc := dcF g k ck ce ctg own env
  let RES : R D := (dcL Fc ds [] [] x.s).noErr
  refine ⟨fun i m Hh => m = ds.length - i ∧ i ≤ ds.length ∧ ∃ (y : Wo) (ks : List Txt) (acc : List D) (kvs : List (Key × V)), y.h = Hh ∧ LoopI g x Da y ∧ y.h Da = some (.dK kvs) ∧ kvs.map (·.1) = ks.map (fun k => Sum.inr (SX.S k)) ∧ Reps g y acc (kvs.map (·.2)) ∧
      (dcL Fc (ds.drop i) ks acc y.s).noErr = RES, ⟨ds.length, rfl, Nat.zero_le _, ⟨x.m, x.s, upd x.h Da (.dK []), Da :: x.tm⟩, [], [], [], rfl, LoopI.start ok hD (.inr ⟨_, rfl⟩), upd_same, rfl, by simp only [List.map_nil, Reps], rfl⟩, ?_⟩
  rintro i m Hh ⟨rfl, hi, y, ks, acc, kvs, rfl, L, hy, hks, racc, hres⟩
  by_cases hlt : i < ds.length
  · refine .inr ?_
    have hd : ds[i]? = some ds[i] := List.getElem?_eq_getElem hlt
    obtain ⟨hgo, hyld⟩ := (hj y L.e L.ok i).2 _ hd
    refine ⟨hgo, fun H' => (fun m' => m' = ds.length - (i + 1) ∧ i + 1 ≤ ds.length ∧ ∃ (y : Wo) (ks : List Txt) (acc : List D) (kvs : List (Key × V)), y.h = H' ∧ LoopI g x Da y ∧ y.h Da = some (.dK kvs) ∧ kvs.map (·.1) = ks.map (fun k => Sum.inr (SX.S k)) ∧ Reps g y acc (kvs.map (·.2)) ∧
      (dcL Fc (ds.drop (i + 1)) ks acc y.s).noErr = RES) (ds.length - (i + 1)), fun H' hn => ⟨_, by omega, hn⟩, fun v H' hyl => ?_⟩
    obtain ⟨z, rfl, es, ez, okz, rz⟩ := hyld v H' hyl
    obtain ⟨Lz, hz⟩ := L.step ez okz
    have hdrop : ds.drop i = ds[i] :: ds.drop (i + 1) := List.drop_eq_getElem_cons hlt
    rw [hdrop, ← es] at hres
    simp only [dcL, noErr_bind] at hres
    have rew : REnv g z (wipeD env own) (wipe σ own) := renv_wipe (((REnv.monoW ok L.e _ _ re)).mono L.ok ez) own
    cases hb : bindTg ctg ds[i] (wipeD env own) with
    | none =>
      exfalso
      have : Fc ds[i] z.s = .bad := by simp only [Fc, dcF, hb]
      rw [this] at hres
      exact hne hres.symm
    | some env1 =>
      have hF : Fc ds[i] z.s = (evE g.T.G (callF g.T k) ck env1 z.s).bind fun y s3 => (evE g.T.G (callF g.T k) ce env1 s3).bind fun z s4 => .ok (y, z) s4 := by simp only [Fc, dcF, hb]
      rw [hF, noErr_bind] at hres
      refine ⟨z, _, env1, _, rfl, okz, rew, rz, hb, fun σ2 re2 hk2 => ⟨?_, z, env1, rfl, okz, re2, ?_⟩⟩
      · refine wipe_same (vs := vars ctg) ?_ hv hk2
        have h1 := renv_len re2
        have h2 := renv_len rew
        rw [wipe_len] at h2
        rw [h1, bindTg_elen _ _ hb, ← h2]
      · show PostG g _ WF σ2 z (R.ok true z.s) _
        intro y3 e3 ok3 es3 b hbb
        subst hbb
        rw [if_pos rfl]
        obtain ⟨L3, h3⟩ := Lz.step e3 ok3
        have re3 := re2.mono okz e3
        rw [← es3] at hres
        refine ⟨y3, env1, rfl, ok3, re3, post_part (fun e => ?_) fun q s4 hq y4 e4 ok4 es4 v4 rv4 => ?_⟩
        · rw [e] at hres
          exact hne hres.symm
        · rw [hq] at hres
          subst es4
          obtain ⟨L4, h4⟩ := L3.step e4 ok4
          simp only [R.noErr, R.bind] at hres
          refine ⟨y4, env1, rfl, ok4, re3.mono ok3 e4, post_part (fun e => ?_) fun q2 s5 hq2 y5 e5 ok5 es5 v5 rv5 => ?_⟩
          · cases hh : evE g.T.G (callF g.T k) ce env1 y4.s with
            | ok a s => rw [hh] at e; cases e
            | err a s => rw [hh] at hres; exact hne hres.symm
            | bad => rw [hh] at hres; exact hne hres.symm
          · rw [hq2] at hres
            subst es5
            obtain ⟨L5, h5⟩ := L4.step e5 ok5
            simp only [R.noErr, R.bind] at hres
            have hD5 : y5.h Da = some (.dK kvs) := by rw [h5, h4, h3, hz]; exact hy
            have r5 := (((racc.mono L.ok ez).mono okz e3).mono ok3 e4).mono ok4 e5
            cases q with
            | str kk =>
              simp only at hres
              by_cases hnk : kk ∈ ks ∨ LIM ≤ ks.length
              · rw [if_pos hnk] at hres
                exact (hne hres.symm).elim
              · rw [if_neg hnk] at hres
                simp only [not_or] at hnk
                simp only [Rep] at rv4
                obtain ⟨rfl, _⟩ := rv4
                refine ⟨kvs, Sum.inr (SX.S kk), rfl, hD5, ?_, ?_⟩
                · have : kvs.length = ks.length := by
                    have q := congrArg List.length hks
                    simpa using q
                  rw [this, ← lim_eq]; omega
                · obtain ⟨L6, e6⟩ := L5.put (o := .dK (kvs ++ [(Sum.inr (SX.S kk), v5)])) (.inr ⟨_, rfl⟩)
                  rw [putK_new hks hnk.1]
                  refine ⟨rfl, hlt, _, ks ++ [kk], acc ++ [q2], _, rfl, L6, upd_same, by simp [hks], ?_, hres⟩
                  rw [List.map_append]
                  refine reps_app (Reps.monoW ok5 e6 _ _ r5) ?_
                  simp only [List.map_cons, List.map_nil, Reps]
                  exact ⟨_, _, rfl, Rep.monoW ok5 e6 _ _ rv5, rfl⟩
            | _ => exact (hne hres.symm).elim
  · have hi' : i = ds.length := by omega
    subst hi'
    refine .inl ⟨(hj y L.e L.ok _).1 (Nat.le_refl _), ?_⟩
    rw [List.drop_length] at hres
    simp only [dcL, R.noErr] at hres
    obtain ⟨f1, f2, f3, f4⟩ := L.fin ok
    have hres : RES = .ok (.dic ks acc) y.s := hres.symm
    have post : PostG g (Rep g) W σ x RES Q := post
    rw [hres] at post
    refine post _ f1 f2 rfl (.ref Da) ?_
    simp only [Rep]
    exact ⟨Da, kvs, rfl, hy, f3, hks, Reps.monoW L.ok f4 _ _ racc⟩
section
variable {X : Cx} {kx vx iter tg : PySem.Expr} {scope : Scope} {own : List (Str × Nat)} {pos : Pos} {ck ce : CE} {ctg : Tg} {ci : CI}
theorem pe_dcomp_ok (G : GX g k X W) (hi : PI X tg iter (tI g k W ci)) (hb : blkC X.N X.env.scope scope own = true) (htg : chkTg X.N (locB scope) ctg tg = true) (hv : ∀ i ∈ vars ctg, i ∈ own.map (·.2))
    (hk : ∀ XB, GX g k XB WF → BlkX X XB scope → PE XB kx (tE g k WF ck)) (he : ∀ XB, GX g k XB WF → BlkX X XB scope → PE XB vx (tE g k WF ce)) (hs : notSet iter = true) :
    PE X (.DictComp kx vx [⟨tg, iter, [], 0⟩] scope pos) (tE g k W (.dcomp ck ce ctg (own.map (·.2)) ci)) :=
  (pe_dc G.calm G.nd hi (blkOk_by hb) (fun s H C cl fp => pg_ok (gx_blk G s H scope C cl fp) asg_blk ctg tg htg) (fun s H C cl fp => tYes_imp) (fun s H C cl fp => hk _ (gx_blk G s H scope C cl fp) ⟨rfl, rfl⟩) (fun s H C cl fp => he _ (gx_blk G s H scope C cl fp) ⟨rfl, rfl⟩) (fold_ok hs X.env)).imp
    fun _ _ _ h => dc_read hv h
end
end
end Fv
end

section
set_option maxRecDepth 100000
set_option maxHeartbeats 4000000
open PySem
theorem lookup_zip_map : ∀ (ns : List Str) (us : List Value), ns.Nodup → us.length = ns.length → ∀ (pre : List (Str × Value)), (∀ n ∈ ns, pre.lookup n = none) → ns.filterMap (fun n => ((pre ++ ns.zip us).lookup n).map fun v => (n, v)) = ns.zip us
  | [], _, _, _, _, _ => by simp
  | n :: ns, [], _, h, _, _ => by simp at h
  | n :: ns, u :: us, nd, h, pre, hp => by
    have nd' := List.nodup_cons.mp nd
    have h1 : (pre ++ (n :: ns).zip (u :: us)).lookup n = some u := by
      rw [List.lookup_append, hp n (List.mem_cons_self ..)]
      simp
    simp only [List.zip_cons_cons] at h1
    simp only [List.zip_cons_cons, List.filterMap_cons, h1, Option.map_some]
    congr 1
    have ih := lookup_zip_map ns us nd'.2 (by simpa using h) (pre ++ [(n, u)]) fun m hm => by
      rw [List.lookup_append, hp m (List.mem_cons_of_mem _ hm)]
      have : (m == n) = false := by
        cases q : m == n with
        | false => rfl
        | true => exact absurd (eq_of_beq q ▸ hm) nd'.1
      simp [List.lookup_cons, this]
    rw [List.append_assoc] at ih
    exact ih
theorem lookup_some {ns : List Str} {us : List Value} (h : us.length = ns.length) : ∀ n ∈ ns, ((ns.zip us).lookup n).isSome = true := by
  induction ns generalizing us with
  | nil => simp
  | cons m ns ih =>
    cases us with
    | nil => simp at h
    | cons u us =>
      intro n hn
      by_cases q : (n == m) = true
      · simp [List.lookup_cons, q]
      · have q : (n == m) = false := by simpa using q
        simp only [List.zip_cons_cons, List.lookup_cons, q]
        refine ih (by simpa using h) n ?_
        rcases List.mem_cons.mp hn with rfl | hn
        · simp at q
        · exact hn
theorem bind_plain {fd : FuncData} {us : List Value} (h1 : fd.params.posonlyargs = []) (h2 : fd.params.kwonlyargs = []) (h3 : fd.params.vararg = none) (h4 : fd.params.kwarg = none) (h5 : fd.defaults = .none)
    (nd : (fd.params.args.map (·.arg)).Nodup) (hl : us.length = fd.params.args.length) : bindArgs fd ⟨us, []⟩ = pure ((fd.params.args.map (·.arg)).zip us) := by
  have hl' : us.length = (fd.params.args.map (·.arg)).length := by simpa using hl
  have e0 : seqItems? Value.none = pure none := rfl
  have k1 := lookup_zip_map (fd.params.args.map (·.arg)) us nd hl' [] (by simp)
  have k2 := lookup_some hl'
  unfold bindArgs
  simp only [h1, h2, h3, h4, h5, List.map_nil, List.nil_append, List.append_nil, List.forIn_nil, pure_bind, e0, Option.getD_none, hl]
  have hf : ∀ m, List.filter (fun n => (List.lookup n ((fd.params.args.map (·.arg)).zip us)).isNone) (List.take m (fd.params.args.map (·.arg))) = [] := fun m => by
    rw [List.filter_eq_nil_iff]
    intro n hn
    have := k2 n (List.mem_of_mem_take hn)
    simp only [Option.isSome_iff_ne_none] at this
    simpa using this
  rw [if_neg (by simp)]
  rw [if_neg (by rw [hf]; decide)]
  simp only [List.drop_nil, List.zip_nil_right, List.forIn_nil, pure_bind]
  rw [if_neg (by decide)]
  simp only [List.nil_append] at k1
  rw [k1]
end

section
set_option Elab.async false
set_option linter.all false
set_option maxRecDepth 100000
set_option maxHeartbeats 4000000
set_option autoImplicit false
namespace Fv
open PySem PySem.Spec PyProof.Rows L2
section
variable {g : Pg}
/-- all but what is known stays -/
def Keeps (x y : Wo) : Prop := x.m = y.m ∧ (∀ a, live y a ↔ live x a) ∧ ∀ a o, x.h a = some o → (∀ φ, o ≠ .ext φ) → y.h a = some o
mutual
theorem Rep_nc {x y : Wo} (K : Keeps x y) : ∀ (d : D) (v : V), noClo d = true → Rep g x d v → Rep g y d v
  | .unset, _, _, h => by simpa only [Rep] using h
  | .non, _, _, h => by simpa only [Rep] using h
  | .bl _, _, _, h => by simpa only [Rep] using h
  | .int _, _, _, h => by simpa only [Rep] using h
  | .str _, _, _, h => by simpa only [Rep] using h
  | .tup ds, v, hn, h => by
    simp only [Rep] at h ⊢
    obtain ⟨a, vs, h1, h2, h3⟩ := h
    refine ⟨a, vs, h1, ?_, Reps_nc K ds vs (by simpa only [noClo] using hn) h3⟩
    rcases h2 with (h2 | ⟨o, h2⟩) | h2
    · exact .inl (.inl (K.2.2 _ _ h2 fun _ => by simp))
    · exact .inl (.inr ⟨o, K.2.2 _ _ h2 fun _ => by simp⟩)
    · exact .inr h2
  | .lst ds, v, hn, h => by
    simp only [Rep] at h ⊢
    obtain ⟨a, vs, h1, h2, h3, h4⟩ := h
    exact ⟨a, vs, h1, K.2.2 _ _ h2 fun _ => by simp, fun l => h3 ((K.2.1 a).mp l), Reps_nc K ds vs (by simpa only [noClo] using hn) h4⟩
  | .dic ks ds, v, hn, h => by
    simp only [Rep] at h ⊢
    obtain ⟨a, kvs, h1, h2, h3, h4, h5⟩ := h
    exact ⟨a, kvs, h1, K.2.2 _ _ h2 fun _ => by simp, fun l => h3 ((K.2.1 a).mp l), h4, Reps_nc K ds _ (by simpa only [noClo] using hn) h5⟩
  | .scr ns, v, _, h => by
    simp only [Rep] at h ⊢
    obtain ⟨a, h1, h2⟩ := h
    refine ⟨a, h1, h2.imp ?_ (Or.imp (fun q => ⟨K.2.2 _ _ q.1 fun _ => by simp, fun l => q.2 ((K.2.1 a).mp l)⟩) id)⟩
    rintro ⟨o, h2⟩
    exact ⟨o, K.2.2 _ _ h2 fun _ => by simp⟩
  | .fn _, _, _, h => by simp only [Rep] at h ⊢; exact h
  | .obj n, v, _, h => by
    simp only [Rep] at h ⊢
    rw [← K.1]
    exact h
  | .clo _ _, _, hn, _ => by simp [noClo] at hn
theorem Reps_nc {x y : Wo} (K : Keeps x y) : ∀ (ds : List D) (vs : List V), noClos ds = true → Reps g x ds vs → Reps g y ds vs
  | [], _, _, h => by simpa only [Reps] using h
  | d :: ds, vs, hn, h => by
    simp only [noClos, Bool.and_eq_true] at hn
    simp only [Reps] at h ⊢
    obtain ⟨v, r, h1, h2, h3⟩ := h
    exact ⟨v, r, h1, Rep_nc K d v hn.1 h2, Reps_nc K ds r hn.2 h3⟩
end
theorem flds_nc {x y : Wo} (K : Keeps x y) : ∀ (ps : List (Txt × D)) (fs : List (Str × V)), noCloF ps = true → fldsOk g x ps fs → fldsOk g y ps fs
  | [], _, _, h => by simpa only [fldsOk] using h
  | p :: ps, fs, hn, h => by
    simp only [noCloF, Bool.and_eq_true] at hn
    simp only [fldsOk] at h ⊢
    obtain ⟨v, r, h1, h2, h3⟩ := h
    exact ⟨v, r, h1, Rep_nc K _ _ hn.1 h2, flds_nc K ps r hn.2 h3⟩
theorem CellOk_nc {x y : Wo} (K : Keeps x y) {a : Addr} {c : Cell} (hn : noCloC c = true) (h : CellOk g x a c) : CellOk g y a c := by
  cases c with
  | dead => trivial
  | lst ds => obtain ⟨vs, h1, h2⟩ := h; exact ⟨vs, K.2.2 _ _ h1 fun _ => by simp, Reps_nc K _ _ (by simpa only [noCloC] using hn) h2⟩
  | dic ks ds => obtain ⟨vs, h1, h2, h3⟩ := h; exact ⟨vs, K.2.2 _ _ h1 fun _ => by simp, h2, Reps_nc K _ _ (by simpa only [noCloC] using hn) h3⟩
  | ins C fs => obtain ⟨dx, fv, h1, h2⟩ := h; exact ⟨dx, fv, K.2.2 _ _ h1 fun _ => by simp, flds_nc K _ _ (by simpa only [noCloC] using hn) h2⟩
end
end Fv
end

section
set_option Elab.async false
set_option linter.all false
set_option maxRecDepth 100000
set_option maxHeartbeats 4000000
set_option autoImplicit false
namespace Fv
open PySem PySem.Spec PyProof.Rows L2
def reH (cs : List Addr) (h0 h : Hp) : Hp := fun a => if a ∈ cs then h0 a else h a
theorem reH_in {cs : List Addr} {h0 h : Hp} {a : Addr} (m : a ∈ cs) : reH cs h0 h a = h0 a := if_pos m
theorem reH_no {cs : List Addr} {h0 h : Hp} {a : Addr} (m : a ∉ cs) : reH cs h0 h a = h a := if_neg m
theorem objO_ext {a : Addr} {o : Obj} : ∃ φ, ObjO a o = .ext φ := ⟨_, rfl⟩
theorem objO_at {P : Program} {w : World} {H : Hp} {h : Heap} {a : Addr} {o : Obj} (k : HOk P w H h) (e : H a = some (ObjO a o)) : h.get? a = some o := (k a _ e).1
theorem objOk_O {P : Program} {w : World} {H : Hp} {h : Heap} {a : Addr} {o : Obj} (e : h.get? a = some o) : ObjOk P w H h a (ObjO a o) := ⟨e, ⟨o, e⟩, fun h1 h2 q st => st o q⟩
section
variable {P : Program} {w : World} {fs cs : List Addr} {H H' : Hp} {h h' B : Heap}
/-- taken back: the cells are known again -/
theorem re_hok (hc : ∀ c ∈ cs, ∃ o, H c = some (ObjO c o) ∧ h'.get? c = some o) (hn : ∀ c ∈ cs, H' c = none) (ok : HOk P w H' h') : HOk P w (reH cs H H') h' := fun a o e => by
  by_cases m : a ∈ cs
  · rw [reH_in m] at e
    obtain ⟨o', h1, h2⟩ := hc a m
    rw [h1] at e; cases e
    exact objOk_O h2
  · rw [reH_no m] at e
    have up : ∀ b u, H' b = some u → reH cs H H' b = some u := fun b u q => by
      by_cases mb : b ∈ cs
      · rw [hn b mb] at q; cases q
      · rw [reH_no mb]; exact q
    exact (ok a o e).stay (fun _ _ _ q => q) (fun b q => up b _ q) fun b xs q => up b _ q
theorem re_un (hc : ∀ c ∈ cs, ∃ o, H c = some (ObjO c o) ∧ h.get? c = some o ∧ c ∉ fs) (u : Un fs [] (unH cs H) H' h h') (ok : HOk P w H' h') :
    (∀ c ∈ cs, H' c = none) ∧ Un fs [] H (reH cs H H') h h' ∧ HOk P w (reH cs H H') h' := by
  have hn : ∀ c ∈ cs, H' c = none := fun c m => by
    obtain ⟨o, _, h2, _⟩ := hc c m
    exact u.free c o h2 (unH_in m) (by simp)
  have no : ∀ b, H b = none → b ∉ cs := fun b e m => by
    obtain ⟨o, h1, _⟩ := hc b m
    rw [h1] at e; cases e
  have no2 : ∀ b u, H b = some u → (∀ φ, u ≠ .ext φ) → b ∉ cs := fun b u e n m => by
    obtain ⟨o, h1, _⟩ := hc b m
    rw [h1] at e; cases e
    exact n _ rfl
  refine ⟨hn, ⟨fun b o e n hf hx => u.keep b o e (by rw [unH_no (no b n)]; exact n) hf hx, fun b o e n hf hx => u.slot b o e (by rw [unH_no (no b n)]; exact n) hf hx, fun b o e n hx => ?_, u.there, fun b xs e => ?_, fun b o v e => ?_, fun b ps e => ?_⟩, re_hok (fun c m => ?_) hn ok⟩
  · rw [reH_no (no b n)]
    exact u.free b o e (by rw [unH_no (no b n)]; exact n) hx
  · have m := no2 b _ e fun _ => by simp
    rw [reH_no m]
    exact u.tups b xs (by rw [unH_no m]; exact e)
  · have m := no2 b _ e fun _ => by simp
    rw [reH_no m]
    exact u.frzs b o v (by rw [unH_no m]; exact e)
  · have m := no2 b _ e fun _ => by simp
    rw [reH_no m]
    exact u.tbls b ps (by rw [unH_no m]; exact e)
  · obtain ⟨o, h1, h2, h3⟩ := hc c m
    exact ⟨o, h1, u.keep c o h2 (unH_in m) h3 (by simp)⟩
theorem re_ub (hc : ∀ c ∈ cs, ∃ o, H c = some (ObjO c o) ∧ h.get? c = some o ∧ c ∉ fs) (u : UB fs (unH cs H) H' h B h') (ok : HOk P w H' B) :
    (∀ c ∈ cs, H' c = none) ∧ (∀ c ∈ cs, ∃ o, B.get? c = some o) ∧ UB fs H (reH cs H H') h B h' ∧ HOk P w (reH cs H H') B := by
  have hn : ∀ c ∈ cs, H' c = none := fun c m => by
    obtain ⟨o, _, h2, _⟩ := hc c m
    exact u.free c o h2 (unH_in m)
  have no : ∀ b, H b = none → b ∉ cs := fun b e m => by
    obtain ⟨o, h1, _⟩ := hc b m
    rw [h1] at e; cases e
  have no2 : ∀ b u, H b = some u → (∀ φ, u ≠ .ext φ) → b ∉ cs := fun b u e n m => by
    obtain ⟨o, h1, _⟩ := hc b m
    rw [h1] at e; cases e
    exact n _ rfl
  have hB : ∀ c ∈ cs, ∃ o, H c = some (ObjO c o) ∧ B.get? c = some o := fun c m => by
    obtain ⟨o, h1, h2, h3⟩ := hc c m
    exact ⟨o, h1, u.keep c o h2 (unH_in m) h3⟩
  refine ⟨hn, fun c m => (hB c m).imp fun o q => q.2, ⟨fun b o e n hf => u.keep b o e (by rw [unH_no (no b n)]; exact n) hf, u.slot, fun b o e n => ?_, u.there, fun b xs e => ?_, fun b o v e => ?_, fun b ps e => ?_⟩, re_hok hB hn ok⟩
  · rw [reH_no (no b n)]
    exact u.free b o e (by rw [unH_no (no b n)]; exact n)
  · have m := no2 b _ e fun _ => by simp
    rw [reH_no m]
    exact u.tups b xs (by rw [unH_no m]; exact e)
  · have m := no2 b _ e fun _ => by simp
    rw [reH_no m]
    exact u.frzs b o v (by rw [unH_no m]; exact e)
  · have m := no2 b _ e fun _ => by simp
    rw [reH_no m]
    exact u.tbls b ps (by rw [unH_no m]; exact e)
end
def Wo.re (x : Wo) (cs : List Addr) (h0 : Hp) : Wo := ⟨x.m, x.s, reH cs h0 x.h, x.tm⟩
/-- cells, known as they stand -/
def Cells (P : Program) (w : World) (x : Wo) (cs : List Addr) : Prop := (∀ c ∈ cs, ∃ o v, x.h c = some (ObjO c o) ∧ o.data = .cell v) ∧ ∃ h, HOk P w x.h h
section
variable {g : Pg} {P : Program} {w : World} {x y : Wo} {cs : List Addr}
theorem Cells.no (k : Cells P w x cs) {a : Addr} {o : HO} (e : x.h a = some o) (n : ∀ φ, o ≠ .ext φ) : a ∉ cs := fun m => by
  obtain ⟨u, v, h1, _⟩ := k.1 a m
  rw [h1] at e; cases e
  exact n _ rfl
theorem Cells.noC (k : Cells P w x cs) {a : Addr} {q : Str} (e : x.h a = some (LamX.CodeO a q)) : a ∉ cs := fun m => by
  obtain ⟨u, v, h1, h2⟩ := k.1 a m
  obtain ⟨h, hok⟩ := k.2
  have q1 := objO_at hok h1
  obtain ⟨⟨oc, vs, t, q2, q3, _⟩, _⟩ := hok a _ e
  rw [q1] at q2; cases q2
  rw [h2] at q3; cases q3
theorem Cells.noF (k : Cells P w x cs) {a : Addr} {o : Obj} (e : x.h a = some (ObjO a o)) (ho : ∀ v, o.data ≠ .cell v) : a ∉ cs := fun m => by
  obtain ⟨u, v, h1, h2⟩ := k.1 a m
  obtain ⟨h, hok⟩ := k.2
  have q1 := objO_at hok h1
  have q2 := objO_at hok e
  rw [q1] at q2; cases q2
  exact ho v h2
theorem keeps_un (k : Cells P w x cs) : Keeps x (x.un cs) := ⟨rfl, fun _ => Iff.rfl, fun a o e n => by
  show unH cs x.h a = some o
  rw [unH_no (k.no e n)]; exact e⟩
theorem ok_un (ok : Ok g x) (k : Cells P w x cs) : Ok g (x.un cs) := by
  have K := keeps_un k
  refine ⟨ok.len, ok.nd, fun n a c h1 h2 => CellOk_nc K (ok.nc c (List.mem_of_getElem? h2)) (ok.cells n a c h1 h2), fun p hp => ?_, fun a h => ?_, ok.nc, ok.tmm, fun a h => ?_⟩
  · obtain ⟨ps, h1, h2, h3⟩ := ok.tabs p hp
    refine ⟨ps, K.2.2 _ _ h1 fun _ => by simp, h2, fun pos cv hc => ?_⟩
    obtain ⟨c, e1, e2⟩ := h3 pos cv hc
    exact ⟨c, e1, by show unH cs x.h c = _; rw [unH_no (k.noC e2)]; exact e2⟩
  · obtain ⟨o, h1, h2, h3⟩ := ok.all a h
    exact ⟨o, K.2.2 _ _ h1 h2, h2, h3⟩
  · obtain ⟨o, h1, h2⟩ := ok.tmk a h
    refine ⟨o, K.2.2 _ _ h1 fun φ => ?_, h2⟩
    rcases h2 with ⟨_, rfl⟩ | ⟨_, rfl⟩ <;> simp
/-- behind the lambda's body: the cells known again -/
theorem keeps_re (hn : ∀ c ∈ cs, y.h c = none) (h0 : Hp) : Keeps y (y.re cs h0) := ⟨rfl, fun _ => Iff.rfl, fun a o e n => by
  show reH cs h0 y.h a = some o
  rw [reH_no fun m => by rw [hn a m] at e; cases e]; exact e⟩
theorem ext_re (k : Cells P w x cs) (hn : ∀ c ∈ cs, y.h c = none) (ok : Ok g x) (oky : Ok g y) (e : Ext (x.un cs) y) : Ext x (y.re cs x.h) := by
  have fr : ∀ a, Free (x.un cs) a → a ∉ cs → Free x a := fun a f m o q => f o (by show unH cs x.h a = _; rw [unH_no m]; exact q)
  refine ⟨⟨e.pre, e.dead, fun a o h1 h2 h3 => ?_, fun a h f => ?_, fun n a h1 h2 => ?_, e.len, e.len', fun a h => ?_⟩, e.tm, fun a h => ?_⟩
  · show reH cs x.h y.h a = some o
    by_cases m : a ∈ cs
    · rw [reH_in m]; exact h1
    · rw [reH_no m]
      exact e.keep a o (by show unH cs x.h a = _; rw [unH_no m]; exact h1) h2 h3
  · by_cases m : a ∈ cs
    · refine h fun o q => f o ?_
      show reH cs x.h y.h a = _
      rw [reH_in m]; exact q
    · refine e.held a (fun q => h (fr a q m)) fun o q => f o ?_
      show reH cs x.h y.h a = _
      rw [reH_no m]; exact q
  · have q := e.new n a h1 h2
    by_cases m : a ∈ cs
    · exfalso
      have h2 : y.m[n]? = some a := h2
      obtain ⟨o, q1, _⟩ := oky.all a (List.mem_of_getElem? h2)
      rw [hn a m] at q1; cases q1
    · exact fr a q m
  · by_cases m : a ∈ cs
    · exfalso
      obtain ⟨o, q1, _⟩ := oky.tmk a h
      rw [hn a m] at q1; cases q1
    · exact (e.tmn a h).imp id fun q => fr a q m
  · show reH cs x.h y.h a = x.h a
    obtain ⟨o, h1, h2⟩ := ok.tmk a h
    have m : a ∉ cs := k.no h1 fun φ => by rcases h2 with ⟨_, rfl⟩ | ⟨_, rfl⟩ <;> simp
    rw [reH_no m, e.keepT a h]
    show unH cs x.h a = x.h a
    rw [unH_no m]
theorem ok_re (k : Cells P w x cs) (hn : ∀ c ∈ cs, y.h c = none) (ok : Ok g x) (oky : Ok g y) : Ok g (y.re cs x.h) := by
  have K := keeps_re (y := y) hn x.h
  refine ⟨oky.len, oky.nd, fun n a c h1 h2 => CellOk_nc K (oky.nc c (List.mem_of_getElem? h2)) (oky.cells n a c h1 h2), fun p hp => ?_, fun a h => ?_, oky.nc, oky.tmm, fun a h => ?_⟩
  · obtain ⟨ps, h1, h2, h3⟩ := oky.tabs p hp
    refine ⟨ps, K.2.2 _ _ h1 fun _ => by simp, h2, fun pos cv hc => ?_⟩
    obtain ⟨c, e1, e2⟩ := h3 pos cv hc
    exact ⟨c, e1, by show reH cs x.h y.h c = _; rw [reH_no fun m => by rw [hn c m] at e2; cases e2]; exact e2⟩
  · obtain ⟨o, h1, h2, h3⟩ := oky.all a h
    exact ⟨o, K.2.2 _ _ h1 h2, h2, h3⟩
  · obtain ⟨o, h1, h2⟩ := oky.tmk a h
    refine ⟨o, K.2.2 _ _ h1 fun φ => ?_, h2⟩
    rcases h2 with ⟨_, rfl⟩ | ⟨_, rfl⟩ <;> simp
theorem rep_re (hn : ∀ c ∈ cs, y.h c = none) {d : D} {v : V} (hc : noClo d = true) (r : Rep g y d v) : Rep g (y.re cs x.h) d v := Rep_nc (keeps_re hn x.h) d v hc r
end
end Fv
end

section
set_option Elab.async false
set_option linter.all false
set_option maxRecDepth 100000
set_option maxHeartbeats 4000000
set_option autoImplicit false
namespace Fv
open PySem PySem.Spec PyProof.Rows L2
/-- what the names of a lambda are -/
structure LamSc (N : List Str) (ps : List Nat) (params : Arguments) (scope : Scope) : Prop where
  kind : scope.kind = .function
  co : scope.isCoroutine = false
  gen : scope.isGenerator = false
  cell : ∀ y ∈ scope.names, y.2 ≠ .cell
  loc : ∀ y, scope.names.lookup y = some .local → y ∈ params.args.map (·.arg)
  par : ∀ y ∈ params.args.map (·.arg), scope.names.lookup y = some .local
  nd : (params.args.map (·.arg)).Nodup
  ndN : N.Nodup
  slots : ps.map (fun i => N[i]?) = (params.args.map (·.arg)).map some
  p1 : params.posonlyargs = []
  p2 : params.kwonlyargs = []
  p3 : params.vararg = none
  p4 : params.kwarg = none
/-- the context of a lambda's body -/
def clX (g : Pg) (A : Around) (outer : List Env) (s : Shared) (H : Hp) (E : XK) (N : List Str) (qual : Str) (scope : Scope) (f c' : Addr) (cl : List (Str × Addr)) : Cx where
  prog := g.P
  w := g.w
  K := g.K
  mg := g.mg
  base := g.base
  A := A.deeper (PySem.W.envX qual scope s.heap.objs.size f (.ref c') cl)
  N := N
  s_0 := s
  H_0 := H
  env := PySem.W.envX qual scope s.heap.objs.size f (.ref c') cl
  outer := outer
  stack := PySem.W.envX qual scope s.heap.objs.size f (.ref c') cl :: outer
  ex := []
  fn := fun _ => false
  calm := true
  pn := []
  xe := fun e s' => wpAny (model g.P g.w) (A.deeper (PySem.W.envX qual scope s.heap.objs.size f (.ref c') cl)) (leaving (PySem.W.envX qual scope s.heap.objs.size f (.ref c') cl) e) (fun _ s'' => L2N.CX g.P g.w outer H s E e s'') (fun e' s'' => L2N.CX g.P g.w outer H s E e' s'') s'
theorem gx_clX {g : Pg} {k : Nat} {A : Around} {outer : List Env} {s : Shared} {H : Hp} {E : XK} {N : List Str} {qual : Str} {scope : Scope} {f c' : Addr} {cl : List (Str × Addr)}
    (hr : Room (k + 1) (A.deeper (PySem.W.envX qual scope s.heap.objs.size f (.ref c') cl))) (nd : N.Nodup) : GX g k (clX g A outer s H E N qual scope f c' cl) (fun v dd _ H => E v dd H) :=
  ⟨rfl, rfl, rfl, rfl, rfl, rfl, hr, L2N.takes_of rfl rfl rfl rfl, nd⟩
def setAll : List Nat → List V → St → St
  | i :: is, v :: vs, σ => setAll is vs (σ.set i (some v))
  | _, _, σ => σ
section
variable {g : Pg} {x : Wo}
theorem asg_renv : ∀ {is : List Nat} {ds : List D} {vs : List V} {env env1 : Envd} {σ : St}, asgAll is ds env = some env1 → REnv g x env σ → Reps g x ds vs → REnv g x env1 (setAll is vs σ) ∧ is.length = vs.length ∧ ∀ i ∈ is, i < env.length
  | [], [], vs, env, env1, σ, h, re, r => by
    simp only [asgAll, Option.some.injEq] at h
    subst h
    simp only [Reps] at r
    subst r
    exact ⟨re, rfl, by simp⟩
  | [], _ :: _, _, _, _, _, h, _, _ => by simp [asgAll] at h
  | _ :: _, [], _, _, _, _, h, _, _ => by simp [asgAll] at h
  | i :: is, d :: ds, vs, env, env1, σ, h, re, r => by
    simp only [asgAll] at h
    split at h
    · rename_i hi
      simp only [Reps] at r
      obtain ⟨v, r', rfl, r1, r2⟩ := r
      obtain ⟨h1, h2, h3⟩ := asg_renv h (renv_put i re r1) r2
      refine ⟨h1, by simp [h2], fun j hj => ?_⟩
      rcases List.mem_cons.mp hj with rfl | hj
      · exact hi
      · simpa using h3 j hj
    · cases h
theorem setAll_len : ∀ (is : List Nat) (vs : List V) (σ : St), (setAll is vs σ).length = σ.length
  | [], _, _ => rfl
  | _ :: _, [], _ => rfl
  | i :: is, v :: vs, σ => by simp only [setAll, setAll_len is vs, List.length_set]
theorem setAll_no : ∀ (is : List Nat) (vs : List V) (σ : St) (j : Nat), j ∉ is → (setAll is vs σ)[j]? = σ[j]?
  | [], _, _, _, _ => rfl
  | _ :: _, [], _, _, _ => rfl
  | i :: is, v :: vs, σ, j, h => by
    simp only [List.mem_cons, not_or] at h
    simp only [setAll]
    rw [setAll_no is vs _ j h.2, List.getElem?_set_ne (Ne.symm h.1)]
theorem setAll_at : ∀ (is : List Nat) (vs : List V) (σ : St) (j i : Nat) (v : V), is.Nodup → is[j]? = some i → vs[j]? = some v → i < σ.length → (setAll is vs σ)[i]? = some (some v)
  | [], _, _, _, _, _, _, h, _, _ => by simp at h
  | _ :: _, [], _, _, _, _, _, _, h, _ => by simp at h
  | i :: is, v :: vs, σ, 0, _, _, nd, h1, h2, hl => by
    simp at h1 h2
    subst h1 h2
    have nd := List.nodup_cons.mp nd
    simp only [setAll]
    rw [setAll_no is vs _ i nd.1]
    simp [hl]
  | i :: is, v :: vs, σ, j + 1, i', v', nd, h1, h2, hl => by
    simp only [setAll]
    exact setAll_at is vs _ j i' v' (List.nodup_cons.mp nd).2 (by simpa using h1) (by simpa using h2) (by simpa using hl)
end
theorem lookup_rev {ns : List Str} {us : List Value} (nd : ns.Nodup) {j : Nat} {y : Str} {u : Value} (h1 : ns[j]? = some y) (h2 : us[j]? = some u) : (ns.zip us).reverse.lookup y = some u := by
  induction ns generalizing us j with
  | nil => simp at h1
  | cons n ns ih =>
    cases us with
    | nil => simp at h2
    | cons w us =>
      have nd := List.nodup_cons.mp nd
      simp only [List.zip_cons_cons, List.reverse_cons, List.lookup_append]
      cases j with
      | zero =>
        simp at h1 h2
        subst h1 h2
        have : (ns.zip us).reverse.lookup n = none := by
          rw [List.lookup_eq_none_iff]
          intro p hp
          have hp := List.mem_reverse.mp hp
          have := (List.of_mem_zip hp).1
          have q : (n == p.1) = false := ne_beq fun z : n = p.1 => nd.1 (by rw [z]; exact this)
          simp [bne, q]
        rw [this]
        simp
      | succ j =>
        rw [ih nd.2 (by simpa using h1) (by simpa using h2)]
        rfl
theorem un_hok {P : Program} {w : World} {H : Hp} {h : Heap} {cs : List Addr} (hc : ∀ c ∈ cs, ∃ o, H c = some (ObjO c o)) (ok : HOk P w H h) : HOk P w (unH cs H) h := fun a o e => by
  by_cases m : a ∈ cs
  · rw [unH_in m] at e; cases e
  · rw [unH_no m] at e
    have up : ∀ b u, H b = some u → (∀ φ, u ≠ .ext φ) → unH cs H b = some u := fun b u q n => by
      rw [unH_no fun mb => by
        obtain ⟨o, h1⟩ := hc b mb
        rw [q] at h1; cases h1
        exact n _ rfl]
      exact q
    exact (ok a o e).stay (fun _ _ _ q => q) (fun b q => up b _ q fun _ => by simp) fun b xs q => up b _ q fun _ => by simp
/-- what ends a call that was made with the cells not known -/
theorem cx_re {P : Program} {w : World} {outer : List Env} {H : Hp} {s s' : Shared} {E : XK} {u : Value} {cs : List Addr} (hc : ∀ c ∈ cs, ∃ o, H c = some (ObjO c o) ∧ s.heap.get? c = some o ∧ c ∉ frs outer)
    (h : L2N.CX P w outer (unH cs H) s (fun v d H' => (∀ c ∈ cs, H' c = none) → E v d (reH cs H H')) u s') : L2N.CX P w outer H s E u s' := by
  obtain ⟨a, B, H', cls, d, h1, h2, h3, h4, h5, h6, h7, h8⟩ := h
  obtain ⟨q1, q2, q3, q4⟩ := re_ub hc h4 h3
  refine ⟨a, B, reH cs H H', cls, d, h1, h2, q4, q3, ?_, h6, h7, h8 q1⟩
  have m : a ∉ cs := fun m => by
    obtain ⟨o, q⟩ := q2 a m
    have := h2.2.1
    rw [q] at this; cases this
  rw [reH_no m]; exact h5
/-- closures that may be called at this depth -/
def CloRun (g : Pg) (k : Nat) : Prop := ∀ (l : Nat) (caps : Envd) (f : Addr) (A : Around) (outer : List Env) (s : Shared) (z : Wo) (us : List Value) (vs : List V) (ds : List D) (Q : VK) (E : XK), Room (k + 1) A → Env0 g.P g.w g.K g.mg g.base A outer s z.h → Ok g z →
  Rep g z (.clo l caps) (.ref f) → Reps g z ds vs → Vals vs us → PostG g (Rep g) (fun v dd _ H => E v dd H) [] z (callF g.T k (.clo l caps) ds z.s) Q → codeAny (model g.P g.w) A (.call (.ref f) ⟨us, []⟩) (CR (L2N.CX g.P g.w) outer g.P g.w z.h s Q E) s
theorem cloRun0 (g : Pg) : CloRun g 0 := fun l caps f A outer s z us vs ds Q E _ _ _ _ _ _ post => by
  rw [callF_z] at post
  exact post.elim
/-- what is asked of the text for a lambda that may be made -/
def BodyOk (g : Pg) (k : Nat) : Prop := ∀ (l : Nat) (params : Arguments) (body : PySem.Expr) (scope : Scope) (N : List Str) (m : LamC), g.fits l params body scope N → g.T.lams[l]? = some m → LamSc N m.ps params scope ∧
  ∀ (X : Cx) (W : WX), GX g k X W → X.N = N → X.env.scope = scope → PE X body (tE g k W m.body)
theorem cloRun_succ {g : Pg} {k : Nat} (B : BodyOk g k) : CloRun g (k + 1) := by
  intro l caps f A outer s z us vs ds Q E hr e0 ok rc rds rvs post
  simp only [callF_c] at post
  split at post
  case h_2 => exact post.elim
  rename_i m hm
  split at post
  case h_2 => exact post.elim
  rename_i envl henv
  split at post
  case isFalse => exact post.elim
  rename_i hnc
  simp only [Rep] at rc
  obtain ⟨f', params, body, scope, N, ql, pm, c', ctv, cl, σ, hf, h2, h0, h3, h4, h5, h6, h7, h8, h9⟩ := rc
  cases hf
  obtain ⟨L, hbody⟩ := B l params body scope N m h0 hm
  let cs : List Addr := cl.map fun p => p.2
  have hC : Cells g.P g.w z cs := ⟨h5, s.heap, e0.hok⟩
  have hcs : ∀ c ∈ cs, ∃ o, z.h c = some (ObjO c o) ∧ s.heap.get? c = some o ∧ c ∉ frs outer := fun c mc => by
    obtain ⟨o, v, q1, _⟩ := h5 c mc
    refine ⟨o, q1, objO_at e0.hok q1, fun hfr => ?_⟩
    rw [e0.frf c hfr] at q1; cases q1
  have inC : ∀ y c, cl.lookup y = some c → c ∈ cs := fun y c q => List.mem_map.mpr ⟨(y, c), PySem.mem_of_lookup q, rfl⟩
  have hobj : s.heap.get? f = some _ := h2.elim (fun q => objO_at e0.hok q) fun q => (e0.bs f _ q).1
  obtain ⟨⟨oc, vs0, t0, hoc, hdc, hvc⟩, _⟩ := e0.hok c' _ h3
  have hlp : m.ps.length = params.args.length := by
    have := congrArg List.length L.slots
    simpa using this
  have rds' : Reps g (z.un cs) ds vs := Reps_nc (keeps_un hC) ds vs hnc rds
  obtain ⟨re1, hlv, hlt⟩ := asg_renv henv (show REnv g (z.un cs) caps σ from h9) rds'
  have hlu : us.length = params.args.length := by rw [← rvs.length, ← hlv, hlp]
  have hbind : bindArgs (PySem.W.kla_fn "<lambda>" ql params body scope cl pm (.ref c') ctv) ⟨us, []⟩ = pure ((params.args.map (·.arg)).zip us) := bind_plain L.p1 L.p2 L.p3 L.p4 rfl L.nd hlu
  have ndp : m.ps.Nodup := by
    have h : (m.ps.map fun i => N[i]?).Nodup := by
      rw [L.slots]
      exact List.pairwise_map.mpr (L.nd.imp fun h z => h (Option.some.inj z))
    exact (List.pairwise_map.mp h).imp fun h z => h (by rw [z])
  let Ecl : XK := fun v d H' => (∀ c ∈ cs, H' c = none) → E v d (reH cs z.h H')
  have rc : codeAny (model g.P g.w) A (.call (.ref f) ⟨us, []⟩) (CR (L2N.CX g.P g.w) outer g.P g.w z.h s Q E) s := by
    refine PySem.W.kla_callFunE hr.depth hobj rfl L.co L.gen rfl ⟨c', oc, vs0, t0, rfl, hoc, hdc, hvc⟩ ?_
    rw [hbind]
    refine wpAny_pure (wpAny_newFunctionEnv (fun y hy => L.cell y hy) (fun y hy => L.par _ (List.of_mem_zip hy).1) (fun h₁ hns hsb => ⟨(e0.mod.nolimit.keeps fun b o e => (e0.bs b o e).1).fresh _ hsb, ?_⟩) L.kind)
    show codeAny _ _ (.expr body (PySem.W.envX ql scope s.heap.objs.size f (.ref c') cl)) _ _
    have kp : ∀ b o, s.heap.get? b = some o → h₁.get? b = some o := fun b o e => hsb.extBut b o (Nat.ne_of_lt (Heap.lt_size e)) (Heap.get?_push_of_some _ e)
    have J : Inv (clX g A outer s (unH cs z.h) Ecl N ql scope f c' cl) [] (setAll m.ps vs σ) (unH cs z.h) { s with heap := h₁, toks := s.toks + ((params.args.map (·.arg)).zip us).length } := by
      have noA : ∀ b : Addr, b ∉ (clX g A outer s (unH cs z.h) Ecl N ql scope f c' cl).ex := fun b z => absurd (show b ∈ ([] : List Addr) from z) (by simp)
      have hun : ∀ b, z.h b = none → unH cs z.h b = none := fun b q => by
        unfold unH
        split
        · rfl
        · exact q
      have cellAt : ∀ y c, cl.lookup y = some c → ∃ o v, s.heap.get? c = some o ∧ o.data = .cell v ∧ z.h c = some (ObjO c o) := fun y c q => by
        obtain ⟨o, v, q1, q2⟩ := h5 c (inC y c q)
        exact ⟨o, v, objO_at e0.hok q1, q2, q1⟩
      refine ⟨⟨e0.mod, L.kind, rfl, rfl, Nat.le_refl _, fun y y2 c e1 e2 => h4 y y2 c e1 e2, fun y hy => ?_, fun y c q _ => ?_, fun _ => hr.hd, Around.frames_deeper e0.frames, .inr ⟨rfl, rfl⟩, fun b q => absurd q (noA b), fun b o e => ⟨(e0.bs b o e).1, hun b (e0.bs b o e).2⟩, e0.bsz, fun b _ _ => noA b,
          fun b q => absurd q (noA b), e0.funs, fun b q => hun b (e0.frf b q)⟩,
        rfl, e0.bare, Un.kept kp, ⟨_, hns, fun i y v e1 e2 e3 => ?_⟩, fun y c e => ?_, hun _ (e0.hok.fresh (Nat.le_refl _)), fun y c e => unH_in (inC y c e), fun q hq => absurd (show q ∈ ([] : List (Addr × Obj)) ++ [] from hq) (by simp), (un_hok (fun c mc => (hcs c mc).imp fun o q => q.1) e0.hok).kept kp, ?_⟩
      · have hy : scope.names.lookup y = some .cell ∨ scope.names.lookup y = some .free := hy
        rcases hy with hy | hy
        · exact absurd rfl (L.cell _ (PySem.mem_of_lookup hy))
        · exact h6 y (PySem.mem_of_lookup hy)
      · have q : false = true := q
        cases q
      · have e1 : N[i]? = some y := e1
        have e3 : Vis scope y := e3
        rcases e3 with k1 | k1 | k1
        · -- a parameter
          obtain ⟨j, hj⟩ := List.mem_iff_getElem?.mp (L.loc y k1)
          have hsl : (m.ps.map fun i => N[i]?)[j]? = some (some y) := by
            rw [L.slots, List.getElem?_map, hj]; rfl
          rw [List.getElem?_map] at hsl
          obtain ⟨i', hi', hN'⟩ := Option.map_eq_some_iff.mp hsl
          have hii : i' = i := by
            have h1' := (List.getElem?_eq_some_iff.mp hN').1
            exact (List.getElem?_inj h1' L.ndN).mp (hN'.trans e1.symm)
          subst hii
          have hjv : j < vs.length := by
            rw [← hlv]
            exact (List.getElem?_eq_some_iff.mp hi').1
          have hv := List.getElem?_eq_getElem hjv
          have hlen : i' < σ.length := by
            rw [h7]; exact (List.getElem?_eq_some_iff.mp hN').1
          have e2' := setAll_at m.ps vs σ j i' _ ndp hi' hv hlen
          rw [e2'] at e2
          cases e2
          obtain ⟨u, hu, ru⟩ := rvs.get hv
          exact ⟨u, ru, .inl ⟨k1, lookup_rev L.nd hj hu⟩⟩
        · exact absurd rfl (L.cell _ (PySem.mem_of_lookup k1))
        · have hni : i ∉ m.ps := fun hm' => by
            obtain ⟨j, hj⟩ := List.mem_iff_getElem?.mp hm'
            have hsl : (m.ps.map fun i => N[i]?)[j]? = some (some y) := by
              rw [List.getElem?_map, hj]
              simp [e1]
            rw [L.slots, List.getElem?_map] at hsl
            obtain ⟨y', hy', hyy⟩ := Option.map_eq_some_iff.mp hsl
            cases hyy
            have := L.par y (List.mem_of_getElem? hy')
            rw [k1] at this; cases this
          rw [setAll_no m.ps vs σ i hni] at e2
          obtain ⟨c, o, u, p1, p2, p3, p4⟩ := h8 i y v e1 k1 e2
          exact ⟨u, p3, .inr ⟨.inr k1, c, p1, o, kp _ _ (objO_at e0.hok p2), p4⟩⟩
      · obtain ⟨o, v, q1, q2, _⟩ := cellAt y c e
        exact ⟨v, o, kp _ _ q1, q2⟩
      · show (setAll m.ps vs σ).length = N.length
        rw [setAll_len, h7]
    have hrb : Room (k + 1) (A.deeper (PySem.W.envX ql scope s.heap.objs.size f (.ref c') cl)) := hr.deeper _
    have G := gx_clX (g := g) (outer := outer) (s := s) (H := unH cs z.h) (E := Ecl) (N := N) hrb L.ndN
    have pe := hbody _ _ G rfl rfl
    let Qb : VK := fun v H' => (∀ c ∈ cs, H' c = none) → Q v (reH cs z.h H')
    have tb : tE g k (fun v dd _ H => Ecl v dd H) m.body (setAll m.ps vs σ) (unH cs z.h) Qb := by
      refine ⟨z.un cs, envl, rfl, ok_un ok hC, re1, ?_⟩
      show PostG g (Rep g) _ _ (z.un cs) (evE g.T.G (callF g.T k) m.body envl z.s) Qb
      cases hq : evE g.T.G (callF g.T k) m.body envl z.s with
      | bad => rw [hq] at post; exact post.elim
      | err e s' =>
        rw [hq] at post
        intro y ey oky es dd hd hn
        exact post _ (ext_re hC hn ok oky ey) (ok_re hC hn ok oky) es dd hd
      | ok d s' =>
        rw [hq] at post
        simp only [R.bind] at post
        split at post
        · rename_i hd
          intro y ey oky es v rv hn
          exact post _ (ext_re hC hn ok oky ey) (ok_re hC hn ok oky) es v (rep_re hn hd rv)
        · exact post.elim
    refine PySem.W.kla_codeExpr (wpAny_mono (pe.run [] _ _ _ Qb J tb) (fun v s' hq => ?_) fun e s' hq => ?_)
    · obtain ⟨w', H', J', rv, q⟩ := hq
      obtain ⟨r1, r2, r3⟩ := re_un hcs J'.base J'.hok
      exact ⟨w', reH cs z.h H', J'.os, J'.bare, r2, r3, rv, q r1⟩
    · have hq : wpAny (model g.P g.w) _ (leaving (PySem.W.envX ql scope s.heap.objs.size f (.ref c') cl) e) (fun _ s'' => L2N.CX g.P g.w outer (unH cs z.h) s Ecl e s'') (fun e' s'' => L2N.CX g.P g.w outer (unH cs z.h) s Ecl e' s'') s' := hq
      exact wpAny_mono hq (fun _ s'' q => cx_re hcs q) fun e' s'' q => cx_re hcs q
  exact rc
end Fv
end

section
set_option Elab.async false
set_option linter.all false
set_option maxRecDepth 100000
set_option maxHeartbeats 4000000
set_option autoImplicit false
namespace Fv
open PySem PySem.Spec PyProof.Rows L2
/-- cells that are no caller's frame and not of the written part -/
def CellsGood (X : Cx) (cl : List (Str × Addr)) : Prop := ∀ y c, (y, c) ∈ cl → c ∉ frs X.stack ∧ X.base.get? c = none
abbrev blkCl (X : Cx) (n : Nat) (scope : Scope) : List (Str × Addr) := cellsFrom n scope.names (cloFrom X.env.cells scope.names [])
section
variable {X : Cx}
theorem new_good {pins : List (Addr × Obj)} {σ : St} {H : Hp} {s : Shared} (I : Inv X pins σ H s) {a : Addr} (h : s.heap.objs.size ≤ a) : a ∉ frs X.stack ∧ X.base.get? a = none := by
  constructor
  · intro m
    rcases List.mem_cons.mp (I.stkSub a m) with q | q
    · have h1 := I.lt
      rw [← q] at h1
      exact Nat.lt_irrefl _ (Nat.lt_of_lt_of_le h1 h)
    · exact I.nofs h q
  · cases q : X.base.get? a with
    | none => rfl
    | some o =>
      exact absurd (Nat.lt_of_lt_of_le (Heap.lt_size q) (Nat.le_trans I.ok.bsz (Nat.le_trans I.sz h))) (Nat.lt_irrefl _)
theorem good_blk {pins : List (Addr × Obj)} {σ : St} {H : Hp} {s : Shared} {scope : Scope} (I : Inv X pins σ H s) (cg : CellsGood X X.env.cells) (hf : ∀ y ∈ scope.names, y.2 = .free → ∃ c, X.env.cells.lookup y.1 = some c) :
    CellsGood X (blkCl X (s.heap.objs.size + 1) scope) := fun y c m => by
  have m : (y, c) ∈ cellsFrom (s.heap.objs.size + 1) scope.names (cloFrom X.env.cells scope.names []) := m
  rw [PySem.cellsFrom_over] at m
  rcases List.mem_append.mp m with m | m
  · have hk := cellsFrom_ok scope.names (s.heap.push { cls := .type "dict", data := .dict #[] }) (s.heap.objs.size + 1) [] ⟨fun n c h => (by cases h), .nil⟩ (by rw [Heap.size_push]; exact Nat.le_refl _)
    rw [Heap.size_push] at hk
    exact new_good I (Nat.le_trans (Nat.le_succ _) (hk.empty y c m).2)
  · rcases cloFrom_mem m with m | ⟨h1, h2⟩
    · cases m
    · obtain ⟨c', hc⟩ := hf _ h1 rfl
      have hc : X.env.cells.lookup y = some c' := hc
      rw [hc] at h2
      have h2 : c = c' := h2
      subst h2
      exact cg y c (PySem.mem_of_lookup hc)
/-- [elt for tg in iter if ..] as a value, the block's cells good -/
theorem pe_lcG {elt tg iter : PySem.Expr} {ifs : List PySem.Expr} {scope : Scope} {own : List (Str × Nat)} {pos : Pos} {wi : TI} {g : TG} {tt : TT} {te : TE} (hc : X.calm = true) (hN : X.N.Nodup) (hi : PI X tg iter wi) (ok : BlkOk X.N X.env.scope scope own)
    (cg : ∀ (pins : List (Addr × Obj)) (s : Shared) (σ : St) (H : Hp), Inv X pins σ H s → CellsGood X X.env.cells) (hs : ∀ x, foldedSetIterable iter X.env x = pure x)
    (hb : ∀ (s : Shared) (H : Hp) (C : Addr) (cl : List (Str × Addr)) (fp : List Addr), CellsGood X cl →
      PG (X.blk s H scope (compEnvC scope cl C X.env) fp) tg g ∧ PTs (X.blk s H scope (compEnvC scope cl C X.env) fp) ifs tt ∧ PE (X.blk s H scope (compEnvC scope cl C X.env) fp) elt te) :
    PE X (.ListComp elt [⟨tg, iter, ifs, 0⟩] scope pos) (tLc wi g tt te (own.map (·.2))) := by
  constructor
  intro pins s0 σ H0 Q I0 hw
  rw [eval_ListComp]
  have hcap : ∀ y ∈ scope.names, y.2 = .free → ∃ c, X.env.cells.lookup y.1 = some c := fun y hy e => (ok.free y hy e).elim (fun q => I0.ok.has _ (.inl q)) fun q => I0.ok.has _ (.inr q)
  refine wpAny_comprehension_free (use := none) rfl hs (closure_ok hcap) ok.kind (fun y hy e => (ok.uniq y hy).trans (by rw [e])) ?_
  refine thn (hi.run pins s0 σ H0 _ I0 hw) fun seqv s1 hx => ?_
  refine thn hx fun itv s2 h2 => ?_
  obtain ⟨it, fp, tn, J, Hi, rfl, Ii, T, sti, fpi, turns⟩ := h2
  refine wpAny_newObj_type (newEnv_comp ?_) (by show 0 ≤ sizeLine; decide)
  -- the list under way and the block's own frame
  obtain ⟨D, hD⟩ : ∃ D, D = s2.heap.objs.size := ⟨_, rfl⟩
  rw [← hD]
  have freshD : Hi D = none := Ii.hok.fresh (by rw [hD]; exact Nat.le_refl _)
  obtain ⟨Wv, ⟨m0, w0⟩, turn⟩ := turns D freshD
  obtain ⟨sL, hsL⟩ : ∃ t : Shared, t = { s2 with heap := s2.heap.push { cls := .type "list", data := .seq ([] : List Value).toArray } } := ⟨_, rfl⟩
  rw [← hsL]
  have hpL : sL.heap = s2.heap.push { cls := .type "list", data := .seq ([] : List Value).toArray } := by rw [hsL]
  have old : ∀ b o, s2.heap.get? b = some o → sL.heap.get? b = some o := fun b o e => by rw [hpL]; exact Heap.get?_push_of_some _ e
  have IL : Inv X pins σ (upd Hi D (.lst [])) sL := by
    have hx := Heap.get?_push_size s2.heap (o := { cls := .type "list", data := .seq ([] : List Value).toArray }) rfl
    rw [hsL]
    refine Ii.laid (t' := s2.toks) (fun b o e => Heap.get?_push_of_some _ e) (by rw [hD]; exact Nat.le_refl _) ⟨Nat.zero_le _, [], 0, .nil, ?_⟩
    rw [hD]; exact hx
  have fpL : ∀ b ∈ fp, FpOk X pins (upd Hi D (.lst [])) b ∧ b < sL.heap.objs.size := by
    intro b hb
    obtain ⟨ob, eb, _⟩ := T.obj _ _ sti b hb
    have hlt := Heap.lt_size eb
    have hne : b ≠ D := by rw [hD]; exact Nat.ne_of_lt hlt
    exact ⟨⟨by rw [upd_ne hne]; exact (fpi b hb).1, (fpi b hb).2⟩, by rw [hpL, Heap.size_push]; exact Nat.lt_succ_of_lt hlt⟩
  have stL : tn 0 sL.heap := T.keep _ _ _ sti fun b _ o e => old b o e
  obtain ⟨cl, hcl⟩ : ∃ l, l = blkCl X (sL.heap.objs.size + 1) scope := ⟨_, rfl⟩
  obtain ⟨env, henv⟩ : ∃ e, e = compEnvC scope cl sL.heap.objs.size X.env := ⟨_, rfl⟩
  have IB := block_start IL ok hN fpL
  obtain ⟨pg, pt, pe⟩ := hb sL (upd Hi D (.lst [])) sL.heap.objs.size cl fp (by rw [hcl]; exact good_blk IL (cg _ _ _ _ IL) hcap)
  have IB : Inv (X.blk sL (upd Hi D (.lst [])) scope env fp) [] (wipe σ (own.map (·.2))) (upd Hi D (.lst [])) { sL with heap := pushCells (sL.heap.push { cls := .type "dict", data := .dict #[] }) scope.names } := by
    rw [henv, hcl]; exact IB
  rw [← henv] at pg pt pe
  have eL : env.locals = sL.heap.objs.size := by rw [henv]; rfl
  show codeAny _ _ (.compStart (.ListComp elt [⟨tg, iter, ifs, 0⟩] scope pos) 0 (.ref it) (.ref D) (compEnvC scope (blkCl X (sL.heap.objs.size + 1) scope) sL.heap.objs.size X.env)) (compPost (model X.prog X.w) X.A X.xe none (EP X pins σ Q) (.ref D) sL.heap.objs.size) { sL with heap := pushCells (sL.heap.push { cls := .type "dict", data := .dict #[] }) scope.names }
  rw [← hcl, ← henv]
  obtain ⟨HL, hHL⟩ : ∃ h, h = upd Hi D (.lst []) := ⟨_, rfl⟩
  have nL : ∀ b ∈ fp, HL b = none := fun b hb => by rw [hHL]; exact (fpL b hb).1.1
  rw [← hHL] at IL IB pg pt pe w0
  have still : ∀ {σ' : St} {H' : Hp} {s' : Shared}, Inv (X.blk sL HL scope env fp) [] σ' H' s' → (∀ b ∈ fp, H' b = none) → ∀ b ∈ fp, FpOk (X.blk sL HL scope env fp) [] H' b := by
    intro σ' H' s' I' hn b hb'
    have hx := I'.ok.exf b hb'
    exact ⟨hn b hb', hx.1, I'.ok.exfs b hb', .inl hb', fun x c e => hx.2 x c e, fun p hp => nomatch (show p ∈ ([] : List (Addr × Obj)) ++ [] from hp)⟩
  have st0 : tn 0 ({ sL with heap := pushCells (sL.heap.push { cls := .type "dict", data := .dict #[] }) scope.names } : Shared).heap := T.keep _ _ _ stL fun b _ o e => pushCells_keeps _ _ _ _ (Heap.get?_push_of_some _ e)
  have loop : codeAny (model X.prog X.w) X.A (.compLoop (.ListComp elt [⟨tg, iter, ifs, 0⟩] scope pos) 0 (.ref it) (.ref D) env) (compPost (model X.prog X.w) X.A X.xe none (EP X pins σ Q) (.ref D) sL.heap.objs.size) { sL with heap := pushCells (sL.heap.push { cls := .type "dict", data := .dict #[] }) scope.names } := ?_
  · exact codeAny_compStart_list loop (T.self X.A 0 _ _ _ st0 loop)
  refine compLoop_any (fun n t => ∃ (i : Nat) (Ht : Hp), Wv i n Ht ∧ (∀ b ∈ fp, Ht b = none) ∧ tn i t.heap ∧ Inv (X.blk sL HL scope env fp) [] (wipe σ (own.map (·.2))) Ht t) ?_ m0 ⟨0, HL, w0, nL, st0, IB⟩
  intro n t ht
  obtain ⟨i, Ht, wt, nt, stt, It⟩ := ht
  rcases turn i n Ht wt with ⟨stop, hQ⟩ | ⟨go, Nx, hNx, step⟩
  · refine thnF (T.done (X.blk sL HL scope env fp) rfl rfl rfl hc i [] t _ Ht (fun _ _ => False) It (still It nt) stt stop) fun r t1 hr => ?_
    obtain ⟨hr, I1⟩ := hr
    subst hr
    have nC : Ht sL.heap.objs.size = none := by
      have q : Ht env.locals = none := I1.free
      rwa [eL] at q
    obtain ⟨m, hm, _⟩ := I1.loc
    have hm : t1.heap.Ns env.locals m := hm
    rw [eL] at hm
    have I2 : Inv X pins σ Ht t1 := IL.call' (ch := fp) I1.os I1.base I1.hok I1.bare fun b hb' => by
      obtain ⟨_, a2, a3, a4, a5, a6⟩ := (fpL b hb').1
      exact ⟨a4, a2, a5, a6⟩
    obtain ⟨f0, f1, f2, f3, f4, f5⟩ := IL.fpOk (Nat.le_refl _) nC
    exact ⟨m, hm, fun h'' sb => ⟨.ref D, Ht, I2.turned (t' := t1.toks) (fun b o hb' e => (sb.2 b hb').trans e) f0 f1 f3 f4 f5, rfl, hQ⟩⟩
  · refine thnF (T.item (X.blk sL HL scope env fp) rfl rfl rfl hc i [] t _ Ht (fun _ _ => False) It (still It nt) stt go) fun r t1 hr => ?_
    obtain ⟨u, hr, h1⟩ := hr
    subst hr
    refine thnF h1 fun _ t2 h2 => ?_
    obtain ⟨x, H2, I2, rx, y2, st2, n2⟩ := h2
    have P2 := I2.pinned (still I2 n2) (T.obj _ _ st2)
    refine thnF (pg.run _ t2 _ H2 x u _ P2 rx (step x H2 y2)) fun _ t3 h3 => ?_
    obtain ⟨σ3, H3, I3, hw3, q3⟩ := h3
    have close : ∀ {t' : Shared} {H' : Hp}, Nx H' → Inv (X.blk sL HL scope env fp) ([] ++ pinsAt fp t2.heap) σ3 H' t' →
        ∃ m, m < n ∧ ∃ (i : Nat) (Ht : Hp), Wv i m Ht ∧ (∀ b ∈ fp, Ht b = none) ∧ tn i t'.heap ∧ Inv (X.blk sL HL scope env fp) [] (wipe σ (own.map (·.2))) Ht t' := by
      intro t' H' nx I'
      obtain ⟨m', hlt, w'⟩ := hNx H' nx
      have pinned : ∀ b ∈ fp, ∀ o, t2.heap.get? b = some o → t'.heap.get? b = some o ∧ H' b = none := by
        intro b hb' o e
        have z := I'.pin (b, o) (List.mem_append_right _ (List.mem_append_right _ (mem_pinsAt hb' e)))
        exact ⟨z.1, z.2.1⟩
      refine ⟨m', hlt, i + 1, H', w', fun b hb' => ?_, T.keep _ _ _ st2 fun b hb' o e => (pinned b hb' o e).1, ?_⟩
      · obtain ⟨o, e, _⟩ := T.obj _ _ st2 b hb'
        exact (pinned b hb' o e).2
      · refine (I'.unpinned (pins := [])).weak ?_ fun j v e => ?_
        · rw [← hw3, wipe_length]
        · rw [← hw3] at e
          exact (wipe_some e).1
    refine thnF (pt.run _ t3 σ3 H3 _ I3 q3) fun b t4 h4 => ?_
    obtain ⟨H4, I4, q4⟩ := h4
    cases b
    · rw [if_neg (by decide)] at q4 ⊢
      exact close q4 I4
    · rw [if_pos rfl] at q4 ⊢
      refine thnF (pe.run _ t4 σ3 H4 _ I4 q4) fun v t5 h5 => ?_
      obtain ⟨yv, H5, I5, rv, acc, hacc, hlen, nx⟩ := h5
      exact app_ok (X := X.blk sL HL scope env fp) I5 hacc hlen rv fun t6 I6 => close nx I6
end
end Fv
end

section
set_option Elab.async false
set_option linter.all false
set_option maxRecDepth 100000
set_option maxHeartbeats 4000000
set_option autoImplicit false
namespace Fv
open PySem PySem.Spec PyProof.Rows L2
/-- lambdas may be made here -/
structure LamMk (g : Pg) (X : Cx) : Prop where
  cg : ∀ (pins : List (Addr × Obj)) (s : Shared) (σ : St) (H : Hp), Inv X pins σ H s → CellsGood X X.env.cells
  tb : ∃ c P, LamX.TabB X.base X.mg c P ∧ X.env.code = .ref c ∧ (P, X.env.qual ++ "<lambda>") ∈ g.tabs ∧ ∀ p ∈ g.tabs, p.1 = P → p.2 = X.env.qual ++ "<lambda>"
theorem lamMk_blk {g : Pg} {X : Cx} (M : LamMk g X) (s : Shared) (H : Hp) (scope : Scope) (C : Addr) (cl : List (Str × Addr)) (fp : List Addr) (hcl : CellsGood X cl) : LamMk g (X.blk s H scope (compEnvC scope cl C X.env) fp) :=
  ⟨fun _ _ _ _ _ => hcl, M.tb⟩
def ghH (cs : List Addr) (hp : Heap) (h : Hp) : Hp := fun a => if a ∈ cs then (hp.get? a).map (ObjO a) else h a
theorem ghH_no {cs : List Addr} {hp : Heap} {h : Hp} {a : Addr} (m : a ∉ cs) : ghH cs hp h a = h a := if_neg m
theorem ghH_in {cs : List Addr} {hp : Heap} {h : Hp} {a : Addr} {o : Obj} (m : a ∈ cs) (e : hp.get? a = some o) : ghH cs hp h a = some (ObjO a o) := by
  unfold ghH
  rw [if_pos m, e]; rfl
section
variable {P : Program} {w : World} {fs cs : List Addr} {H H' : Hp} {h h' : Heap}
theorem gh_hok (hc : ∀ c ∈ cs, H c = none ∧ ∃ o, h.get? c = some o) (ok : HOk P w H h) : HOk P w (ghH cs h H) h := fun a o e => by
  by_cases m : a ∈ cs
  · obtain ⟨_, u, hu⟩ := hc a m
    rw [ghH_in m hu] at e
    cases e
    exact objOk_O hu
  · rw [ghH_no m] at e
    have up : ∀ b u, H b = some u → ghH cs h H b = some u := fun b u q => by
      rw [ghH_no fun mb => by rw [(hc b mb).1] at q; cases q]
      exact q
    exact (ok a o e).stay (fun _ _ _ q => q) (fun b q => up b _ q) fun b xs q => up b _ q
/-- behind the call: they are not known again -/
theorem gh_un (hc : ∀ c ∈ cs, H c = none ∧ ∃ o, h.get? c = some o ∧ H' c = some (ObjO c o)) (u : Un fs [] (ghH cs h H) H' h h') (ok : HOk P w H' h') : Un fs [] H (unH cs H') h h' ∧ HOk P w (unH cs H') h' := by
  have no : ∀ b u, H b = some u → b ∉ cs := fun b u e m => by
    rw [(hc b m).1] at e; cases e
  have at' : ∀ c ∈ cs, ∀ o, h.get? c = some o → h'.get? c = some o := fun c m o e => by
    obtain ⟨_, o', h1, h2⟩ := hc c m
    rw [e] at h1; cases h1
    exact objO_at ok h2
  have kp : ∀ b u, H' b = some u → (∀ φ, u ≠ .ext φ) → unH cs H' b = some u := fun b u e n => by
    rw [unH_no fun m => by
      obtain ⟨_, o, _, h2⟩ := hc b m
      rw [e] at h2; cases h2
      exact n _ rfl]
    exact e
  refine ⟨⟨fun b o e n hf hx => ?_, fun b o e n hf hx => ?_, fun b o e n hx => ?_, u.there, fun b xs e => ?_, fun b o v e => ?_, fun b ps e => ?_⟩, un_hok (fun c m => by obtain ⟨_, o, _, q⟩ := hc c m; exact ⟨o, q⟩) ok⟩
  · by_cases m : b ∈ cs
    · exact at' b m o e
    · exact u.keep b o e (by rw [ghH_no m]; exact n) hf hx
  · by_cases m : b ∈ cs
    · exact ⟨o.slots, at' b m o e⟩
    · exact u.slot b o e (by rw [ghH_no m]; exact n) hf hx
  · by_cases m : b ∈ cs
    · exact unH_in m
    · rw [unH_no m]
      exact u.free b o e (by rw [ghH_no m]; exact n) hx
  · exact kp b _ (u.tups b xs (by rw [ghH_no (no b _ e)]; exact e)) fun _ => by simp
  · exact kp b _ (u.frzs b o v (by rw [ghH_no (no b _ e)]; exact e)) fun _ => by simp
  · obtain ⟨more, q⟩ := u.tbls b ps (by rw [ghH_no (no b _ e)]; exact e)
    exact ⟨more, kp b _ q fun _ => by simp⟩
end
def Wo.gh (x : Wo) (cs : List Addr) (hp : Heap) : Wo := ⟨x.m, x.s, ghH cs hp x.h, x.tm⟩
section
variable {g : Pg} {x y : Wo} {cs : List Addr} {hp : Heap}
theorem keeps_gh (hc : ∀ c ∈ cs, x.h c = none) : Keeps x (x.gh cs hp) := ⟨rfl, fun _ => Iff.rfl, fun a o e n => by
  show ghH cs hp x.h a = some o
  rw [ghH_no fun m => by rw [hc a m] at e; cases e]; exact e⟩
theorem gh_at (hc : ∀ c ∈ cs, x.h c = none) {a : Addr} {o : HO} (e : x.h a = some o) : (x.gh cs hp).h a = some o := by
  show ghH cs hp x.h a = some o
  rw [ghH_no fun m => by rw [hc a m] at e; cases e]; exact e
theorem ext_gh (ok : Ok g x) (hc : ∀ c ∈ cs, x.h c = none) : Ext x (x.gh cs hp) := by
  refine ⟨⟨⟨[], by simp [Wo.gh]⟩, fun n c h1 h2 => ⟨c, h1, h2⟩, fun a o h1 _ _ => gh_at hc h1, fun a h f => h fun o q => f o (gh_at hc q), fun n a h1 h2 => ?_, ok.len, ok.len, fun _ h => .inl h⟩, rfl, fun a h => ?_⟩
  · have h2 : x.m[n]? = some a := h2
    rw [List.getElem?_eq_none_iff.mpr h1] at h2; cases h2
  · obtain ⟨o, h1, _⟩ := ok.tmk a h
    rw [gh_at hc h1, h1]
theorem ok_gh (ok : Ok g x) (hc : ∀ c ∈ cs, x.h c = none) : Ok g (x.gh cs hp) := by
  have K := keeps_gh (hp := hp) hc
  refine ⟨ok.len, ok.nd, fun n a c h1 h2 => CellOk_nc K (ok.nc c (List.mem_of_getElem? h2)) (ok.cells n a c h1 h2), fun p q => ?_, fun a h => ?_, ok.nc, ok.tmm, fun a h => ?_⟩
  · obtain ⟨ps, h1, h2, h3⟩ := ok.tabs p q
    refine ⟨ps, gh_at hc h1, h2, fun pos cv hcv => ?_⟩
    obtain ⟨c, e1, e2⟩ := h3 pos cv hcv
    exact ⟨c, e1, gh_at hc e2⟩
  · obtain ⟨o, h1, h2⟩ := ok.all a h
    exact ⟨o, gh_at hc h1, h2⟩
  · obtain ⟨o, h1, h2⟩ := ok.tmk a h
    exact ⟨o, gh_at hc h1, h2⟩
/-- what was known is known no more -/
def Known (y : Wo) (cs : List Addr) : Prop := ∀ c ∈ cs, ∃ o, y.h c = some (ObjO c o) ∧ (∀ vs, o.data ≠ .fields vs)
theorem keeps_un2 (k : ∀ c ∈ cs, ∃ o, y.h c = some (ObjO c o)) : Keeps y (y.un cs) := ⟨rfl, fun _ => Iff.rfl, fun a o e n => by
  show unH cs y.h a = some o
  rw [unH_no fun m => by
    obtain ⟨u, q⟩ := k a m
    rw [e] at q; cases q
    exact n _ rfl]
  exact e⟩
theorem ok_un2 {P : Program} {w : World} {h : Heap} (ok : Ok g y) (k : Known y cs) (hok : HOk P w y.h h) : Ok g (y.un cs) := by
  have K := keeps_un2 (y := y) (cs := cs) fun c m => (k c m).imp fun o q => q.1
  refine ⟨ok.len, ok.nd, fun n a c h1 h2 => CellOk_nc K (ok.nc c (List.mem_of_getElem? h2)) (ok.cells n a c h1 h2), fun p hp => ?_, fun a h => ?_, ok.nc, ok.tmm, fun a h => ?_⟩
  · obtain ⟨ps, h1, h2, h3⟩ := ok.tabs p hp
    refine ⟨ps, K.2.2 _ _ h1 fun _ => by simp, h2, fun pos cv hc => ?_⟩
    obtain ⟨c, e1, e2⟩ := h3 pos cv hc
    refine ⟨c, e1, ?_⟩
    show unH cs y.h c = _
    rw [unH_no fun m => ?_]
    · exact e2
    · obtain ⟨o, q1, q2⟩ := k c m
      have q3 := objO_at hok q1
      obtain ⟨⟨oc, vs, t, q4, q5, _⟩, _⟩ := hok c _ e2
      rw [q3] at q4; cases q4
      exact q2 vs q5
  · obtain ⟨o, h1, h2, h3⟩ := ok.all a h
    exact ⟨o, K.2.2 _ _ h1 h2, h2, h3⟩
  · obtain ⟨o, h1, h2⟩ := ok.tmk a h
    refine ⟨o, K.2.2 _ _ h1 fun φ => ?_, h2⟩
    rcases h2 with ⟨_, rfl⟩ | ⟨_, rfl⟩ <;> simp
theorem ext_gh_un (ok : Ok g x) (oky : Ok g y) (hc : ∀ c ∈ cs, x.h c = none) (k : ∀ c ∈ cs, ∃ o, y.h c = some (ObjO c o)) (e : Ext (x.gh cs hp) y) : Ext x (y.un cs) := by
  have K := keeps_un2 (y := y) (cs := cs) k
  have no : ∀ a o, x.h a = some o → a ∉ cs := fun a o q m => by rw [hc a m] at q; cases q
  have fr : ∀ a, Free (x.gh cs hp) a → Free x a := fun a f o q => f o (gh_at hc q)
  refine ⟨⟨e.pre, e.dead, fun a o h1 h2 h3 => ?_, fun a h f => ?_, fun n a h1 h2 => fr a (e.new n a h1 h2), e.len, e.len', fun a h => (e.tmn a h).imp id (fr a)⟩, e.tm, fun a h => ?_⟩
  · show unH cs y.h a = some o
    rw [unH_no (no a o h1)]
    exact e.keep a o (gh_at hc h1) h2 h3
  · have hx : ∃ o, x.h a = some o := Classical.byContradiction fun hn => h fun o q => absurd ⟨o, q⟩ hn
    obtain ⟨o, ho⟩ := hx
    exact e.held a (fun q => h (fr a q)) (free_of_un (no a o ho) f)
  · obtain ⟨o, h1, h2⟩ := ok.tmk a h
    show unH cs y.h a = x.h a
    rw [unH_no (no a o h1)]
    exact (e.keepT a h).trans (gh_at hc h1 |>.trans h1.symm)
end
end Fv
end

section
set_option Elab.async false
set_option linter.all false
set_option maxRecDepth 100000
set_option maxHeartbeats 4000000
set_option autoImplicit false
namespace Fv
open PySem PySem.Spec PyProof.Rows L2
section
variable {g : Pg} {k : Nat} {X : Cx} {W : WX} {es : List PySem.Expr} {ces : List CE} {pos : Pos}
theorem defaults_none {params : Arguments} (h1 : params.defaults = []) (h2 : params.kw_defaults = []) (env : Env) : defaultsOf params env = ([], []) := by
  cases params with
  | mk a b c d e f d2 =>
    simp only at h1 h2
    subst h1 h2
    rfl
/-- what a lambda's names must be, seen from where it is made -/
structure CapOk (sc scope : Scope) : Prop where
  uq : ∀ y ∈ scope.names, scope.names.lookup y.1 = some y.2
  free : ∀ y ∈ scope.names, y.2 = .free → sc.names.lookup y.1 = some .cell ∨ sc.names.lookup y.1 = some .free
theorem pe_callL_ok {t : Tx} (T : TxOk g t) (G : GX g k X W) (M : LamMk g X) {f l : Nat} (F : FnAt g k f) {x : Str} {p lpos : Pos} {params : Arguments} {body : PySem.Expr} {scope : Scope} (hx : t.fn[f]? = some (some x)) (hg : glB X.env.scope x = true)
    (hfit : g.fits l params body scope X.N) (hd1 : params.defaults = []) (hd2 : params.kw_defaults = []) (hcap : CapOk X.env.scope scope) (ha : PA X es (tEs g k W ces)) (hs : es.all notStar = true) :
    PE X (.Call (.Name x p) (.Lambda params body scope lpos :: es) [] pos) (tE g k W (.callL f l ces)) := by
  obtain ⟨fd, ps, h1, h2, h3, h4⟩ := run_call T G F hx
  obtain ⟨cM, P, TB, hcode, hmT, hu⟩ := M.tb
  refine ⟨fun pins s σ H Q I h => ?_⟩
  obtain ⟨z, env, rfl, ok, re, post⟩ := h
  have hcapI : ∀ y ∈ scope.names, y.2 = .free → ∃ c, X.env.cells.lookup y.1 = some c := fun y hy e => by
    rcases hcap.free y hy e with q | q
    · exact I.ok.has _ (.inl q)
    · exact I.ok.has _ (.inr q)
  refine wpAny_Call_Name_kw (ld_glob I (glB_ok hg) h3 ?_ (ne_beq (T.fn f x hx).2.1))
  refine PySem.W.callWith_K (h₀ := X.base) I.ok.mod.kin h4 ?_ (by rfl) (stars_ok hs X.env)
  show wpAny _ _ (spliced ((false, eval (.Lambda params body scope lpos) X.env) :: backTo pos (starEach es X.env))) _ _ s
  refine Calls.spliced_cons (LamX.lam_make2 (T := g.tabs) I TB hcode hmT hu ok.tabs (defaults_none hd1 hd2 X.env) hcapI fun f' c' pm ctv H1 s' I1 eN T1 hf hfn hfr hco => ?_)
  -- the world behind the making
  let cl := cloFrom X.env.cells scope.names []
  let obj := PySem.W.kla_obj "<lambda>" (X.env.qual ++ "<lambda>") params body scope cl pm c' ctv
  have hf : s'.heap.get? f' = some obj := hf
  have tbl_no : ∀ {a : Addr} {o : HO}, z.h a = some o → (∀ ps, o ≠ .tbl ps) → H1 a = some o := fun {a o} e n => eN a o e n
  let z1 : Wo := ⟨z.m, z.s, H1, z.tm⟩
  have tmEq : ∀ a ∈ z.tm, H1 a = z.h a := fun a h => by
    obtain ⟨o, q, hk⟩ := ok.tmk a h
    rw [q]
    exact tbl_no q fun ps => by rcases hk with ⟨_, rfl⟩ | ⟨_, rfl⟩ <;> simp
  have e1 : Ext z z1 := by
    refine ⟨⟨⟨[], by simp [z1]⟩, fun n c h1 h2 => ⟨c, h1, h2⟩, fun a o h1 _ h3 => tbl_no h1 h3, fun a h fr => ?_, fun n a h1 h2 => ?_, ok.len, ok.len, fun _ h => .inl h⟩, rfl, tmEq⟩
    · refine h fun o q => Classical.byContradiction fun hn => ?_
      have hn : ∀ ps, o ≠ .tbl ps := fun ps e => hn ⟨ps, e⟩
      obtain ⟨ps, e⟩ := fr o (tbl_no q hn)
      exact hn ps e
    · have h2 : z.m[n]? = some a := h2
      rw [List.getElem?_eq_none_iff.mpr h1] at h2; cases h2
  have ok1 : Ok g z1 := by
    refine ⟨ok.len, ok.nd, fun n a c h1 h2 => (ok.cells n a c h1 h2).monoW ok e1.toExtW fun o q => ?_, T1, fun a h => ?_, ok.nc, ok.tmm, fun a h => ?_⟩
    · obtain ⟨u, q1, _, q3⟩ := ok.all a (List.mem_of_getElem? h1)
      rw [q] at q1; cases q1
      exact tbl_no q q3
    · obtain ⟨u, q1, q2, q3⟩ := ok.all a h
      exact ⟨u, tbl_no q1 q3, q2, q3⟩
    · obtain ⟨o, q, hk⟩ := ok.tmk a h
      exact ⟨o, (tmEq a h).trans q, hk⟩
  -- the object is pinned while the other arguments are made
  have fL : f' ≠ X.env.locals := fun q => by
    obtain ⟨m, ⟨ob, es', ep, ho, hx'⟩, _⟩ := I1.loc
    rw [← q, hf] at ho
    cases ho
    obtain ⟨hd, _⟩ := hx'
    cases hd
  have ffs : f' ∉ X.fs := fun q => hfr (by
    have q : f' ∈ frs X.outer := q
    rcases I1.ok.stk with e | ⟨e, _⟩
    · rw [e]; exact q
    · rw [e]
      show f' ∈ frs (X.env :: X.outer)
      unfold frs at q ⊢
      rw [List.filterMap_cons]
      split
      · exact q
      · exact List.mem_cons_of_mem _ q)
  have IP : Inv X (pins ++ [(f', obj)]) σ z1.h s' := I1.pins_of fun q hq => by
    rcases List.mem_append.mp hq with hq | hq
    · exact I1.pin q (List.mem_append_right _ hq)
    · rw [List.mem_singleton] at hq
      subst hq
      exact ⟨hf, hfn, fL, ffs, fun v q => by cases q⟩
  have re1 := re.mono ok e1
  -- the other arguments
  have hA : tEs g k W ces σ z1.h fun vs H2 => ∃ (z2 : Wo) (ds : List D), z2.h = H2 ∧ Ok g z2 ∧ REnv g z2 env σ ∧ Reps g z2 ds vs ∧ Ext z1 z2 ∧
      PostG g (Rep g) W σ z2 (((callF g.T k (.fn f) (.clo l env :: ds) z2.s).noErr).bind fun d s2 => if noClo d then .ok d s2 else .bad) Q := by
    have post : PostG g (Rep g) W σ z (((evEs g.T.G (callF g.T k) ces env z.s).bind fun ds s1 => (callF g.T k (.fn f) (.clo l env :: ds) s1).noErr).bind fun d s2 => if noClo d then .ok d s2 else .bad) Q := post
    have assoc : ∀ r : R (List D), (r.bind fun ds s1 => (callF g.T k (.fn f) (.clo l env :: ds) s1).noErr).bind (fun d s2 => if noClo d then R.ok d s2 else .bad) =
        r.bind fun ds s1 => ((callF g.T k (.fn f) (.clo l env :: ds) s1).noErr).bind fun d s2 => if noClo d then .ok d s2 else .bad := fun r => by cases r <;> rfl
    rw [assoc] at post
    have es1 : z1.s = z.s := rfl
    refine ⟨z1, env, rfl, ok1, re1, ?_⟩
    rw [es1]
    exact (post.ext e1).bind ok1 re1 fun y ds vs e oky rey ry py => ⟨y, ds, rfl, oky, rey, ry, e, py⟩
  refine wpAny_mono (ha.run pos (pins ++ [(f', obj)]) s' σ z1.h _ IP hA) (fun us s2 hq => ?_) fun _ _ q => q
  obtain ⟨vs, H2, I2, rvs, z2, ds, rfl, ok2, re2, rds, e2, post2⟩ := hq
  have hf2 : s2.heap.get? f' = some obj ∧ z2.h f' = none := by
    have q := I2.pin (f', obj) (List.mem_append_right _ (List.mem_append_right _ (List.mem_singleton.mpr rfl)))
    exact ⟨q.1, q.2.1⟩
  have hco2 : z2.h c' = some (LamX.CodeO c' (X.env.qual ++ "<lambda>")) := e2.keep _ _ hco (ok1.kinds.next hco) LamX.codeO_ne
  refine ⟨I2.kIn, ?_⟩
  -- the cells
  have inCl : ∀ y c, (y, c) ∈ cl → (y, NameKind.free) ∈ scope.names ∧ X.env.cells.lookup y = some c := fun y c m => by
    rcases cloFrom_mem m with m | ⟨q1, q2⟩
    · cases m
    · obtain ⟨c2, q3⟩ := hcapI _ q1 rfl
      have q3 : X.env.cells.lookup y = some c2 := q3
      rw [q3] at q2
      have q2 : c = c2 := q2
      exact ⟨q1, q2 ▸ q3⟩
  have lkCl : ∀ y c, cl.lookup y = some c → X.env.cells.lookup y = some c := fun y c q => (inCl y c (PySem.mem_of_lookup q)).2
  have hasCl : ∀ y, (y, NameKind.free) ∈ scope.names → ∃ c, cl.lookup y = some c := fun y m => mem_lookup (cloFrom_has (cells := X.env.cells) (acc := []) m)
  let cells : List Addr := cl.map fun p => p.2
  have cellAt : ∀ c ∈ cells, c ∉ frs X.stack ∧ X.base.get? c = none ∧ z2.h c = none ∧ ∃ v o, s2.heap.get? c = some o ∧ o.data = .cell v := fun c m => by
    obtain ⟨⟨y, c2⟩, m1, rfl⟩ := List.mem_map.mp m
    obtain ⟨_, q2⟩ := inCl y c2 m1
    obtain ⟨g1, g2⟩ := M.cg _ _ _ _ I2 y c2 (PySem.mem_of_lookup q2)
    obtain ⟨v, o, q3, q4⟩ := I2.cell y c2 q2
    exact ⟨g1, g2, I2.freeC y c2 q2, v, o, q3, q4⟩
  have fcell : f' ∉ cells := fun m => by
    obtain ⟨_, _, _, v, o, q1, q2⟩ := cellAt f' m
    rw [hf2.1] at q1; cases q1; cases q2
  let cs : List Addr := (f' :: cells).filter fun c => (X.base.get? c).isNone
  have csAt : ∀ c ∈ cs, c ∉ frs X.stack ∧ X.base.get? c = none ∧ z2.h c = none ∧ ∃ o, s2.heap.get? c = some o ∧ ∀ vs, o.data ≠ .fields vs := fun c m => by
    obtain ⟨m1, m2⟩ := List.mem_filter.mp m
    have m2 : X.base.get? c = none := by simpa using m2
    rcases List.mem_cons.mp m1 with rfl | m1
    · exact ⟨hfr, m2, hf2.2, obj, hf2.1, fun vs q => by cases q⟩
    · obtain ⟨q1, q2, q3, v, o, q4, q5⟩ := cellAt c m1
      exact ⟨q1, q2, q3, o, q4, fun vs q => by rw [q5] at q; cases q⟩
  have cellsIn : ∀ c ∈ cells, c ∈ cs := fun c m => List.mem_filter.mpr ⟨List.mem_cons_of_mem _ m, by rw [(cellAt c m).2.1]; rfl⟩
  have cs0 : ∀ c ∈ cs, z2.h c = none := fun c m => (csAt c m).2.2.1
  let zg : Wo := z2.gh cs s2.heap
  have okg : Ok g zg := ok_gh ok2 cs0
  have eg : Ext z2 zg := ext_gh ok2 cs0
  have ghc : ∀ c ∈ cs, ∀ o, s2.heap.get? c = some o → zg.h c = some (ObjO c o) := fun c m o q => ghH_in m q
  have ndCl : ∀ (y y2 : Str) (c : Addr), cl.lookup y = some c → cl.lookup y2 = some c → y = y2 := fun y y2 c q1 q2 => I2.ok.inj y y2 c (lkCl y c q1) (lkCl y2 c q2)
  have rclo : Rep g zg (.clo l env) (.ref f') := by
    simp only [Rep]
    refine ⟨f', params, body, scope, X.N, X.env.qual ++ "<lambda>", pm, c', ctv, cl, σ, rfl, ?_, hfit, gh_at cs0 hco2, ndCl, fun c m => ?_, hasCl, I2.len, fun i y v q1 q2 q3 => ?_, ?_⟩
    · cases hb : g.base.get? f' with
      | none => exact .inl (ghc f' (List.mem_filter.mpr ⟨List.mem_cons_self .., by rw [G.base, hb]; rfl⟩) obj hf2.1)
      | some o =>
        refine .inr ?_
        have q := (I2.env0.bs f' o (by rw [G.base]; exact hb)).1
        rw [hf2.1] at q
        exact q.symm ▸ rfl
    · obtain ⟨_, _, _, v, o, q1, q2⟩ := cellAt c m
      exact ⟨o, v, ghc c (cellsIn c m) o q1, q2⟩
    · have hyn : (y, NameKind.free) ∈ scope.names := PySem.mem_of_lookup q2
      obtain ⟨m, hn, hl⟩ := I2.loc
      have hvis : Vis X.env.scope y := (hcap.free _ hyn rfl).elim (fun q => .inr (.inl q)) fun q => .inr (.inr q)
      obtain ⟨u, ru, hlook⟩ := hl i y v q1 q3 hvis
      obtain ⟨c, hc⟩ := hasCl y hyn
      have hc2 := lkCl y c hc
      rcases hlook with ⟨kl, _⟩ | ⟨_, c3, hc3, o, ho, hd⟩
      · have kl : X.env.scope.names.lookup y = some .local := kl
        rcases hcap.free _ hyn rfl with q | q <;> · have q : X.env.scope.names.lookup y = _ := q; rw [q] at kl; cases kl
      · rw [hc2] at hc3
        cases hc3
        exact ⟨c, o, u, hc, ghc c (cellsIn c (List.mem_map.mpr ⟨(y, c), PySem.mem_of_lookup hc, rfl⟩)) o ho, ru, hd⟩
    · -- what the lambda remembers stands without the cells
      let ff : List Addr := [f'].filter fun c => (X.base.get? c).isNone
      have hff : ∀ c ∈ ff, z2.h c = none := fun c m => by
        have m := (List.mem_filter.mp m).1
        rw [List.mem_singleton] at m
        rw [m]; exact hf2.2
      have eq : (⟨zg.m, zg.s, unH (cl.map fun p => p.2) zg.h, zg.tm⟩ : Wo) = z2.gh ff s2.heap := by
        show (⟨z2.m, z2.s, unH cells (ghH cs s2.heap z2.h), z2.tm⟩ : Wo) = ⟨z2.m, z2.s, ghH ff s2.heap z2.h, z2.tm⟩
        congr 1
        funext a
        by_cases m : a ∈ cells
        · rw [unH_in m, ghH_no fun m2 => ?_]
          · exact ((cellAt a m).2.2.1).symm
          · have m2 := (List.mem_filter.mp m2).1
            rw [List.mem_singleton] at m2
            exact fcell (m2 ▸ m)
        · rw [unH_no m]
          have iff : a ∈ cs ↔ a ∈ ff := by
            simp only [cs, ff, List.mem_filter, List.mem_cons, List.mem_singleton, List.not_mem_nil, or_false]
            constructor
            · rintro ⟨q | q, q2⟩
              · exact ⟨q, q2⟩
              · exact absurd q m
            · rintro ⟨q, q2⟩
              exact ⟨.inl q, q2⟩
          unfold ghH
          simp only [iff]
      rw [eq]
      exact re2.mono ok2 (ext_gh ok2 hff)
  -- the call
  let Qg : VK := fun v H' => (∀ c ∈ cs, ∃ o, s2.heap.get? c = some o ∧ H' c = some (ObjO c o)) ∧ ∀ h, HOk g.P g.w H' h → Q v (unH cs H')
  have spec : spOf g k f (.ref f' :: vs) zg.h Qg (fun _ _ _ => False) := by
    refine ⟨zg, .clo l env :: ds, rfl, okg, ?_, ?_⟩
    · simp only [Reps]
      exact ⟨_, _, rfl, rclo, rds.mono ok2 eg⟩
    · show PostG g (Rep g) _ [] zg (callF g.T k (.fn f) (.clo l env :: ds) z2.s) Qg
      cases hr : callF g.T k (.fn f) (.clo l env :: ds) z2.s with
      | bad => rw [hr] at post2; exact post2.elim
      | err e s => rw [hr] at post2; exact post2.elim
      | ok d s3 =>
        rw [hr] at post2
        simp only [R.noErr, R.bind] at post2
        split at post2
        · rename_i hd
          intro y ey oky es v rv
          have kept : ∀ c ∈ cs, ∃ o, s2.heap.get? c = some o ∧ y.h c = some (ObjO c o) ∧ ∀ vs, o.data ≠ .fields vs := fun c m => by
            obtain ⟨_, _, _, o, q1, q2⟩ := csAt c m
            have q3 := ghc c m o q1
            exact ⟨o, q1, ey.keep _ _ q3 (okg.kinds.next q3) objO_ne, q2⟩
          have kn : ∀ c ∈ cs, ∃ o, y.h c = some (ObjO c o) := fun c m => (kept c m).imp fun o q => q.2.1
          refine ⟨fun c m => (kept c m).imp fun o q => ⟨q.1, q.2.1⟩, fun h hok => ?_⟩
          exact post2 (y.un cs) (ext_gh_un ok2 oky cs0 kn ey) (ok_un2 oky (fun c m => (kept c m).imp fun o q => q.2) hok) es v (Rep_nc (keeps_un2 kn) d v hd rv)
        · exact post2.elim
  have env0 : Env0 X.prog X.w X.K X.mg X.base X.A X.stack s2 zg.h := by
    have E0 := I2.env0
    refine ⟨E0.frames, E0.mod, fun b o q => ⟨(E0.bs b o q).1, ?_⟩, E0.bsz, E0.funs, fun b q => ?_, ?_, E0.bare⟩
    · show ghH cs s2.heap z2.h b = none
      rw [ghH_no fun m => by rw [(csAt b m).2.1] at q; cases q]
      exact (E0.bs b o q).2
    · show ghH cs s2.heap z2.h b = none
      rw [ghH_no fun m => (csAt b m).1 q]
      exact E0.frf b q
    · exact gh_hok (fun c m => ⟨cs0 c m, (csAt c m).2.2.2.imp fun o q => q.1⟩) E0.hok
  have hl : (Value.ref f' :: us).length = ps.length := by
    rw [← h1.len _ _ _ _ spec]
    simp [rvs.length]
  have b := h2 s2 (Value.ref f' :: us) I2.kIn (by rw [List.append_nil]; exact hl)
  rw [List.append_nil] at b
  refine wpAny_call (codeAny_mono (h1.run X.A X.stack s2 zg.h ⟨Value.ref f' :: us, []⟩ (Value.ref f' :: us) (.ref f' :: vs) Qg (fun _ _ _ => False) G.room env0 b (.cons rfl rvs) spec) fun r s3 hq => ?_)
  cases r with
  | error e =>
    obtain ⟨_, _, _, _, _, _, _, _, _, _, _, _, hF⟩ := hq
    exact hF.elim
  | ok fl =>
    cases fl with
    | ret u =>
      obtain ⟨v, H3, q1, q2, q3, q4, q5, q6, q7⟩ := hq
      have q4' : HOk X.prog X.w H3 s3.heap := q4
      obtain ⟨r1, r2⟩ := gh_un (fun c m => by
        obtain ⟨o, w1, w2⟩ := q6 c m
        exact ⟨cs0 c m, o, w1, w2⟩) q3 q4'
      have fin : EP X (pins ++ [(f', obj)]) σ Q u s3 := I2.after ⟨v, unH cs H3, q1, q2, r1, r2, q5, q7 s3.heap (by rw [← G.prog, ← G.w]; exact q4')⟩
      obtain ⟨v', H', J, rv, qq⟩ := fin
      exact ⟨v', H', J.unpinned, rv, qq⟩
    | next => exact False.elim hq
    | brk => exact False.elim hq
    | cont => exact False.elim hq
theorem run_cloX (G : GX g k X W) (C : CloRun g k) {pins : List (Addr × Obj)} {σ : St} {s2 : Shared} {z2 : Wo} {l : Nat} {caps : Envd} {f' : Addr} {us : List Value} {vs : List V} {ds : List D} {Q : VK} (I2 : Inv X pins σ z2.h s2) (ok2 : Ok g z2) (rc : Rep g z2 (.clo l caps) (.ref f')) (rds : Reps g z2 ds vs) (rvs : Vals vs us)
    (post : PostG g (Rep g) W σ z2 (callF g.T k (.clo l caps) ds z2.s) Q) : wpAny (model X.prog X.w) X.A (call (.ref f') us) (EP X pins σ Q) X.xe s2 := by
  have E0 := I2.env0
  have rc' : codeAny (model X.prog X.w) X.A (.call (.ref f') ⟨us, []⟩) (CR (L2N.CX X.prog X.w) X.stack X.prog X.w z2.h s2 Q (WE W σ)) s2 := by
    rw [G.prog, G.w, G.K, G.mg, G.base] at E0
    rw [G.prog, G.w]
    exact C l caps f' X.A X.stack s2 z2 us vs ds Q (WE W σ) G.room E0 ok2 rc rds rvs post
  refine wpAny_call (codeAny_mono rc' fun r s' hq => ?_)
  cases r with
  | error e => exact L2N.passAt G.tk σ pins z2.h s2 e s' I2 hq
  | ok fl =>
    cases fl with
    | ret u => exact I2.after hq
    | next => exact False.elim hq
    | brk => exact False.elim hq
    | cont => exact False.elim hq
/-- what stands where a thing is called by a name -/
theorem callV_pre {i : Nat} {σ : St} {H : Hp} {Q : VK} (h : tE g k W (.callV i ces) σ H Q) : ∃ (z : Wo) (env : Envd) (d : D) (u0 : V), z.h = H ∧ Ok g z ∧ REnv g z env σ ∧ callable d = true ∧ σ[i]? = some (some u0) ∧ Rep g z d u0 ∧
    PostG g (Rep g) W σ z ((evEs g.T.G (callF g.T k) ces env z.s).bind fun ds s1 => callF g.T k d ds s1) Q := by
  obtain ⟨z, env, rfl, ok, re, post⟩ := h
  simp only [evE] at post
  split at post
  case h_2 => exact post.elim
  rename_i d hi
  split at post
  case isFalse => exact post.elim
  rename_i hcall
  obtain ⟨v0, q1, q2⟩ := renv_get re hi
  rcases q2 with q2 | ⟨u, rfl, q2⟩
  · subst q2; cases hcall
  · exact ⟨z, env, d, u, rfl, ok, re, hcall, q1, q2, post⟩
theorem clo_fnAt {z2 : Wo} {l : Nat} {caps : Envd} {f' : Addr} {s2 : Shared} {pins : List (Addr × Obj)} {σ : St} (G : GX g k X W) (I2 : Inv X pins σ z2.h s2) (rc : Rep g z2 (.clo l caps) (.ref f')) : PySem.W.FnAt f' s2.heap := by
  simp only [Rep] at rc
  obtain ⟨f, params, body, scope, N, ql, pm, c', ctv, cl, σ', hf, h2, _⟩ := rc
  cases hf
  rcases h2 with q | q
  · exact ⟨_, _, _, _, objO_at I2.hok q⟩
  · exact ⟨_, _, _, _, (I2.env0.bs f' _ (by rw [G.base]; exact q)).1⟩
theorem pe_callV_ok {t : Tx} (T : TxOk g t) (G : GX g k X W) (F : ∀ f, g.hs f = true → FnAt g k f) (C : CloRun g k) {i : Nat} {x : Str} {p : Pos} {e : PySem.Expr} (hN : X.N[i]? = some x) (hv : visB X.env.scope x = true) (hn : nmB x = true)
    (ha : PA X (e :: es) (tEs g k W ces)) (hs : (e :: es).all notStar = true) : PE X (.Call (.Name x p) (e :: es) [] pos) (tE g k W (.callV i ces)) := by
  refine ⟨fun pins s σ H Q I h => ?_⟩
  obtain ⟨z, env, d, u0, rfl, ok, re, hcall, q1, rd, post⟩ := callV_pre h
  simp only [List.all_cons, Bool.and_eq_true] at hs
  have hA : tEs g k W ces σ z.h fun vs H2 => ∃ (z2 : Wo) (ds : List D), z2.h = H2 ∧ Ok g z2 ∧ Reps g z2 ds vs ∧ Ext z z2 ∧ PostG g (Rep g) W σ z2 (callF g.T k d ds z2.s) Q :=
    ⟨z, env, rfl, ok, re, post.bind ok re fun y ds vs e oky rey ry py => ⟨y, ds, rfl, oky, ry, e, py⟩⟩
  refine wpAny_Call_Name_kw (thn ((pe_var (pos := p) hN (visB_ok hv) (nmB_ok hn).1 (nmB_ok hn).2).run pins s σ z.h (fun v H1 => v = u0 ∧ H1 = z.h) I ⟨u0, q1, rfl, rfl⟩) fun u s1 ⟨v, H1, I1, r1, e1, e2⟩ => ?_)
  subst e1 e2
  cases d <;> simp only [callable] at hcall <;> try cases hcall
  · rename_i f
    simp only [Rep] at rd
    obtain ⟨rfl, hlt⟩ := rd
    obtain ⟨nm, hnm⟩ := (T.hs f).mp hlt
    cases r1
    obtain ⟨fd, ps, h1, h2, h3, h4⟩ := run_call T G (F f hlt) hnm
    refine PySem.W.callWith_K (h₀ := X.base) I1.ok.mod.kin h4 (thn (ha.run pos pins s1 σ z.h _ I1 hA) fun us s2 ⟨vs, H2, I2, rvs, z2, ds, ez, ok2, rds, e2, post2⟩ => ⟨I2.kIn, ?_⟩) (star_ok hs.1 es X.env) (stars_ok hs.2 X.env)
    subst ez
    exact run_fnS h1 G.room h2 (L2N.passAt G.tk σ) I2 rvs (sp_ok ok2 rds post2)
  · rename_i l caps
    have rd0 := rd
    simp only [Rep] at rd0
    obtain ⟨f', _, _, _, _, _, _, _, _, _, _, rfl, _⟩ := rd0
    cases r1
    refine PySem.W.callWith_F (clo_fnAt G I1 rd) (thn (ha.run pos pins s1 σ z.h _ I1 hA) fun us s2 ⟨vs, H2, I2, rvs, z2, ds, ez, ok2, rds, e2, post2⟩ => ?_) (star_ok hs.1 es X.env) (stars_ok hs.2 X.env)
    subst ez
    have rd2 := rd.mono ok e2
    exact ⟨clo_fnAt G I2 rd2, run_cloX G C I2 ok2 rd2 rds rvs post2⟩
theorem pe_callV0_ok {t : Tx} (T : TxOk g t) (G : GX g k X W) (F : ∀ f, g.hs f = true → FnAt g k f) (C : CloRun g k) {i : Nat} {x : Str} {p : Pos} (hN : X.N[i]? = some x) (hv : visB X.env.scope x = true) (hn : nmB x = true) :
    PE X (.Call (.Name x p) [] [] pos) (tE g k W (.callV i [])) := by
  refine ⟨fun pins s σ H Q I h => ?_⟩
  obtain ⟨z, env, d, u0, rfl, ok, re, hcall, q1, rd, post⟩ := callV_pre h
  replace post : PostG g (Rep g) W σ z (callF g.T k d [] z.s) Q := post
  refine wpAny_Call_Name_kw (thn ((pe_var (pos := p) hN (visB_ok hv) (nmB_ok hn).1 (nmB_ok hn).2).run pins s σ z.h (fun v H1 => v = u0 ∧ H1 = z.h) I ⟨u0, q1, rfl, rfl⟩) fun u s1 ⟨v, H1, I1, r1, e1, e2⟩ => ?_)
  subst e1 e2
  have r0 : Reps g z [] [] := by simp only [Reps]
  cases d <;> simp only [callable] at hcall <;> try cases hcall
  · rename_i f
    simp only [Rep] at rd
    obtain ⟨rfl, hlt⟩ := rd
    obtain ⟨nm, hnm⟩ := (T.hs f).mp hlt
    cases r1
    obtain ⟨fd, ps, h1, h2, h3, h4⟩ := run_call T G (F f hlt) hnm
    exact PySem.W.callWith_K0 I1.kIn h4 (run_fnS (us := []) (E := WE W) h1 G.room h2 (L2N.passAt G.tk σ) I1 .nil (sp_ok ok r0 post))
  · rename_i l caps
    have rd0 := rd
    simp only [Rep] at rd0
    obtain ⟨f', _, _, _, _, _, _, _, _, _, _, rfl, _⟩ := rd0
    cases r1
    exact PySem.W.callWith_F0 (clo_fnAt G I1 rd) (run_cloX G C I1 ok rd r0 .nil post)
end
end Fv
end

section
set_option Elab.async false
set_option linter.all false
set_option maxRecDepth 100000
set_option maxHeartbeats 4000000
set_option autoImplicit false
namespace Fv
open PySem PySem.Spec PyProof.Rows
inductive Src where
  | lst (l : Addr) | tup (l : Addr) | str (x : Str) (t : Tok) (ty : String)
def Src.val : Src → Value
  | .lst l => .ref l | .tup l => .ref l | .str x t _ => .str x t
def Src.ty : Src → String
  | .lst _ => "list_iterator" | .tup _ => "tuple_iterator" | .str _ _ ty => ty
def Src.fit : Src → Prop
  | .str x _ ty => (ty = "str_ascii_iterator" ∧ x.cps.all (· < 128) = true) ∨ (ty = "str_iterator" ∧ x.cps.all (· < 128) = false)
  | _ => True
def Src.off (σ : Src) (b : Addr) : Prop := match σ with
  | .lst l => l ≠ b | .tup l => l ≠ b | .str _ _ _ => True
/-- the iterator stands at its k-th item -/
def ItAt (h : Heap) (it : Addr) (σ : Src) (k : Nat) : Prop := ∃ o, h.get? it = some o ∧ o.cls = .type σ.ty ∧ o.data = .fields #[σ.val, .int k 0]
def Cont (h : Heap) (σ : Src) (vs : List Value) : Prop := match σ with
  | .lst l => h.IsList l vs.toArray | .tup l => h.IsTuple l vs.toArray | .str _ _ _ => True
def ItemV (σ : Src) (vs : List Value) (k : Nat) (v : Value) : Prop := match σ with
  | .str x _ _ => ∃ c u, x.cps[k]? = some c ∧ v = .str ⟨#[c]⟩ u
  | _ => vs[k]? = some v
def More (σ : Src) (vs : List Value) (k : Nat) : Prop := match σ with
  | .str x _ _ => k < x.cps.size
  | _ => k < vs.length
def Done (σ : Src) (vs : List Value) (k : Nat) : Prop := match σ with
  | .str x _ _ => x.cps.size ≤ k
  | _ => vs.length ≤ k
theorem more_or (σ : Src) (vs : List Value) (k : Nat) : More σ vs k ∨ Done σ vs k := by
  cases σ <;> exact Nat.lt_or_ge _ _
theorem ItAt.ext {h h' : Heap} {it b : Addr} {σ : Src} {k : Nat} (x : ItAt h it σ k) (e : Heap.ExtBut b h h') (n : it ≠ b) : ItAt h' it σ k := by
  obtain ⟨o, h1, h2⟩ := x
  exact ⟨o, e it o n h1, h2⟩
theorem ItAt.at {h h' : Heap} {it : Addr} {σ : Src} {k : Nat} (x : ItAt h it σ k) (e : ∀ o, h.get? it = some o → h'.get? it = some o) : ItAt h' it σ k := by
  obtain ⟨o, h1, h2⟩ := x
  exact ⟨o, e o h1, h2⟩
theorem ItAt.lt {h : Heap} {it : Addr} {σ : Src} {k : Nat} (x : ItAt h it σ k) : it < h.objs.size := by
  obtain ⟨o, h1, _⟩ := x
  exact Heap.lt_size h1
theorem Cont.ext {h h' : Heap} {b : Addr} {σ : Src} {vs : List Value} (x : Cont h σ vs) (e : Heap.ExtBut b h h') (n : σ.off b) : Cont h' σ vs := by
  cases σ with
  | lst l => exact Heap.IsList.extBut x e n
  | tup l => exact Heap.IsTuple.extBut x e n
  | str => trivial
section
variable {prog : Program} {w : World} {A : Around} {E : Value → Shared → Prop} {s : Shared}
theorem nextS_item {it : Addr} {σ : Src} {vs : List Value} {k : Nat} {Q : Value → Shared → Prop} (hf : σ.fit) (hi : ItAt s.heap it σ k) (hc : Cont s.heap σ vs) (hm : More σ vs k)
    (hQ : ∀ h' tk v, ItAt h' it σ (k + 1) → Heap.SameBut it s.heap h' → ItemV σ vs k v → Q v { s with heap := h', toks := tk }) : wpAny (model prog w) A (Builtin.SmallTypes.nextOf (.ref it)) Q E s := by
  cases σ with
  | lst l =>
    have hm : k < vs.length := hm
    have hx := List.getElem?_eq_getElem hm
    exact wpAny_nextOf_list_item (show s.heap.IsListIter it l k from hi) (show s.heap.IsList l vs.toArray from hc) (x := vs[k]) (by simpa using hx) fun h' h1 h2 => hQ h' s.toks _ h1 h2 hx
  | tup l =>
    have hm : k < vs.length := hm
    have hx := List.getElem?_eq_getElem hm
    exact RZ.nextOf_tuple_item (show s.heap.IsTupleIter it l k from hi) (show s.heap.IsTuple l vs.toArray from hc) (x := vs[k]) (by simpa using hx) fun h' h1 h2 => hQ h' s.toks _ h1 h2 hx
  | str x t ty =>
    have hm : k < x.cps.size := hm
    have hx : x.cps[k]? = some x.cps[k] := Array.getElem?_eq_getElem hm
    rcases hf with ⟨e, _⟩ | ⟨e, _⟩
    · subst e
      exact wpAny_nextOf_ascii_item hi hx fun h' h1 h2 => hQ h' (s.toks + 1) _ h1 h2 ⟨_, _, hx, rfl⟩
    · subst e
      exact wpAny_nextOf_wide_item hi hx fun h' h1 h2 => hQ h' (s.toks + 1) _ h1 h2 ⟨_, _, hx, rfl⟩
theorem nextS_end {it : Addr} {σ : Src} {vs : List Value} {k : Nat} {Q : Value → Shared → Prop} (hh : A.handled = none) (hf : σ.fit) (hi : ItAt s.heap it σ k) (hc : Cont s.heap σ vs) (hm : Done σ vs k)
    (hE : ∀ h' e, Heap.ExtBut it s.heap h' → (∃ o, h'.get? e = some o ∧ o.cls = .type "StopIteration") → E (.ref e) { s with heap := h' }) : wpAny (model prog w) A (Builtin.SmallTypes.nextOf (.ref it)) Q E s := by
  cases σ with
  | lst l =>
    have hm : vs.length ≤ k := hm
    exact wpAny_nextOf_list_end hh (show s.heap.IsListIter it l k from hi) (show s.heap.IsList l vs.toArray from hc) (by simpa using hm) hE
  | tup l =>
    have hm : vs.length ≤ k := hm
    exact RZ.nextOf_tuple_end hh (show s.heap.IsTupleIter it l k from hi) (show s.heap.IsTuple l vs.toArray from hc) (by simpa using hm) hE
  | str x t ty =>
    have hm : x.cps.size ≤ k := hm
    have hx : x.cps[k]? = none := Array.getElem?_eq_none hm
    rcases hf with ⟨e, _⟩ | ⟨e, _⟩
    · subst e
      exact wpAny_nextOf_ascii_end hh hi hx hE
    · subst e
      exact wpAny_nextOf_wide_end hh hi hx hE
/-- iter(what) -/
theorem iterS {σ : Src} {vs : List Value} {Q : Value → Shared → Prop} (hf : σ.fit) (hc : Cont s.heap σ vs) (hQ : Q (.ref s.heap.objs.size) { s with heap := s.heap.push { cls := .type σ.ty, data := .fields #[σ.val, .int 0 0] } }) : wpAny (model prog w) A (pyIter σ.val) Q E s := by
  cases σ with
  | lst l => exact wpAny_pyIter_list (show s.heap.IsList l vs.toArray from hc) hQ
  | tup l => exact wpAny_pyIter_tuple (show s.heap.IsTuple l vs.toArray from hc) hQ
  | str x t ty =>
    rcases hf with ⟨e, ha⟩ | ⟨e, ha⟩
    · subst e; exact wpAny_pyIter_ascii ha hQ
    · subst e; exact wpAny_pyIter_wide ha hQ
end
end Fv
end

section
set_option Elab.async false
set_option linter.all false
set_option maxRecDepth 100000
set_option maxHeartbeats 4000000
set_option autoImplicit false
namespace Fv
open PySem PySem.Spec PyProof.Rows
abbrev ZipAt (h : Heap) (z TI TO : Addr) (f0 : Value) : Prop := h.get? z = some { cls := .type "zip", dict := none, data := .fields #[f0, .bool false, .bool false, .ref TI, .ref TO], slots := #[] }
abbrev TupAt (h : Heap) (T : Addr) (vs : List Value) : Prop := h.get? T = some { cls := .type "tuple", data := .seq vs.toArray }
theorem succ_ne (n : Nat) {i j : Nat} (h : i ≠ j) : n + i ≠ n + j := fun e => h (Nat.add_left_cancel e)
section
variable {prog : Program} {w : World} {A : Around} {E : Value → Shared → Prop} {s : Shared}
theorem updTup {T : Addr} {vs : List Value} {x : Value} {k : Nat} {Q : Unit → Shared → Prop} (hT : TupAt s.heap T vs) (hz : vs.length ≤ 10)
    (h : ∀ h', TupAt h' T (vs.set k x) → Heap.SameBut T s.heap h' → Q () { s with heap := h' }) : wpAny (model prog w) A (updateSeq T (·.setIfInBounds k x)) Q E s := by
  have hl : sizeLine = 16777216 := sizeLine_eq
  refine wpAny_updateSeq hT rfl (h _ ?_ (Heap.SameBut.update ..)) (by rw [List.size_toArray]; omega) (by rw [Array.size_setIfInBounds, List.size_toArray]; omega)
  show (s.heap.update T _).get? T = _
  rw [Heap.get?_update_self _ hT rfl]
  simp [Obj.mapSeq]


theorem zip2_item {n0 k : Nat} {σ1 σ2 : Src} {v1 v2 : List Value} {a1 a2 : Value} {Q : Value → Shared → Prop} (hz : ZipAt s.heap (n0 + 4) (n0 + 2) (n0 + 3) .none) (hTI : TupAt s.heap (n0 + 2) [.ref (n0 + 0), .ref (n0 + 1)]) (hTO : TupAt s.heap (n0 + 3) [a1, a2])
    (f1 : σ1.fit) (w1 : ItAt s.heap (n0 + 0) σ1 k) (c1 : Cont s.heap σ1 v1) (o1 : ∀ b, n0 ≤ b → σ1.off b) (f2 : σ2.fit) (w2 : ItAt s.heap (n0 + 1) σ2 k) (c2 : Cont s.heap σ2 v2) (o2 : ∀ b, n0 ≤ b → σ2.off b) (m1 : More σ1 v1 k) (m2 : More σ2 v2 k)
    (hQ : ∀ h' tk x1 x2, ItemV σ1 v1 k x1 → ItemV σ2 v2 k x2 → ZipAt h' (n0 + 4) (n0 + 2) (n0 + 3) (rawInt s.heap.objs.size) → TupAt h' (n0 + 2) [.ref (n0 + 0), .ref (n0 + 1)] → TupAt h' (n0 + 3) [x1, x2] → ItAt h' (n0 + 0) σ1 (k + 1) → ItAt h' (n0 + 1) σ2 (k + 1) → TupAt h' s.heap.objs.size [x1, x2] → h'.objs.size = s.heap.objs.size + 1 →
      (∀ c o, c ≠ (n0 + 4) → c ≠ (n0 + 3) → c ≠ (n0 + 0) → c ≠ (n0 + 1) → s.heap.get? c = some o → h'.get? c = some o) → Q (.ref s.heap.objs.size) { s with heap := h', toks := tk }) :
    wpAny (model prog w) A (Builtin.«zip.__next__» ⟨[.ref (n0 + 4)], []⟩) (fun fin s' => ∃ v, fin = .done (.ret v) ∧ Q v s') E s := by
  show wpAny _ _ (field (.ref (n0 + 4)) 2 >>= _) _ _ _
  refine wpAny_bind (wpAny_field hz rfl (x := .bool false) rfl ?_)
  show wpAny _ _ (field (.ref (n0 + 4)) 3 >>= _) _ _ _
  refine wpAny_bind (wpAny_field hz rfl (x := .ref (n0 + 2)) rfl ?_)
  refine wpAny_bind (wpAny_seqItems hTI rfl ?_)
  show wpAny _ _ (Builtin.SmallTypes.ownedTupleIsFree (.ref (n0 + 4)) >>= _) _ _ _
  refine wpAny_bind ?_
  unfold Builtin.SmallTypes.ownedTupleIsFree
  refine wpAny_bind (wpAny_field hz rfl (x := .none) rfl (wpAny_pure ?_))
  simp only [if_true]
  refine wpAny_bind (wpAny_rule ?_)
  refine wpAny_bind (wpAny_field hz rfl (x := .ref (n0 + 3)) rfl ?_)
  refine wpAny_bind (wpAny_setField_rec hz (by simp) fun g0 z0 s0 => ?_)
  replace z0 : ZipAt g0 (n0 + 4) (n0 + 2) (n0 + 3) .ellipsis := z0
  have e0 : Heap.ExtBut (n0 + 4) s.heap g0 := s0.extBut
  have t0 : TupAt g0 (n0 + 3) [a1, a2] := e0 _ _ (succ_ne _ (by decide)) hTO
  have w10 := w1.ext e0 (succ_ne _ (by decide))
  have c10 := c1.ext e0 (o1 _ (Nat.le_add_right _ _))
  have w20 := w2.ext e0 (succ_ne _ (by decide))
  have c20 := c2.ext e0 (o2 _ (Nat.le_add_right _ _))
  refine wpAny_bind ?_
  simp only [List.zipIdx_cons, List.zipIdx_nil, List.forIn_cons, List.forIn_nil]
  refine wpAny_bind (wpAny_bind (wpAny_onRaise ?_))
  show wpAny _ _ (Builtin.SmallTypes.nextOf (.ref (n0 + 0)) >>= _) _ _ _
  refine wpAny_bind (nextS_item f1 w10 c10 m1 fun g1 k1 x1 n1 s1 i1 => wpAny_pure ?_)
  have e1 : Heap.ExtBut (n0 + 0) g0 g1 := s1.extBut
  have t1 : TupAt g1 (n0 + 3) [a1, a2] := e1 _ _ (succ_ne _ (by decide)) t0
  have z1 : ZipAt g1 (n0 + 4) (n0 + 2) (n0 + 3) .ellipsis := e1 _ _ (succ_ne _ (by decide)) z0
  have w21 := w20.ext e1 (succ_ne _ (by decide))
  have c21 := c20.ext e1 (o2 _ (Nat.le_add_right _ _))
  refine wpAny_bind (wpAny_seqItems t1 rfl ?_)
  refine wpAny_bind (updTup t1 (by simp) fun g2 t2 s2 => ?_)
  replace t2 : TupAt g2 (n0 + 3) [x1, a2] := t2
  have e2 : Heap.ExtBut (n0 + 3) g1 g2 := s2.extBut
  have z2 : ZipAt g2 (n0 + 4) (n0 + 2) (n0 + 3) .ellipsis := e2 _ _ (succ_ne _ (by decide)) z1
  have n12 := n1.ext e2 (succ_ne _ (by decide))
  have w22 := w21.ext e2 (succ_ne _ (by decide))
  have c22 := c21.ext e2 (o2 _ (Nat.le_add_right _ _))
  refine wpAny_bind (wpAny_letGo (wpAny_pure ?_))
  refine wpAny_bind (wpAny_bind (wpAny_onRaise ?_))
  show wpAny _ _ (Builtin.SmallTypes.nextOf (.ref (n0 + 1)) >>= _) _ _ _
  refine wpAny_bind (nextS_item f2 w22 c22 m2 fun g3 k3 x2 n2 s3 i2 => wpAny_pure ?_)
  have e3 : Heap.ExtBut (n0 + 1) g2 g3 := s3.extBut
  have t3 : TupAt g3 (n0 + 3) [x1, a2] := e3 _ _ (succ_ne _ (by decide)) t2
  have z3 : ZipAt g3 (n0 + 4) (n0 + 2) (n0 + 3) .ellipsis := e3 _ _ (succ_ne _ (by decide)) z2
  have n13 := n12.ext e3 (succ_ne _ (by decide))
  refine wpAny_bind (wpAny_seqItems t3 rfl ?_)
  refine wpAny_bind (updTup t3 (by simp) fun g4 t4 s4 => ?_)
  replace t4 : TupAt g4 (n0 + 3) [x1, x2] := t4
  have e4 : Heap.ExtBut (n0 + 3) g3 g4 := s4.extBut
  have z4 : ZipAt g4 (n0 + 4) (n0 + 2) (n0 + 3) .ellipsis := e4 _ _ (succ_ne _ (by decide)) z3
  have n24 := n2.ext e4 (succ_ne _ (by decide))
  have n14 := n13.ext e4 (succ_ne _ (by decide))
  refine wpAny_bind (wpAny_letGo (wpAny_pure (wpAny_pure ?_)))
  refine wpAny_bind (wpAny_seqItems t4 rfl ?_)
  refine wpAny_bind (wpAny_newTuple ?_ (by simp; exact Nat.le_of_ble_eq_true rfl))
  have hsz : g4.objs.size = s.heap.objs.size := by rw [s4.1, s3.1, s2.1, s1.1, s0.1]
  have zlt : (n0 + 4) < g4.objs.size := Heap.lt_size z4
  have kept : ∀ c o, c ≠ (n0 + 4) → c ≠ (n0 + 3) → c ≠ (n0 + 0) → c ≠ (n0 + 1) → s.heap.get? c = some o → g4.get? c = some o := fun c o h1 h2 i1n i2n q => (e4 c o h2 (e3 c o i2n (e2 c o h2 (e1 c o i1n (e0 c o h1 q)))))
  show wpAny _ _ (Builtin.SmallTypes.ownedTupleHandOut (.ref (n0 + 4)) (.ref g4.objs.size) >>= _) _ _ _
  refine wpAny_bind ?_
  unfold Builtin.SmallTypes.ownedTupleHandOut
  have zp : ZipAt (g4.push { cls := .type "tuple", data := .seq [x1, x2].toArray }) (n0 + 4) (n0 + 2) (n0 + 3) .ellipsis := Heap.get?_push_of_some _ z4
  refine wpAny_bind (wpAny_setField_rec zp (by simp) fun ga za sa => ?_)
  replace za : ZipAt ga (n0 + 4) (n0 + 2) (n0 + 3) (rawInt g4.objs.size) := za
  refine wpAny_setField_rec za (by simp) fun gb zb sb => ?_
  replace zb : ZipAt gb (n0 + 4) (n0 + 2) (n0 + 3) (rawInt g4.objs.size) := zb
  have up : ∀ c o, c ≠ (n0 + 4) → g4.get? c = some o → gb.get? c = some o := fun c o c1 q => sb.extBut _ _ c1 (sa.extBut _ _ c1 (Heap.get?_push_of_some _ q))
  have hT : TupAt gb g4.objs.size [x1, x2] := sb.extBut _ _ (Nat.ne_of_gt zlt) (sa.extBut _ _ (Nat.ne_of_gt zlt) (Heap.get?_push_size _ rfl))
  have hs2 : gb.objs.size = g4.objs.size + 1 := by rw [sb.1, sa.1, Heap.size_push]
  rw [hsz] at zb hT hs2
  refine wpAny_pure ⟨_, rfl, ?_⟩
  show Q (.ref g4.objs.size) _
  rw [hsz]
  exact hQ gb _ x1 x2 i1 i2 zb (up _ _ (succ_ne _ (by decide)) (kept _ _ (succ_ne _ (by decide)) (succ_ne _ (by decide)) (succ_ne _ (by decide)) (succ_ne _ (by decide)) hTI)) (up _ _ (succ_ne _ (by decide)) t4) (n14.at fun o q => up _ o (succ_ne _ (by decide)) q) (n24.at fun o q => up _ o (succ_ne _ (by decide)) q) hT hs2 fun c o c1 c2 d1 d2 q => up c o c1 (kept c o c1 c2 d1 d2 q)


theorem zip2_end {n0 k : Nat} {σ1 σ2 : Src} {v1 v2 : List Value} {a1 a2 : Value} {Q : Fin → Shared → Prop} (hh : A.handled = none) (hz : ZipAt s.heap (n0 + 4) (n0 + 2) (n0 + 3) .none) (hTI : TupAt s.heap (n0 + 2) [.ref (n0 + 0), .ref (n0 + 1)]) (hTO : TupAt s.heap (n0 + 3) [a1, a2])
    (f1 : σ1.fit) (w1 : ItAt s.heap (n0 + 0) σ1 k) (c1 : Cont s.heap σ1 v1) (o1 : ∀ b, n0 ≤ b → σ1.off b) (f2 : σ2.fit) (w2 : ItAt s.heap (n0 + 1) σ2 k) (c2 : Cont s.heap σ2 v2) (o2 : ∀ b, n0 ≤ b → σ2.off b) (m : Done σ1 v1 k ∨ Done σ2 v2 k)
    (hE : ∀ h' tk e, (∀ c o, c ≠ (n0 + 4) → c ≠ (n0 + 3) → c ≠ (n0 + 0) → c ≠ (n0 + 1) → s.heap.get? c = some o → h'.get? c = some o) → (∃ o, h'.get? e = some o ∧ o.cls = .type "StopIteration") → E (.ref e) { s with heap := h', toks := tk }) :
    wpAny (model prog w) A (Builtin.«zip.__next__» ⟨[.ref (n0 + 4)], []⟩) Q E s := by
  show wpAny _ _ (field (.ref (n0 + 4)) 2 >>= _) _ _ _
  refine wpAny_bind (wpAny_field hz rfl (x := .bool false) rfl ?_)
  show wpAny _ _ (field (.ref (n0 + 4)) 3 >>= _) _ _ _
  refine wpAny_bind (wpAny_field hz rfl (x := .ref (n0 + 2)) rfl ?_)
  refine wpAny_bind (wpAny_seqItems hTI rfl ?_)
  show wpAny _ _ (Builtin.SmallTypes.ownedTupleIsFree (.ref (n0 + 4)) >>= _) _ _ _
  refine wpAny_bind ?_
  unfold Builtin.SmallTypes.ownedTupleIsFree
  refine wpAny_bind (wpAny_field hz rfl (x := .none) rfl (wpAny_pure ?_))
  simp only [if_true]
  refine wpAny_bind (wpAny_rule ?_)
  refine wpAny_bind (wpAny_field hz rfl (x := .ref (n0 + 3)) rfl ?_)
  refine wpAny_bind (wpAny_setField_rec hz (by simp) fun g0 z0 s0 => ?_)
  replace z0 : ZipAt g0 (n0 + 4) (n0 + 2) (n0 + 3) .ellipsis := z0
  have e0 : Heap.ExtBut (n0 + 4) s.heap g0 := s0.extBut
  have t0 : TupAt g0 (n0 + 3) [a1, a2] := e0 _ _ (succ_ne _ (by decide)) hTO
  have w10 := w1.ext e0 (succ_ne _ (by decide))
  have c10 := c1.ext e0 (o1 _ (Nat.le_add_right _ _))
  have w20 := w2.ext e0 (succ_ne _ (by decide))
  have c20 := c2.ext e0 (o2 _ (Nat.le_add_right _ _))
  refine wpAny_bind ?_
  simp only [List.zipIdx_cons, List.zipIdx_nil, List.forIn_cons, List.forIn_nil]

  by_cases dj : Done σ1 v1 k
  ·
    refine wpAny_bind (wpAny_bind (wpAny_onRaise ?_))
    show wpAny _ _ (Builtin.SmallTypes.nextOf (.ref (n0 + 0)) >>= _) _ _ _
    refine wpAny_bind (nextS_end hh f1 w10 c10 dj fun gE e eE he => ?_)
    obtain ⟨oe, hoe, hce⟩ := he
    have zE : ZipAt gE (n0 + 4) (n0 + 2) (n0 + 3) .ellipsis := eE _ _ (succ_ne _ (by decide)) z0
    have hez : e ≠ (n0 + 4) := fun q => by rw [q, zE] at hoe; cases hoe; simp at hce
    refine wpAny_setField_rec zE (by simp) fun gF _ sF => ?_
    exact hE gF _ e (fun c o h1 h2 i1n i2n q => sF.extBut _ _ h1 (eE c o i1n (e0 c o h1 q))) ⟨oe, sF.extBut _ _ hez hoe, hce⟩
  ·
    have nd1 := dj
    have m1 := (more_or σ1 v1 k).resolve_right dj
    refine wpAny_bind (wpAny_bind (wpAny_onRaise ?_))
    show wpAny _ _ (Builtin.SmallTypes.nextOf (.ref (n0 + 0)) >>= _) _ _ _
    refine wpAny_bind (nextS_item f1 w10 c10 m1 fun g1 k1 x1 n1 s1 i1 => wpAny_pure ?_)
    have e1 : Heap.ExtBut (n0 + 0) g0 g1 := s1.extBut
    have t1 : TupAt g1 (n0 + 3) [a1, a2] := e1 _ _ (succ_ne _ (by decide)) t0
    have z1 : ZipAt g1 (n0 + 4) (n0 + 2) (n0 + 3) .ellipsis := e1 _ _ (succ_ne _ (by decide)) z0
    have w21 := w20.ext e1 (succ_ne _ (by decide))
    have c21 := c20.ext e1 (o2 _ (Nat.le_add_right _ _))
    refine wpAny_bind (wpAny_seqItems t1 rfl ?_)
    refine wpAny_bind (updTup t1 (by simp) fun g2 t2 s2 => ?_)
    replace t2 : TupAt g2 (n0 + 3) [x1, a2] := t2
    have e2 : Heap.ExtBut (n0 + 3) g1 g2 := s2.extBut
    have z2 : ZipAt g2 (n0 + 4) (n0 + 2) (n0 + 3) .ellipsis := e2 _ _ (succ_ne _ (by decide)) z1
    have n12 := n1.ext e2 (succ_ne _ (by decide))
    have w22 := w21.ext e2 (succ_ne _ (by decide))
    have c22 := c21.ext e2 (o2 _ (Nat.le_add_right _ _))
    refine wpAny_bind (wpAny_letGo (wpAny_pure ?_))
    have dj : Done σ2 v2 k := by
      rcases m with m | m
      · exact absurd m nd1
      · exact m
    refine wpAny_bind (wpAny_bind (wpAny_onRaise ?_))
    show wpAny _ _ (Builtin.SmallTypes.nextOf (.ref (n0 + 1)) >>= _) _ _ _
    refine wpAny_bind (nextS_end hh f2 w22 c22 dj fun gE e eE he => ?_)
    obtain ⟨oe, hoe, hce⟩ := he
    have zE : ZipAt gE (n0 + 4) (n0 + 2) (n0 + 3) .ellipsis := eE _ _ (succ_ne _ (by decide)) z2
    have hez : e ≠ (n0 + 4) := fun q => by rw [q, zE] at hoe; cases hoe; simp at hce
    refine wpAny_setField_rec zE (by simp) fun gF _ sF => ?_
    exact hE gF _ e (fun c o h1 h2 i1n i2n q => sF.extBut _ _ h1 (eE c o i2n (e2 c o h2 (e1 c o i1n (e0 c o h1 q))))) ⟨oe, sF.extBut _ _ hez hoe, hce⟩


theorem zip3_item {n0 k : Nat} {σ1 σ2 σ3 : Src} {v1 v2 v3 : List Value} {a1 a2 a3 : Value} {Q : Value → Shared → Prop} (hz : ZipAt s.heap (n0 + 5) (n0 + 3) (n0 + 4) .none) (hTI : TupAt s.heap (n0 + 3) [.ref (n0 + 0), .ref (n0 + 1), .ref (n0 + 2)]) (hTO : TupAt s.heap (n0 + 4) [a1, a2, a3])
    (f1 : σ1.fit) (w1 : ItAt s.heap (n0 + 0) σ1 k) (c1 : Cont s.heap σ1 v1) (o1 : ∀ b, n0 ≤ b → σ1.off b) (f2 : σ2.fit) (w2 : ItAt s.heap (n0 + 1) σ2 k) (c2 : Cont s.heap σ2 v2) (o2 : ∀ b, n0 ≤ b → σ2.off b) (f3 : σ3.fit) (w3 : ItAt s.heap (n0 + 2) σ3 k) (c3 : Cont s.heap σ3 v3) (o3 : ∀ b, n0 ≤ b → σ3.off b) (m1 : More σ1 v1 k) (m2 : More σ2 v2 k) (m3 : More σ3 v3 k)
    (hQ : ∀ h' tk x1 x2 x3, ItemV σ1 v1 k x1 → ItemV σ2 v2 k x2 → ItemV σ3 v3 k x3 → ZipAt h' (n0 + 5) (n0 + 3) (n0 + 4) (rawInt s.heap.objs.size) → TupAt h' (n0 + 3) [.ref (n0 + 0), .ref (n0 + 1), .ref (n0 + 2)] → TupAt h' (n0 + 4) [x1, x2, x3] → ItAt h' (n0 + 0) σ1 (k + 1) → ItAt h' (n0 + 1) σ2 (k + 1) → ItAt h' (n0 + 2) σ3 (k + 1) → TupAt h' s.heap.objs.size [x1, x2, x3] → h'.objs.size = s.heap.objs.size + 1 →
      (∀ c o, c ≠ (n0 + 5) → c ≠ (n0 + 4) → c ≠ (n0 + 0) → c ≠ (n0 + 1) → c ≠ (n0 + 2) → s.heap.get? c = some o → h'.get? c = some o) → Q (.ref s.heap.objs.size) { s with heap := h', toks := tk }) :
    wpAny (model prog w) A (Builtin.«zip.__next__» ⟨[.ref (n0 + 5)], []⟩) (fun fin s' => ∃ v, fin = .done (.ret v) ∧ Q v s') E s := by
  show wpAny _ _ (field (.ref (n0 + 5)) 2 >>= _) _ _ _
  refine wpAny_bind (wpAny_field hz rfl (x := .bool false) rfl ?_)
  show wpAny _ _ (field (.ref (n0 + 5)) 3 >>= _) _ _ _
  refine wpAny_bind (wpAny_field hz rfl (x := .ref (n0 + 3)) rfl ?_)
  refine wpAny_bind (wpAny_seqItems hTI rfl ?_)
  show wpAny _ _ (Builtin.SmallTypes.ownedTupleIsFree (.ref (n0 + 5)) >>= _) _ _ _
  refine wpAny_bind ?_
  unfold Builtin.SmallTypes.ownedTupleIsFree
  refine wpAny_bind (wpAny_field hz rfl (x := .none) rfl (wpAny_pure ?_))
  simp only [if_true]
  refine wpAny_bind (wpAny_rule ?_)
  refine wpAny_bind (wpAny_field hz rfl (x := .ref (n0 + 4)) rfl ?_)
  refine wpAny_bind (wpAny_setField_rec hz (by simp) fun g0 z0 s0 => ?_)
  replace z0 : ZipAt g0 (n0 + 5) (n0 + 3) (n0 + 4) .ellipsis := z0
  have e0 : Heap.ExtBut (n0 + 5) s.heap g0 := s0.extBut
  have t0 : TupAt g0 (n0 + 4) [a1, a2, a3] := e0 _ _ (succ_ne _ (by decide)) hTO
  have w10 := w1.ext e0 (succ_ne _ (by decide))
  have c10 := c1.ext e0 (o1 _ (Nat.le_add_right _ _))
  have w20 := w2.ext e0 (succ_ne _ (by decide))
  have c20 := c2.ext e0 (o2 _ (Nat.le_add_right _ _))
  have w30 := w3.ext e0 (succ_ne _ (by decide))
  have c30 := c3.ext e0 (o3 _ (Nat.le_add_right _ _))
  refine wpAny_bind ?_
  simp only [List.zipIdx_cons, List.zipIdx_nil, List.forIn_cons, List.forIn_nil]
  refine wpAny_bind (wpAny_bind (wpAny_onRaise ?_))
  show wpAny _ _ (Builtin.SmallTypes.nextOf (.ref (n0 + 0)) >>= _) _ _ _
  refine wpAny_bind (nextS_item f1 w10 c10 m1 fun g1 k1 x1 n1 s1 i1 => wpAny_pure ?_)
  have e1 : Heap.ExtBut (n0 + 0) g0 g1 := s1.extBut
  have t1 : TupAt g1 (n0 + 4) [a1, a2, a3] := e1 _ _ (succ_ne _ (by decide)) t0
  have z1 : ZipAt g1 (n0 + 5) (n0 + 3) (n0 + 4) .ellipsis := e1 _ _ (succ_ne _ (by decide)) z0
  have w21 := w20.ext e1 (succ_ne _ (by decide))
  have c21 := c20.ext e1 (o2 _ (Nat.le_add_right _ _))
  have w31 := w30.ext e1 (succ_ne _ (by decide))
  have c31 := c30.ext e1 (o3 _ (Nat.le_add_right _ _))
  refine wpAny_bind (wpAny_seqItems t1 rfl ?_)
  refine wpAny_bind (updTup t1 (by simp) fun g2 t2 s2 => ?_)
  replace t2 : TupAt g2 (n0 + 4) [x1, a2, a3] := t2
  have e2 : Heap.ExtBut (n0 + 4) g1 g2 := s2.extBut
  have z2 : ZipAt g2 (n0 + 5) (n0 + 3) (n0 + 4) .ellipsis := e2 _ _ (succ_ne _ (by decide)) z1
  have n12 := n1.ext e2 (succ_ne _ (by decide))
  have w22 := w21.ext e2 (succ_ne _ (by decide))
  have c22 := c21.ext e2 (o2 _ (Nat.le_add_right _ _))
  have w32 := w31.ext e2 (succ_ne _ (by decide))
  have c32 := c31.ext e2 (o3 _ (Nat.le_add_right _ _))
  refine wpAny_bind (wpAny_letGo (wpAny_pure ?_))
  refine wpAny_bind (wpAny_bind (wpAny_onRaise ?_))
  show wpAny _ _ (Builtin.SmallTypes.nextOf (.ref (n0 + 1)) >>= _) _ _ _
  refine wpAny_bind (nextS_item f2 w22 c22 m2 fun g3 k3 x2 n2 s3 i2 => wpAny_pure ?_)
  have e3 : Heap.ExtBut (n0 + 1) g2 g3 := s3.extBut
  have t3 : TupAt g3 (n0 + 4) [x1, a2, a3] := e3 _ _ (succ_ne _ (by decide)) t2
  have z3 : ZipAt g3 (n0 + 5) (n0 + 3) (n0 + 4) .ellipsis := e3 _ _ (succ_ne _ (by decide)) z2
  have n13 := n12.ext e3 (succ_ne _ (by decide))
  have w33 := w32.ext e3 (succ_ne _ (by decide))
  have c33 := c32.ext e3 (o3 _ (Nat.le_add_right _ _))
  refine wpAny_bind (wpAny_seqItems t3 rfl ?_)
  refine wpAny_bind (updTup t3 (by simp) fun g4 t4 s4 => ?_)
  replace t4 : TupAt g4 (n0 + 4) [x1, x2, a3] := t4
  have e4 : Heap.ExtBut (n0 + 4) g3 g4 := s4.extBut
  have z4 : ZipAt g4 (n0 + 5) (n0 + 3) (n0 + 4) .ellipsis := e4 _ _ (succ_ne _ (by decide)) z3
  have n24 := n2.ext e4 (succ_ne _ (by decide))
  have n14 := n13.ext e4 (succ_ne _ (by decide))
  have w34 := w33.ext e4 (succ_ne _ (by decide))
  have c34 := c33.ext e4 (o3 _ (Nat.le_add_right _ _))
  refine wpAny_bind (wpAny_letGo (wpAny_pure ?_))
  refine wpAny_bind (wpAny_bind (wpAny_onRaise ?_))
  show wpAny _ _ (Builtin.SmallTypes.nextOf (.ref (n0 + 2)) >>= _) _ _ _
  refine wpAny_bind (nextS_item f3 w34 c34 m3 fun g5 k5 x3 n3 s5 i3 => wpAny_pure ?_)
  have e5 : Heap.ExtBut (n0 + 2) g4 g5 := s5.extBut
  have t5 : TupAt g5 (n0 + 4) [x1, x2, a3] := e5 _ _ (succ_ne _ (by decide)) t4
  have z5 : ZipAt g5 (n0 + 5) (n0 + 3) (n0 + 4) .ellipsis := e5 _ _ (succ_ne _ (by decide)) z4
  have n15 := n14.ext e5 (succ_ne _ (by decide))
  have n25 := n24.ext e5 (succ_ne _ (by decide))
  refine wpAny_bind (wpAny_seqItems t5 rfl ?_)
  refine wpAny_bind (updTup t5 (by simp) fun g6 t6 s6 => ?_)
  replace t6 : TupAt g6 (n0 + 4) [x1, x2, x3] := t6
  have e6 : Heap.ExtBut (n0 + 4) g5 g6 := s6.extBut
  have z6 : ZipAt g6 (n0 + 5) (n0 + 3) (n0 + 4) .ellipsis := e6 _ _ (succ_ne _ (by decide)) z5
  have n36 := n3.ext e6 (succ_ne _ (by decide))
  have n16 := n15.ext e6 (succ_ne _ (by decide))
  have n26 := n25.ext e6 (succ_ne _ (by decide))
  refine wpAny_bind (wpAny_letGo (wpAny_pure (wpAny_pure ?_)))
  refine wpAny_bind (wpAny_seqItems t6 rfl ?_)
  refine wpAny_bind (wpAny_newTuple ?_ (by simp; exact Nat.le_of_ble_eq_true rfl))
  have hsz : g6.objs.size = s.heap.objs.size := by rw [s6.1, s5.1, s4.1, s3.1, s2.1, s1.1, s0.1]
  have zlt : (n0 + 5) < g6.objs.size := Heap.lt_size z6
  have kept : ∀ c o, c ≠ (n0 + 5) → c ≠ (n0 + 4) → c ≠ (n0 + 0) → c ≠ (n0 + 1) → c ≠ (n0 + 2) → s.heap.get? c = some o → g6.get? c = some o := fun c o h1 h2 i1n i2n i3n q => (e6 c o h2 (e5 c o i3n (e4 c o h2 (e3 c o i2n (e2 c o h2 (e1 c o i1n (e0 c o h1 q)))))))
  show wpAny _ _ (Builtin.SmallTypes.ownedTupleHandOut (.ref (n0 + 5)) (.ref g6.objs.size) >>= _) _ _ _
  refine wpAny_bind ?_
  unfold Builtin.SmallTypes.ownedTupleHandOut
  have zp : ZipAt (g6.push { cls := .type "tuple", data := .seq [x1, x2, x3].toArray }) (n0 + 5) (n0 + 3) (n0 + 4) .ellipsis := Heap.get?_push_of_some _ z6
  refine wpAny_bind (wpAny_setField_rec zp (by simp) fun ga za sa => ?_)
  replace za : ZipAt ga (n0 + 5) (n0 + 3) (n0 + 4) (rawInt g6.objs.size) := za
  refine wpAny_setField_rec za (by simp) fun gb zb sb => ?_
  replace zb : ZipAt gb (n0 + 5) (n0 + 3) (n0 + 4) (rawInt g6.objs.size) := zb
  have up : ∀ c o, c ≠ (n0 + 5) → g6.get? c = some o → gb.get? c = some o := fun c o c1 q => sb.extBut _ _ c1 (sa.extBut _ _ c1 (Heap.get?_push_of_some _ q))
  have hT : TupAt gb g6.objs.size [x1, x2, x3] := sb.extBut _ _ (Nat.ne_of_gt zlt) (sa.extBut _ _ (Nat.ne_of_gt zlt) (Heap.get?_push_size _ rfl))
  have hs2 : gb.objs.size = g6.objs.size + 1 := by rw [sb.1, sa.1, Heap.size_push]
  rw [hsz] at zb hT hs2
  refine wpAny_pure ⟨_, rfl, ?_⟩
  show Q (.ref g6.objs.size) _
  rw [hsz]
  exact hQ gb _ x1 x2 x3 i1 i2 i3 zb (up _ _ (succ_ne _ (by decide)) (kept _ _ (succ_ne _ (by decide)) (succ_ne _ (by decide)) (succ_ne _ (by decide)) (succ_ne _ (by decide)) (succ_ne _ (by decide)) hTI)) (up _ _ (succ_ne _ (by decide)) t6) (n16.at fun o q => up _ o (succ_ne _ (by decide)) q) (n26.at fun o q => up _ o (succ_ne _ (by decide)) q) (n36.at fun o q => up _ o (succ_ne _ (by decide)) q) hT hs2 fun c o c1 c2 d1 d2 d3 q => up c o c1 (kept c o c1 c2 d1 d2 d3 q)


theorem zip3_end {n0 k : Nat} {σ1 σ2 σ3 : Src} {v1 v2 v3 : List Value} {a1 a2 a3 : Value} {Q : Fin → Shared → Prop} (hh : A.handled = none) (hz : ZipAt s.heap (n0 + 5) (n0 + 3) (n0 + 4) .none) (hTI : TupAt s.heap (n0 + 3) [.ref (n0 + 0), .ref (n0 + 1), .ref (n0 + 2)]) (hTO : TupAt s.heap (n0 + 4) [a1, a2, a3])
    (f1 : σ1.fit) (w1 : ItAt s.heap (n0 + 0) σ1 k) (c1 : Cont s.heap σ1 v1) (o1 : ∀ b, n0 ≤ b → σ1.off b) (f2 : σ2.fit) (w2 : ItAt s.heap (n0 + 1) σ2 k) (c2 : Cont s.heap σ2 v2) (o2 : ∀ b, n0 ≤ b → σ2.off b) (f3 : σ3.fit) (w3 : ItAt s.heap (n0 + 2) σ3 k) (c3 : Cont s.heap σ3 v3) (o3 : ∀ b, n0 ≤ b → σ3.off b) (m : Done σ1 v1 k ∨ Done σ2 v2 k ∨ Done σ3 v3 k)
    (hE : ∀ h' tk e, (∀ c o, c ≠ (n0 + 5) → c ≠ (n0 + 4) → c ≠ (n0 + 0) → c ≠ (n0 + 1) → c ≠ (n0 + 2) → s.heap.get? c = some o → h'.get? c = some o) → (∃ o, h'.get? e = some o ∧ o.cls = .type "StopIteration") → E (.ref e) { s with heap := h', toks := tk }) :
    wpAny (model prog w) A (Builtin.«zip.__next__» ⟨[.ref (n0 + 5)], []⟩) Q E s := by
  show wpAny _ _ (field (.ref (n0 + 5)) 2 >>= _) _ _ _
  refine wpAny_bind (wpAny_field hz rfl (x := .bool false) rfl ?_)
  show wpAny _ _ (field (.ref (n0 + 5)) 3 >>= _) _ _ _
  refine wpAny_bind (wpAny_field hz rfl (x := .ref (n0 + 3)) rfl ?_)
  refine wpAny_bind (wpAny_seqItems hTI rfl ?_)
  show wpAny _ _ (Builtin.SmallTypes.ownedTupleIsFree (.ref (n0 + 5)) >>= _) _ _ _
  refine wpAny_bind ?_
  unfold Builtin.SmallTypes.ownedTupleIsFree
  refine wpAny_bind (wpAny_field hz rfl (x := .none) rfl (wpAny_pure ?_))
  simp only [if_true]
  refine wpAny_bind (wpAny_rule ?_)
  refine wpAny_bind (wpAny_field hz rfl (x := .ref (n0 + 4)) rfl ?_)
  refine wpAny_bind (wpAny_setField_rec hz (by simp) fun g0 z0 s0 => ?_)
  replace z0 : ZipAt g0 (n0 + 5) (n0 + 3) (n0 + 4) .ellipsis := z0
  have e0 : Heap.ExtBut (n0 + 5) s.heap g0 := s0.extBut
  have t0 : TupAt g0 (n0 + 4) [a1, a2, a3] := e0 _ _ (succ_ne _ (by decide)) hTO
  have w10 := w1.ext e0 (succ_ne _ (by decide))
  have c10 := c1.ext e0 (o1 _ (Nat.le_add_right _ _))
  have w20 := w2.ext e0 (succ_ne _ (by decide))
  have c20 := c2.ext e0 (o2 _ (Nat.le_add_right _ _))
  have w30 := w3.ext e0 (succ_ne _ (by decide))
  have c30 := c3.ext e0 (o3 _ (Nat.le_add_right _ _))
  refine wpAny_bind ?_
  simp only [List.zipIdx_cons, List.zipIdx_nil, List.forIn_cons, List.forIn_nil]

  by_cases dj : Done σ1 v1 k
  ·
    refine wpAny_bind (wpAny_bind (wpAny_onRaise ?_))
    show wpAny _ _ (Builtin.SmallTypes.nextOf (.ref (n0 + 0)) >>= _) _ _ _
    refine wpAny_bind (nextS_end hh f1 w10 c10 dj fun gE e eE he => ?_)
    obtain ⟨oe, hoe, hce⟩ := he
    have zE : ZipAt gE (n0 + 5) (n0 + 3) (n0 + 4) .ellipsis := eE _ _ (succ_ne _ (by decide)) z0
    have hez : e ≠ (n0 + 5) := fun q => by rw [q, zE] at hoe; cases hoe; simp at hce
    refine wpAny_setField_rec zE (by simp) fun gF _ sF => ?_
    exact hE gF _ e (fun c o h1 h2 i1n i2n i3n q => sF.extBut _ _ h1 (eE c o i1n (e0 c o h1 q))) ⟨oe, sF.extBut _ _ hez hoe, hce⟩
  ·
    have nd1 := dj
    have m1 := (more_or σ1 v1 k).resolve_right dj
    refine wpAny_bind (wpAny_bind (wpAny_onRaise ?_))
    show wpAny _ _ (Builtin.SmallTypes.nextOf (.ref (n0 + 0)) >>= _) _ _ _
    refine wpAny_bind (nextS_item f1 w10 c10 m1 fun g1 k1 x1 n1 s1 i1 => wpAny_pure ?_)
    have e1 : Heap.ExtBut (n0 + 0) g0 g1 := s1.extBut
    have t1 : TupAt g1 (n0 + 4) [a1, a2, a3] := e1 _ _ (succ_ne _ (by decide)) t0
    have z1 : ZipAt g1 (n0 + 5) (n0 + 3) (n0 + 4) .ellipsis := e1 _ _ (succ_ne _ (by decide)) z0
    have w21 := w20.ext e1 (succ_ne _ (by decide))
    have c21 := c20.ext e1 (o2 _ (Nat.le_add_right _ _))
    have w31 := w30.ext e1 (succ_ne _ (by decide))
    have c31 := c30.ext e1 (o3 _ (Nat.le_add_right _ _))
    refine wpAny_bind (wpAny_seqItems t1 rfl ?_)
    refine wpAny_bind (updTup t1 (by simp) fun g2 t2 s2 => ?_)
    replace t2 : TupAt g2 (n0 + 4) [x1, a2, a3] := t2
    have e2 : Heap.ExtBut (n0 + 4) g1 g2 := s2.extBut
    have z2 : ZipAt g2 (n0 + 5) (n0 + 3) (n0 + 4) .ellipsis := e2 _ _ (succ_ne _ (by decide)) z1
    have n12 := n1.ext e2 (succ_ne _ (by decide))
    have w22 := w21.ext e2 (succ_ne _ (by decide))
    have c22 := c21.ext e2 (o2 _ (Nat.le_add_right _ _))
    have w32 := w31.ext e2 (succ_ne _ (by decide))
    have c32 := c31.ext e2 (o3 _ (Nat.le_add_right _ _))
    refine wpAny_bind (wpAny_letGo (wpAny_pure ?_))
    by_cases dj : Done σ2 v2 k
    ·
      refine wpAny_bind (wpAny_bind (wpAny_onRaise ?_))
      show wpAny _ _ (Builtin.SmallTypes.nextOf (.ref (n0 + 1)) >>= _) _ _ _
      refine wpAny_bind (nextS_end hh f2 w22 c22 dj fun gE e eE he => ?_)
      obtain ⟨oe, hoe, hce⟩ := he
      have zE : ZipAt gE (n0 + 5) (n0 + 3) (n0 + 4) .ellipsis := eE _ _ (succ_ne _ (by decide)) z2
      have hez : e ≠ (n0 + 5) := fun q => by rw [q, zE] at hoe; cases hoe; simp at hce
      refine wpAny_setField_rec zE (by simp) fun gF _ sF => ?_
      exact hE gF _ e (fun c o h1 h2 i1n i2n i3n q => sF.extBut _ _ h1 (eE c o i2n (e2 c o h2 (e1 c o i1n (e0 c o h1 q))))) ⟨oe, sF.extBut _ _ hez hoe, hce⟩
    ·
      have nd2 := dj
      have m2 := (more_or σ2 v2 k).resolve_right dj
      refine wpAny_bind (wpAny_bind (wpAny_onRaise ?_))
      show wpAny _ _ (Builtin.SmallTypes.nextOf (.ref (n0 + 1)) >>= _) _ _ _
      refine wpAny_bind (nextS_item f2 w22 c22 m2 fun g3 k3 x2 n2 s3 i2 => wpAny_pure ?_)
      have e3 : Heap.ExtBut (n0 + 1) g2 g3 := s3.extBut
      have t3 : TupAt g3 (n0 + 4) [x1, a2, a3] := e3 _ _ (succ_ne _ (by decide)) t2
      have z3 : ZipAt g3 (n0 + 5) (n0 + 3) (n0 + 4) .ellipsis := e3 _ _ (succ_ne _ (by decide)) z2
      have n13 := n12.ext e3 (succ_ne _ (by decide))
      have w33 := w32.ext e3 (succ_ne _ (by decide))
      have c33 := c32.ext e3 (o3 _ (Nat.le_add_right _ _))
      refine wpAny_bind (wpAny_seqItems t3 rfl ?_)
      refine wpAny_bind (updTup t3 (by simp) fun g4 t4 s4 => ?_)
      replace t4 : TupAt g4 (n0 + 4) [x1, x2, a3] := t4
      have e4 : Heap.ExtBut (n0 + 4) g3 g4 := s4.extBut
      have z4 : ZipAt g4 (n0 + 5) (n0 + 3) (n0 + 4) .ellipsis := e4 _ _ (succ_ne _ (by decide)) z3
      have n24 := n2.ext e4 (succ_ne _ (by decide))
      have n14 := n13.ext e4 (succ_ne _ (by decide))
      have w34 := w33.ext e4 (succ_ne _ (by decide))
      have c34 := c33.ext e4 (o3 _ (Nat.le_add_right _ _))
      refine wpAny_bind (wpAny_letGo (wpAny_pure ?_))
      have dj : Done σ3 v3 k := by
        rcases m with m | m | m
        · exact absurd m nd1
        · exact absurd m nd2
        · exact m
      refine wpAny_bind (wpAny_bind (wpAny_onRaise ?_))
      show wpAny _ _ (Builtin.SmallTypes.nextOf (.ref (n0 + 2)) >>= _) _ _ _
      refine wpAny_bind (nextS_end hh f3 w34 c34 dj fun gE e eE he => ?_)
      obtain ⟨oe, hoe, hce⟩ := he
      have zE : ZipAt gE (n0 + 5) (n0 + 3) (n0 + 4) .ellipsis := eE _ _ (succ_ne _ (by decide)) z4
      have hez : e ≠ (n0 + 5) := fun q => by rw [q, zE] at hoe; cases hoe; simp at hce
      refine wpAny_setField_rec zE (by simp) fun gF _ sF => ?_
      exact hE gF _ e (fun c o h1 h2 i1n i2n i3n q => sF.extBut _ _ h1 (eE c o i3n (e4 c o h2 (e3 c o i2n (e2 c o h2 (e1 c o i1n (e0 c o h1 q))))))) ⟨oe, sF.extBut _ _ hez hoe, hce⟩

end
end Fv
end

section
set_option Elab.async false
set_option linter.all false
set_option maxRecDepth 100000
set_option maxHeartbeats 4000000
set_option autoImplicit false
namespace Fv
open PySem PySem.Spec PyProof.Rows L2
/-- what may be walked, as the abstract heap tells it -/
inductive VS where
  | lst (a : Addr) | tup (a : Addr) | str (x : Str)
def VS.v : VS → V
  | .lst a => .ref a | .tup a => .ref a | .str x => .str x
def VIt (K : PySem.W.Frag) (H : Hp) : VS → List V → Prop
  | .lst a, xs => SqL K H a xs
  | .tup a, xs => SqT K H a xs
  | .str x, xs => xs = x.cps.toList.map fun c => V.str ⟨#[c]⟩
def SrcOf : VS → Src → Prop
  | .lst a, .lst b => a = b
  | .tup a, .tup b => a = b
  | .str x, .str y _ _ => x = y
  | _, _ => False
theorem src_of {q : VS} {u : Value} (r : RelV q.v u) : ∃ z : Src, SrcOf q z ∧ z.val = u ∧ z.fit := by
  cases q with
  | lst a => cases r; exact ⟨.lst a, rfl, rfl, trivial⟩
  | tup a => cases r; exact ⟨.tup a, rfl, rfl, trivial⟩
  | str x =>
    obtain ⟨t, rfl⟩ := r
    cases ha : x.cps.all (· < 128)
    · exact ⟨.str x t "str_iterator", rfl, rfl, .inr ⟨rfl, ha⟩⟩
    · exact ⟨.str x t "str_ascii_iterator", rfl, rfl, .inl ⟨rfl, ha⟩⟩
section
variable {X : Cx} {pins : List (Addr × Obj)} {σ : St} {H : Hp} {s : Shared}
theorem vit_in (I : Inv X pins σ H s) {q : VS} {z : Src} {xs : List V} (hs : SrcOf q z) (h : VIt X.K H q xs) :
    ∃ its, Cont s.heap z its ∧ (∀ (i : Nat) x, xs[i]? = some x → More z its i ∧ ∀ u, ItemV z its i u → RelV x u) ∧ ∀ i : Nat, xs.length ≤ i → Done z its i := by
  cases q <;> cases z <;> simp only [SrcOf] at hs <;> subst hs
  · obtain ⟨its, rv, p, _⟩ := I.list h
    refine ⟨its, p.isList, fun i x hx => ?_, fun i hi => (show its.length ≤ i by rw [← rv.length]; exact hi)⟩
    obtain ⟨u, hu, ru⟩ := rv.get hx
    refine ⟨(List.getElem?_eq_some_iff.mp hu).1, fun u' hu' => ?_⟩
    have hu' : its[i]? = some u' := hu'
    rw [hu] at hu'; cases hu'; exact ru
  · obtain ⟨its, rv, p, _⟩ := I.tuple h
    refine ⟨its, p, fun i x hx => ?_, fun i hi => (show its.length ≤ i by rw [← rv.length]; exact hi)⟩
    obtain ⟨u, hu, ru⟩ := rv.get hx
    refine ⟨(List.getElem?_eq_some_iff.mp hu).1, fun u' hu' => ?_⟩
    have hu' : its[i]? = some u' := hu'
    rw [hu] at hu'; cases hu'; exact ru
  · rename_i x t ty
    have h : xs = x.cps.toList.map fun c => V.str ⟨#[c]⟩ := h
    subst h
    refine ⟨[], trivial, fun i y hy => ?_, fun i hi => (show x.cps.size ≤ i by simpa using hi)⟩
    rw [List.getElem?_map] at hy
    obtain ⟨c, hc, rfl⟩ := Option.map_eq_some_iff.mp hy
    have hc : x.cps[i]? = some c := by simpa using hc
    refine ⟨(Array.getElem?_eq_some_iff.mp hc).1, fun u hu => ?_⟩
    obtain ⟨c', t', h1, rfl⟩ := hu
    rw [hc] at h1; cases h1
    exact ⟨_, rfl⟩
theorem vit_inj (I : Inv X pins σ H s) {q : VS} {xs ys : List V} (h : VIt X.K H q xs) (h' : VIt X.K H q ys) : xs = ys := by
  cases q with
  | lst a => exact I.list_inj h h'
  | tup a => exact I.tuple_inj h h'
  | str x => exact Eq.trans h (Eq.symm h')
theorem vit_off (I : Inv X pins σ H s) {q : VS} {z : Src} {xs : List V} (hs : SrcOf q z) (h : VIt X.K H q xs) {n : Nat} (hn : s.heap.objs.size ≤ n) : ∀ b, n ≤ b → z.off b := fun b hb => by
  have hb := Nat.le_trans hn hb
  cases q <;> cases z <;> simp only [SrcOf] at hs <;> subst hs
  · obtain ⟨its, rv, p, _⟩ := I.list h
    exact Nat.ne_of_lt (Nat.lt_of_lt_of_le p.lt hb)
  · obtain ⟨its, rv, p, _⟩ := I.tuple h
    obtain ⟨o, ho, _⟩ := id p
    exact Nat.ne_of_lt (Nat.lt_of_lt_of_le (Heap.lt_size ho) hb)
  · trivial
end
def Src.itO (z : Src) : Obj := { cls := .type z.ty, data := .fields #[z.val, .int 0 0] }
theorem begins_src (z : Src) (hf : z.fit) (its : List Value) : Begins z.val z.itO fun h => Cont h z its where
  iter := fun prog w A E s Q hc h => iterS hf hc h
  keeps := fun h h' x hk => by
    cases z with
    | lst l => exact Heap.IsList.at x fun o e => hk l o e
    | tup l => exact Heap.IsTuple.at x fun o e => hk l o e
    | str => trivial
  free := rfl
theorem itAt_new {h : Heap} {a : Addr} {z : Src} (e : h.get? a = some z.itO) : ItAt h a z 0 := ⟨_, e, rfl, rfl⟩

section
variable {prog : Program} {w : World} {A : Around} {E : Value → Shared → Prop} {s : Shared}
theorem pyNext_zip2_item {n0 k : Nat} {σ1 σ2 : Src} {v1 v2 : List Value} {a1 a2 : Value} {Q : Option Value → Shared → Prop} (hz : ZipAt s.heap (n0 + 4) (n0 + 2) (n0 + 3) .none) (hTI : TupAt s.heap (n0 + 2) [.ref (n0 + 0), .ref (n0 + 1)]) (hTO : TupAt s.heap (n0 + 3) [a1, a2])
    (f1 : σ1.fit) (w1 : ItAt s.heap (n0 + 0) σ1 k) (c1 : Cont s.heap σ1 v1) (o1 : ∀ b, n0 ≤ b → σ1.off b) (f2 : σ2.fit) (w2 : ItAt s.heap (n0 + 1) σ2 k) (c2 : Cont s.heap σ2 v2) (o2 : ∀ b, n0 ≤ b → σ2.off b) (m1 : More σ1 v1 k) (m2 : More σ2 v2 k)
    (hQ : ∀ h' tk x1 x2, ItemV σ1 v1 k x1 → ItemV σ2 v2 k x2 → ZipAt h' (n0 + 4) (n0 + 2) (n0 + 3) (rawInt s.heap.objs.size) → TupAt h' (n0 + 2) [.ref (n0 + 0), .ref (n0 + 1)] → TupAt h' (n0 + 3) [x1, x2] → ItAt h' (n0 + 0) σ1 (k + 1) → ItAt h' (n0 + 1) σ2 (k + 1) → TupAt h' s.heap.objs.size [x1, x2] → h'.objs.size = s.heap.objs.size + 1 →
      (∀ c o, c ≠ (n0 + 4) → c ≠ (n0 + 3) → c ≠ (n0 + 0) → c ≠ (n0 + 1) → s.heap.get? c = some o → h'.get? c = some o) → Q (some (.ref s.heap.objs.size)) { s with heap := h', toks := tk }) :
    wpAny (model prog w) A (pyNext (.ref (n0 + 4))) Q E s := by
  have hT : s.TypeIs (.ref (n0 + 4)) "zip" := ⟨_, hz, rfl⟩
  unfold pyNext
  exact wpAny_bind (wpAny_attempt (wpAny_callSpecial?_slot (name := Str.ofString "__next__") hT F.slot_zip_next
    (wpAny_call_entry F.slot_zip_next hT F.entry_zip_next
      (zip2_item hz hTI hTO f1 w1 c1 o1 f2 w2 c2 o2 m1 m2 fun h' tk x1 x2 q0 q1 q2 q3 q4 q5 q6 q7 q8 q9 => wpAny_pure (hQ h' tk x1 x2 q0 q1 q2 q3 q4 q5 q6 q7 q8 q9)) (F.args_zip_next_1 _))))
theorem pyNext_zip2_end {n0 k : Nat} {σ1 σ2 : Src} {v1 v2 : List Value} {a1 a2 : Value} {Q : Option Value → Shared → Prop} (hh : A.handled = none) (hz : ZipAt s.heap (n0 + 4) (n0 + 2) (n0 + 3) .none) (hTI : TupAt s.heap (n0 + 2) [.ref (n0 + 0), .ref (n0 + 1)]) (hTO : TupAt s.heap (n0 + 3) [a1, a2])
    (f1 : σ1.fit) (w1 : ItAt s.heap (n0 + 0) σ1 k) (c1 : Cont s.heap σ1 v1) (o1 : ∀ b, n0 ≤ b → σ1.off b) (f2 : σ2.fit) (w2 : ItAt s.heap (n0 + 1) σ2 k) (c2 : Cont s.heap σ2 v2) (o2 : ∀ b, n0 ≤ b → σ2.off b) (m : Done σ1 v1 k ∨ Done σ2 v2 k)
    (hQ : ∀ h' tk, (∀ c o, c ≠ (n0 + 4) → c ≠ (n0 + 3) → c ≠ (n0 + 0) → c ≠ (n0 + 1) → s.heap.get? c = some o → h'.get? c = some o) → Q none { s with heap := h', toks := tk }) : wpAny (model prog w) A (pyNext (.ref (n0 + 4))) Q E s := by
  have hT : s.TypeIs (.ref (n0 + 4)) "zip" := ⟨_, hz, rfl⟩
  unfold pyNext
  refine wpAny_bind (wpAny_attempt (wpAny_callSpecial?_slot (name := Str.ofString "__next__") hT F.slot_zip_next
    (wpAny_call_entry F.slot_zip_next hT F.entry_zip_next (zip2_end hh hz hTI hTO f1 w1 c1 o1 f2 w2 c2 o2 m fun h' tk e hk he => ?_) (F.args_zip_next_1 _))))
  obtain ⟨o, ho, hc⟩ := he
  refine wpAny_bind (wpAny_isInstance (T := "StopIteration") (b := true) ⟨o, ho, hc⟩ isSubtype_stop ?_)
  exact wpAny_pure (hQ _ tk hk)
end

/-- what stands at q1.. at each turn, the items in new tuples -/
def Izs2 (K : PySem.W.Frag) (q1 q2 : VS) : It :=
  ⟨fun i H => ∃ (l1 l2 : List V) (x1 x2 : V), VIt K H q1 l1 ∧ l1[i]? = some x1 ∧ VIt K H q2 l2 ∧ l2[i]? = some x2,
    fun i H v H' => ∃ T x1 x2, v = .ref T ∧ H T = none ∧ H' = upd H T (.tup [x1, x2]) ∧ (∀ l, VIt K H q1 l → l[i]? = some x1) ∧ ∀ l, VIt K H q2 l → l[i]? = some x2,
    fun i H => ∃ l1 l2 : List V, VIt K H q1 l1 ∧ VIt K H q2 l2 ∧ (l1.length ≤ i ∨ l2.length ≤ i)⟩
theorem zs2_it {P : Program} {w : World} {K : PySem.W.Frag} {elts : List PySem.Expr} {kk : Nat} {tpos : Pos} {q1 q2 : VS} {z1 z2 : Src} {n0 : Nat} (s1 : SrcOf q1 z1) (f1 : z1.fit) (o1 : ∀ b, n0 ≤ b → z1.off b) (s2 : SrcOf q2 z2) (f2 : z2.fit) (o2 : ∀ b, n0 ≤ b → z2.off b) :
    ∀ (X : Cx), X.prog = P → X.w = w → X.K = K → ∀ (i : Nat) (pins : List (Addr × Obj)) (s : Shared) (σ : L2.St) (H : Hp) (E : Value → Shared → Prop), L2.Inv X pins σ H s → (∀ b ∈ [(n0 + 4), (n0 + 2), (n0 + 3), (n0 + 0), (n0 + 1)], FpOk X pins H b) → (fun i h => ZipAt h (n0 + 4) (n0 + 2) (n0 + 3) .none ∧ TupAt h (n0 + 2) [.ref (n0 + 0), .ref (n0 + 1)] ∧ (∃ a1 a2, TupAt h (n0 + 3) [a1, a2]) ∧ ItAt h (n0 + 0) z1 i ∧ ItAt h (n0 + 1) z2 i) i s.heap → (Izs2 K q1 q2).go i H →
    wpAny (model P w) X.A (pyNext (.ref (n0 + 4))) (fun r s1 => ∃ u, r = some u ∧
      wpAny (model P w) X.A (letOwnedTupleGo (.Tuple elts kk tpos) (.ref (n0 + 4)) u) (fun _ s2 => ∃ x H', L2.Inv X pins σ H' s2 ∧ RelV x u ∧ (Izs2 K q1 q2).yld i H x H' ∧ (fun i h => ZipAt h (n0 + 4) (n0 + 2) (n0 + 3) .none ∧ TupAt h (n0 + 2) [.ref (n0 + 0), .ref (n0 + 1)] ∧ (∃ a1 a2, TupAt h (n0 + 3) [a1, a2]) ∧ ItAt h (n0 + 0) z1 i ∧ ItAt h (n0 + 1) z2 i) (i + 1) s2.heap ∧ ∀ b ∈ [(n0 + 4), (n0 + 2), (n0 + 3), (n0 + 0), (n0 + 1)], H' b = none) E s1) E s := by
  intro X hP hw hK i pins s σ H E I hf st hg
  subst hP hw hK
  obtain ⟨hz, hTI, ⟨a1, a2, hTO⟩, h1, h2⟩ := st
  obtain ⟨l1, l2, x1, x2, y1, g1, y2, g2⟩ := hg
  obtain ⟨t1, c1, m1, _⟩ := vit_in I s1 y1
  obtain ⟨m1, r1⟩ := m1 i x1 g1
  obtain ⟨t2, c2, m2, _⟩ := vit_in I s2 y2
  obtain ⟨m2, r2⟩ := m2 i x2 g2
  have hzl : (n0 + 4) < s.heap.objs.size := Heap.lt_size hz
  refine pyNext_zip2_item hz hTI hTO f1 h1 c1 o1 f2 h2 c2 o2 m1 m2 fun h' tk u1 u2 i1 i2 z' TI' TO' n1 n2 hT hsz hk => ?_
  refine ⟨_, rfl, wpAny_letOwnedTupleGo_zip (s := { s with heap := h', toks := tk }) z' fun h'' z'' sb => ?_⟩
  have hT2 : h''.get? s.heap.objs.size = some { cls := .type "tuple", data := .seq #[u1, u2] } := (sb.2 _ (Nat.ne_of_gt hzl)).trans hT
  have new : ObjOk X.prog X.w (upd H s.heap.objs.size (.tup [x1, x2])) h'' s.heap.objs.size (.tup [x1, x2]) :=
    ⟨by show 2 ≤ sizeLine; exact Nat.le_of_ble_eq_true rfl, [u1, u2], .cons (r1 _ i1) (.cons (r2 _ i2) (.nil)), ⟨_, hT2, rfl, _, rfl⟩⟩
  have I1 : Inv X pins σ (upd H s.heap.objs.size (.tup [x1, x2])) { s with heap := h'', toks := tk } :=
    I.turnedNew (ch := [(n0 + 4), (n0 + 2), (n0 + 3), (n0 + 0), (n0 + 1)]) (fun c o hb q => (sb.2 c (fun q' => hb (by simp [q']))).trans (hk c o (fun q' => hb (by simp [q'])) (fun q' => hb (by simp [q'])) (fun q' => hb (by simp [q'])) (fun q' => hb (by simp [q'])) q)) hf (Nat.le_refl _) new
  refine ⟨.ref s.heap.objs.size, _, I1, rfl, ⟨_, x1, x2, rfl, I.hok.fresh (Nat.le_refl _), rfl, fun l hl => by rw [vit_inj I hl y1]; exact g1, fun l hl => by rw [vit_inj I hl y2]; exact g2⟩, ⟨z'', ?_, ⟨u1, u2, ?_⟩, ?_, ?_⟩, fun c hcm => ?_⟩
  · exact (sb.2 _ (succ_ne _ (by decide))).trans TI'
  · exact (sb.2 _ (succ_ne _ (by decide))).trans TO'
  · exact n1.at fun o q => (sb.2 _ (succ_ne _ (by decide))).trans q
  · exact n2.at fun o q => (sb.2 _ (succ_ne _ (by decide))).trans q
  · have hlt : c < s.heap.objs.size := by
      have e' : c = (n0 + 4) ∨ c = (n0 + 2) ∨ c = (n0 + 3) ∨ c = (n0 + 0) ∨ c = (n0 + 1) := by simpa using hcm
      rcases e' with q | q | q | q | q
      · rw [q]; exact hzl
      · rw [q]; exact Heap.lt_size hTI
      · rw [q]; exact Heap.lt_size hTO
      · rw [q]; exact h1.lt
      · rw [q]; exact h2.lt
    rw [upd_ne (Nat.ne_of_lt hlt)]
    exact (hf c hcm).1
theorem turn_zs2 {P : Program} {w : World} {K : PySem.W.Frag} {elts : List PySem.Expr} {kk : Nat} {tpos : Pos} {q1 q2 : VS} {z1 z2 : Src} {n0 : Nat} (s1 : SrcOf q1 z1) (f1 : z1.fit) (o1 : ∀ b, n0 ≤ b → z1.off b) (s2 : SrcOf q2 z2) (f2 : z2.fit) (o2 : ∀ b, n0 ≤ b → z2.off b) :
    Turn P w K (.Tuple elts kk tpos) (Izs2 K q1 q2) [(n0 + 4), (n0 + 2), (n0 + 3), (n0 + 0), (n0 + 1)] (n0 + 4) (fun i h => ZipAt h (n0 + 4) (n0 + 2) (n0 + 3) .none ∧ TupAt h (n0 + 2) [.ref (n0 + 0), .ref (n0 + 1)] ∧ (∃ a1 a2, TupAt h (n0 + 3) [a1, a2]) ∧ ItAt h (n0 + 0) z1 i ∧ ItAt h (n0 + 1) z2 i) where
  mem := by simp
  obj := fun i h st c hc => by
    obtain ⟨hz, hTI, ⟨a1, a2, hTO⟩, ⟨b1, e1, _, d1⟩, ⟨b2, e2, _, d2⟩⟩ := st
    have e' : c = (n0 + 4) ∨ c = (n0 + 2) ∨ c = (n0 + 3) ∨ c = (n0 + 0) ∨ c = (n0 + 1) := by simpa using hc
    rcases e' with q | q | q | q | q
    · rw [q]; exact ⟨_, hz, fun v q => nomatch q⟩
    · rw [q]; exact ⟨_, hTI, fun v q => nomatch q⟩
    · rw [q]; exact ⟨_, hTO, fun v q => nomatch q⟩
    · rw [q]; exact ⟨b1, e1, fun v q => by rw [d1] at q; cases q⟩
    · rw [q]; exact ⟨b2, e2, fun v q => by rw [d2] at q; cases q⟩
  keep := fun i h h' st k => by
    obtain ⟨hz, hTI, ⟨a1, a2, hTO⟩, h1, h2⟩ := st
    exact ⟨k (n0 + 4) (by simp) _ hz, k (n0 + 2) (by simp) _ hTI, ⟨a1, a2, k (n0 + 3) (by simp) _ hTO⟩, h1.at fun o q => k (n0 + 0) (by simp) o q, h2.at fun o q => k (n0 + 1) (by simp) o q⟩
  item := fun X hP hw hK hc => zs2_it s1 f1 o1 s2 f2 o2 X hP hw hK
  done := by
    intro X hP hw hK hc i pins s σ H E I hf st hg
    subst hP hw hK
    obtain ⟨hz, hTI, ⟨a1, a2, hTO⟩, h1, h2⟩ := st
    obtain ⟨l1, l2, y1, y2, hend⟩ := hg
    obtain ⟨t1, c1, _, d1⟩ := vit_in I s1 y1
    obtain ⟨t2, c2, _, d2⟩ := vit_in I s2 y2
    have he : Done z1 t1 i ∨ Done z2 t2 i := by
      rcases hend with q | q
      · exact .inl (d1 i q)
      · exact .inr (d2 i q)
    exact pyNext_zip2_end (I.ok.hd hc) hz hTI hTO f1 h1 c1 o1 f2 h2 c2 o2 he fun h' tk hk => ⟨rfl, I.turnedL (t' := tk) (ch := [(n0 + 4), (n0 + 2), (n0 + 3), (n0 + 0), (n0 + 1)]) (fun c o hb q =>
      hk c o (fun q' => hb (by simp [q'])) (fun q' => hb (by simp [q'])) (fun q' => hb (by simp [q'])) (fun q' => hb (by simp [q'])) q) hf⟩
  self := fun A i s Q E st h => wpAny_pyIter_zip st.1 h
def iZs2 (K : PySem.W.Frag) (ta : TA) : TI := fun σ H R => ta σ H fun vs H1 => ∃ (q1 q2 : VS) (l1 l2 : List V), vs = [q1.v, q2.v] ∧ VIt K H1 q1 l1 ∧ VIt K H1 q2 l2 ∧ R (Izs2 K q1 q2) H1

theorem pi_zs2 {X : Cx} {e1 e2 : PySem.Expr} {ta : TA} {p pos tpos : Pos} {elts : List PySem.Expr} {kk : Nat} (hg : Gl X "zip") (hm : X.mg "zip" = none) (ha : PA X [e1, e2] ta)
    (hs : starEach [e1, e2] X.env = (false, eval e1 X.env) :: starEach [e2] X.env) (hpl : (backTo pos (starEach [e2] X.env)).any (·.1) = false) :
    PI X (.Tuple elts kk tpos) (.Call (.Name "zip" p) [e1, e2] [] pos) (iZs2 X.K ta) := by
  refine ⟨fun pins s σ H R I h => ?_⟩
  refine Call_ (ld_blt I hg hm PyProof.Rows.boot_zip (PyProof.Rows.callWith_type1 (thn (ha.run pos pins s σ H _ I h) fun us s1 ⟨vs, H1, I1, r1, w1⟩ => ?_) hs hpl))
  obtain ⟨q1, q2, l1, l2, ex, y1, y2, q⟩ := w1
  subst ex
  obtain _ | ⟨r1a, r1⟩ := r1
  obtain ⟨z1, so1, b1, f1⟩ := src_of r1a
  subst b1
  obtain ⟨t1, c1, _, _⟩ := vit_in I1 so1 y1
  obtain _ | ⟨r2, r1⟩ := r1
  obtain ⟨z2, so2, b2, f2⟩ := src_of r2
  subst b2
  obtain ⟨t2, c2, _, _⟩ := vit_in I1 so2 y2
  cases r1
  refine zip_begins2 (begins_src z1 f1 t1) (begins_src z2 f2 t2) c1 c2 fun h' hz hTI hTO h1 h2 hsz hk => ?_
  refine wpAny_pyIter_zip hz ?_
  have I2 : L2.Inv X pins σ H1 { s1 with heap := h' } := I1.kept (t' := s1.toks) hk
  refine ⟨s1.heap.objs.size + 4, _, _, _, H1, rfl, I2, turn_zs2 (n0 := s1.heap.objs.size) so1 f1 (vit_off I1 so1 y1 (Nat.le_refl _)) so2 f2 (vit_off I1 so2 y2 (Nat.le_refl _)), ⟨hz, hTI, ⟨_, _, hTO⟩, itAt_new h1, itAt_new h2⟩, fun c hcm => ?_, q⟩
  have hle : s1.heap.objs.size ≤ c := by
    simp only [List.mem_cons, List.not_mem_nil, or_false] at hcm
    rcases hcm with q | q | q | q | q <;> rw [q] <;> exact Nat.le_add_right _ _
  exact I1.fpOk hle (I1.hok.fresh hle)

section
variable {prog : Program} {w : World} {A : Around} {E : Value → Shared → Prop} {s : Shared}
theorem pyNext_zip3_item {n0 k : Nat} {σ1 σ2 σ3 : Src} {v1 v2 v3 : List Value} {a1 a2 a3 : Value} {Q : Option Value → Shared → Prop} (hz : ZipAt s.heap (n0 + 5) (n0 + 3) (n0 + 4) .none) (hTI : TupAt s.heap (n0 + 3) [.ref (n0 + 0), .ref (n0 + 1), .ref (n0 + 2)]) (hTO : TupAt s.heap (n0 + 4) [a1, a2, a3])
    (f1 : σ1.fit) (w1 : ItAt s.heap (n0 + 0) σ1 k) (c1 : Cont s.heap σ1 v1) (o1 : ∀ b, n0 ≤ b → σ1.off b) (f2 : σ2.fit) (w2 : ItAt s.heap (n0 + 1) σ2 k) (c2 : Cont s.heap σ2 v2) (o2 : ∀ b, n0 ≤ b → σ2.off b) (f3 : σ3.fit) (w3 : ItAt s.heap (n0 + 2) σ3 k) (c3 : Cont s.heap σ3 v3) (o3 : ∀ b, n0 ≤ b → σ3.off b) (m1 : More σ1 v1 k) (m2 : More σ2 v2 k) (m3 : More σ3 v3 k)
    (hQ : ∀ h' tk x1 x2 x3, ItemV σ1 v1 k x1 → ItemV σ2 v2 k x2 → ItemV σ3 v3 k x3 → ZipAt h' (n0 + 5) (n0 + 3) (n0 + 4) (rawInt s.heap.objs.size) → TupAt h' (n0 + 3) [.ref (n0 + 0), .ref (n0 + 1), .ref (n0 + 2)] → TupAt h' (n0 + 4) [x1, x2, x3] → ItAt h' (n0 + 0) σ1 (k + 1) → ItAt h' (n0 + 1) σ2 (k + 1) → ItAt h' (n0 + 2) σ3 (k + 1) → TupAt h' s.heap.objs.size [x1, x2, x3] → h'.objs.size = s.heap.objs.size + 1 →
      (∀ c o, c ≠ (n0 + 5) → c ≠ (n0 + 4) → c ≠ (n0 + 0) → c ≠ (n0 + 1) → c ≠ (n0 + 2) → s.heap.get? c = some o → h'.get? c = some o) → Q (some (.ref s.heap.objs.size)) { s with heap := h', toks := tk }) :
    wpAny (model prog w) A (pyNext (.ref (n0 + 5))) Q E s := by
  have hT : s.TypeIs (.ref (n0 + 5)) "zip" := ⟨_, hz, rfl⟩
  unfold pyNext
  exact wpAny_bind (wpAny_attempt (wpAny_callSpecial?_slot (name := Str.ofString "__next__") hT F.slot_zip_next
    (wpAny_call_entry F.slot_zip_next hT F.entry_zip_next
      (zip3_item hz hTI hTO f1 w1 c1 o1 f2 w2 c2 o2 f3 w3 c3 o3 m1 m2 m3 fun h' tk x1 x2 x3 q0 q1 q2 q3 q4 q5 q6 q7 q8 q9 q10 q11 => wpAny_pure (hQ h' tk x1 x2 x3 q0 q1 q2 q3 q4 q5 q6 q7 q8 q9 q10 q11)) (F.args_zip_next_1 _))))
theorem pyNext_zip3_end {n0 k : Nat} {σ1 σ2 σ3 : Src} {v1 v2 v3 : List Value} {a1 a2 a3 : Value} {Q : Option Value → Shared → Prop} (hh : A.handled = none) (hz : ZipAt s.heap (n0 + 5) (n0 + 3) (n0 + 4) .none) (hTI : TupAt s.heap (n0 + 3) [.ref (n0 + 0), .ref (n0 + 1), .ref (n0 + 2)]) (hTO : TupAt s.heap (n0 + 4) [a1, a2, a3])
    (f1 : σ1.fit) (w1 : ItAt s.heap (n0 + 0) σ1 k) (c1 : Cont s.heap σ1 v1) (o1 : ∀ b, n0 ≤ b → σ1.off b) (f2 : σ2.fit) (w2 : ItAt s.heap (n0 + 1) σ2 k) (c2 : Cont s.heap σ2 v2) (o2 : ∀ b, n0 ≤ b → σ2.off b) (f3 : σ3.fit) (w3 : ItAt s.heap (n0 + 2) σ3 k) (c3 : Cont s.heap σ3 v3) (o3 : ∀ b, n0 ≤ b → σ3.off b) (m : Done σ1 v1 k ∨ Done σ2 v2 k ∨ Done σ3 v3 k)
    (hQ : ∀ h' tk, (∀ c o, c ≠ (n0 + 5) → c ≠ (n0 + 4) → c ≠ (n0 + 0) → c ≠ (n0 + 1) → c ≠ (n0 + 2) → s.heap.get? c = some o → h'.get? c = some o) → Q none { s with heap := h', toks := tk }) : wpAny (model prog w) A (pyNext (.ref (n0 + 5))) Q E s := by
  have hT : s.TypeIs (.ref (n0 + 5)) "zip" := ⟨_, hz, rfl⟩
  unfold pyNext
  refine wpAny_bind (wpAny_attempt (wpAny_callSpecial?_slot (name := Str.ofString "__next__") hT F.slot_zip_next
    (wpAny_call_entry F.slot_zip_next hT F.entry_zip_next (zip3_end hh hz hTI hTO f1 w1 c1 o1 f2 w2 c2 o2 f3 w3 c3 o3 m fun h' tk e hk he => ?_) (F.args_zip_next_1 _))))
  obtain ⟨o, ho, hc⟩ := he
  refine wpAny_bind (wpAny_isInstance (T := "StopIteration") (b := true) ⟨o, ho, hc⟩ isSubtype_stop ?_)
  exact wpAny_pure (hQ _ tk hk)
end

/-- what stands at q1.. at each turn, the items in new tuples -/
def Izs3 (K : PySem.W.Frag) (q1 q2 q3 : VS) : It :=
  ⟨fun i H => ∃ (l1 l2 l3 : List V) (x1 x2 x3 : V), VIt K H q1 l1 ∧ l1[i]? = some x1 ∧ VIt K H q2 l2 ∧ l2[i]? = some x2 ∧ VIt K H q3 l3 ∧ l3[i]? = some x3,
    fun i H v H' => ∃ T x1 x2 x3, v = .ref T ∧ H T = none ∧ H' = upd H T (.tup [x1, x2, x3]) ∧ (∀ l, VIt K H q1 l → l[i]? = some x1) ∧ (∀ l, VIt K H q2 l → l[i]? = some x2) ∧ ∀ l, VIt K H q3 l → l[i]? = some x3,
    fun i H => ∃ l1 l2 l3 : List V, VIt K H q1 l1 ∧ VIt K H q2 l2 ∧ VIt K H q3 l3 ∧ (l1.length ≤ i ∨ l2.length ≤ i ∨ l3.length ≤ i)⟩
theorem zs3_it {P : Program} {w : World} {K : PySem.W.Frag} {elts : List PySem.Expr} {kk : Nat} {tpos : Pos} {q1 q2 q3 : VS} {z1 z2 z3 : Src} {n0 : Nat} (s1 : SrcOf q1 z1) (f1 : z1.fit) (o1 : ∀ b, n0 ≤ b → z1.off b) (s2 : SrcOf q2 z2) (f2 : z2.fit) (o2 : ∀ b, n0 ≤ b → z2.off b) (s3 : SrcOf q3 z3) (f3 : z3.fit) (o3 : ∀ b, n0 ≤ b → z3.off b) :
    ∀ (X : Cx), X.prog = P → X.w = w → X.K = K → ∀ (i : Nat) (pins : List (Addr × Obj)) (s : Shared) (σ : L2.St) (H : Hp) (E : Value → Shared → Prop), L2.Inv X pins σ H s → (∀ b ∈ [(n0 + 5), (n0 + 3), (n0 + 4), (n0 + 0), (n0 + 1), (n0 + 2)], FpOk X pins H b) → (fun i h => ZipAt h (n0 + 5) (n0 + 3) (n0 + 4) .none ∧ TupAt h (n0 + 3) [.ref (n0 + 0), .ref (n0 + 1), .ref (n0 + 2)] ∧ (∃ a1 a2 a3, TupAt h (n0 + 4) [a1, a2, a3]) ∧ ItAt h (n0 + 0) z1 i ∧ ItAt h (n0 + 1) z2 i ∧ ItAt h (n0 + 2) z3 i) i s.heap → (Izs3 K q1 q2 q3).go i H →
    wpAny (model P w) X.A (pyNext (.ref (n0 + 5))) (fun r s1 => ∃ u, r = some u ∧
      wpAny (model P w) X.A (letOwnedTupleGo (.Tuple elts kk tpos) (.ref (n0 + 5)) u) (fun _ s2 => ∃ x H', L2.Inv X pins σ H' s2 ∧ RelV x u ∧ (Izs3 K q1 q2 q3).yld i H x H' ∧ (fun i h => ZipAt h (n0 + 5) (n0 + 3) (n0 + 4) .none ∧ TupAt h (n0 + 3) [.ref (n0 + 0), .ref (n0 + 1), .ref (n0 + 2)] ∧ (∃ a1 a2 a3, TupAt h (n0 + 4) [a1, a2, a3]) ∧ ItAt h (n0 + 0) z1 i ∧ ItAt h (n0 + 1) z2 i ∧ ItAt h (n0 + 2) z3 i) (i + 1) s2.heap ∧ ∀ b ∈ [(n0 + 5), (n0 + 3), (n0 + 4), (n0 + 0), (n0 + 1), (n0 + 2)], H' b = none) E s1) E s := by
  intro X hP hw hK i pins s σ H E I hf st hg
  subst hP hw hK
  obtain ⟨hz, hTI, ⟨a1, a2, a3, hTO⟩, h1, h2, h3⟩ := st
  obtain ⟨l1, l2, l3, x1, x2, x3, y1, g1, y2, g2, y3, g3⟩ := hg
  obtain ⟨t1, c1, m1, _⟩ := vit_in I s1 y1
  obtain ⟨m1, r1⟩ := m1 i x1 g1
  obtain ⟨t2, c2, m2, _⟩ := vit_in I s2 y2
  obtain ⟨m2, r2⟩ := m2 i x2 g2
  obtain ⟨t3, c3, m3, _⟩ := vit_in I s3 y3
  obtain ⟨m3, r3⟩ := m3 i x3 g3
  have hzl : (n0 + 5) < s.heap.objs.size := Heap.lt_size hz
  refine pyNext_zip3_item hz hTI hTO f1 h1 c1 o1 f2 h2 c2 o2 f3 h3 c3 o3 m1 m2 m3 fun h' tk u1 u2 u3 i1 i2 i3 z' TI' TO' n1 n2 n3 hT hsz hk => ?_
  refine ⟨_, rfl, wpAny_letOwnedTupleGo_zip (s := { s with heap := h', toks := tk }) z' fun h'' z'' sb => ?_⟩
  have hT2 : h''.get? s.heap.objs.size = some { cls := .type "tuple", data := .seq #[u1, u2, u3] } := (sb.2 _ (Nat.ne_of_gt hzl)).trans hT
  have new : ObjOk X.prog X.w (upd H s.heap.objs.size (.tup [x1, x2, x3])) h'' s.heap.objs.size (.tup [x1, x2, x3]) :=
    ⟨by show 3 ≤ sizeLine; exact Nat.le_of_ble_eq_true rfl, [u1, u2, u3], .cons (r1 _ i1) (.cons (r2 _ i2) (.cons (r3 _ i3) (.nil))), ⟨_, hT2, rfl, _, rfl⟩⟩
  have I1 : Inv X pins σ (upd H s.heap.objs.size (.tup [x1, x2, x3])) { s with heap := h'', toks := tk } :=
    I.turnedNew (ch := [(n0 + 5), (n0 + 3), (n0 + 4), (n0 + 0), (n0 + 1), (n0 + 2)]) (fun c o hb q => (sb.2 c (fun q' => hb (by simp [q']))).trans (hk c o (fun q' => hb (by simp [q'])) (fun q' => hb (by simp [q'])) (fun q' => hb (by simp [q'])) (fun q' => hb (by simp [q'])) (fun q' => hb (by simp [q'])) q)) hf (Nat.le_refl _) new
  refine ⟨.ref s.heap.objs.size, _, I1, rfl, ⟨_, x1, x2, x3, rfl, I.hok.fresh (Nat.le_refl _), rfl, fun l hl => by rw [vit_inj I hl y1]; exact g1, fun l hl => by rw [vit_inj I hl y2]; exact g2, fun l hl => by rw [vit_inj I hl y3]; exact g3⟩, ⟨z'', ?_, ⟨u1, u2, u3, ?_⟩, ?_, ?_, ?_⟩, fun c hcm => ?_⟩
  · exact (sb.2 _ (succ_ne _ (by decide))).trans TI'
  · exact (sb.2 _ (succ_ne _ (by decide))).trans TO'
  · exact n1.at fun o q => (sb.2 _ (succ_ne _ (by decide))).trans q
  · exact n2.at fun o q => (sb.2 _ (succ_ne _ (by decide))).trans q
  · exact n3.at fun o q => (sb.2 _ (succ_ne _ (by decide))).trans q
  · have hlt : c < s.heap.objs.size := by
      have e' : c = (n0 + 5) ∨ c = (n0 + 3) ∨ c = (n0 + 4) ∨ c = (n0 + 0) ∨ c = (n0 + 1) ∨ c = (n0 + 2) := by simpa using hcm
      rcases e' with q | q | q | q | q | q
      · rw [q]; exact hzl
      · rw [q]; exact Heap.lt_size hTI
      · rw [q]; exact Heap.lt_size hTO
      · rw [q]; exact h1.lt
      · rw [q]; exact h2.lt
      · rw [q]; exact h3.lt
    rw [upd_ne (Nat.ne_of_lt hlt)]
    exact (hf c hcm).1
theorem turn_zs3 {P : Program} {w : World} {K : PySem.W.Frag} {elts : List PySem.Expr} {kk : Nat} {tpos : Pos} {q1 q2 q3 : VS} {z1 z2 z3 : Src} {n0 : Nat} (s1 : SrcOf q1 z1) (f1 : z1.fit) (o1 : ∀ b, n0 ≤ b → z1.off b) (s2 : SrcOf q2 z2) (f2 : z2.fit) (o2 : ∀ b, n0 ≤ b → z2.off b) (s3 : SrcOf q3 z3) (f3 : z3.fit) (o3 : ∀ b, n0 ≤ b → z3.off b) :
    Turn P w K (.Tuple elts kk tpos) (Izs3 K q1 q2 q3) [(n0 + 5), (n0 + 3), (n0 + 4), (n0 + 0), (n0 + 1), (n0 + 2)] (n0 + 5) (fun i h => ZipAt h (n0 + 5) (n0 + 3) (n0 + 4) .none ∧ TupAt h (n0 + 3) [.ref (n0 + 0), .ref (n0 + 1), .ref (n0 + 2)] ∧ (∃ a1 a2 a3, TupAt h (n0 + 4) [a1, a2, a3]) ∧ ItAt h (n0 + 0) z1 i ∧ ItAt h (n0 + 1) z2 i ∧ ItAt h (n0 + 2) z3 i) where
  mem := by simp
  obj := fun i h st c hc => by
    obtain ⟨hz, hTI, ⟨a1, a2, a3, hTO⟩, ⟨b1, e1, _, d1⟩, ⟨b2, e2, _, d2⟩, ⟨b3, e3, _, d3⟩⟩ := st
    have e' : c = (n0 + 5) ∨ c = (n0 + 3) ∨ c = (n0 + 4) ∨ c = (n0 + 0) ∨ c = (n0 + 1) ∨ c = (n0 + 2) := by simpa using hc
    rcases e' with q | q | q | q | q | q
    · rw [q]; exact ⟨_, hz, fun v q => nomatch q⟩
    · rw [q]; exact ⟨_, hTI, fun v q => nomatch q⟩
    · rw [q]; exact ⟨_, hTO, fun v q => nomatch q⟩
    · rw [q]; exact ⟨b1, e1, fun v q => by rw [d1] at q; cases q⟩
    · rw [q]; exact ⟨b2, e2, fun v q => by rw [d2] at q; cases q⟩
    · rw [q]; exact ⟨b3, e3, fun v q => by rw [d3] at q; cases q⟩
  keep := fun i h h' st k => by
    obtain ⟨hz, hTI, ⟨a1, a2, a3, hTO⟩, h1, h2, h3⟩ := st
    exact ⟨k (n0 + 5) (by simp) _ hz, k (n0 + 3) (by simp) _ hTI, ⟨a1, a2, a3, k (n0 + 4) (by simp) _ hTO⟩, h1.at fun o q => k (n0 + 0) (by simp) o q, h2.at fun o q => k (n0 + 1) (by simp) o q, h3.at fun o q => k (n0 + 2) (by simp) o q⟩
  item := fun X hP hw hK hc => zs3_it s1 f1 o1 s2 f2 o2 s3 f3 o3 X hP hw hK
  done := by
    intro X hP hw hK hc i pins s σ H E I hf st hg
    subst hP hw hK
    obtain ⟨hz, hTI, ⟨a1, a2, a3, hTO⟩, h1, h2, h3⟩ := st
    obtain ⟨l1, l2, l3, y1, y2, y3, hend⟩ := hg
    obtain ⟨t1, c1, _, d1⟩ := vit_in I s1 y1
    obtain ⟨t2, c2, _, d2⟩ := vit_in I s2 y2
    obtain ⟨t3, c3, _, d3⟩ := vit_in I s3 y3
    have he : Done z1 t1 i ∨ Done z2 t2 i ∨ Done z3 t3 i := by
      rcases hend with q | q | q
      · exact .inl (d1 i q)
      · exact .inr (.inl (d2 i q))
      · exact .inr (.inr (d3 i q))
    exact pyNext_zip3_end (I.ok.hd hc) hz hTI hTO f1 h1 c1 o1 f2 h2 c2 o2 f3 h3 c3 o3 he fun h' tk hk => ⟨rfl, I.turnedL (t' := tk) (ch := [(n0 + 5), (n0 + 3), (n0 + 4), (n0 + 0), (n0 + 1), (n0 + 2)]) (fun c o hb q =>
      hk c o (fun q' => hb (by simp [q'])) (fun q' => hb (by simp [q'])) (fun q' => hb (by simp [q'])) (fun q' => hb (by simp [q'])) (fun q' => hb (by simp [q'])) q) hf⟩
  self := fun A i s Q E st h => wpAny_pyIter_zip st.1 h
def iZs3 (K : PySem.W.Frag) (ta : TA) : TI := fun σ H R => ta σ H fun vs H1 => ∃ (q1 q2 q3 : VS) (l1 l2 l3 : List V), vs = [q1.v, q2.v, q3.v] ∧ VIt K H1 q1 l1 ∧ VIt K H1 q2 l2 ∧ VIt K H1 q3 l3 ∧ R (Izs3 K q1 q2 q3) H1

theorem pi_zs3 {X : Cx} {e1 e2 e3 : PySem.Expr} {ta : TA} {p pos tpos : Pos} {elts : List PySem.Expr} {kk : Nat} (hg : Gl X "zip") (hm : X.mg "zip" = none) (ha : PA X [e1, e2, e3] ta)
    (hs : starEach [e1, e2, e3] X.env = (false, eval e1 X.env) :: starEach [e2, e3] X.env) (hpl : (backTo pos (starEach [e2, e3] X.env)).any (·.1) = false) :
    PI X (.Tuple elts kk tpos) (.Call (.Name "zip" p) [e1, e2, e3] [] pos) (iZs3 X.K ta) := by
  refine ⟨fun pins s σ H R I h => ?_⟩
  refine Call_ (ld_blt I hg hm PyProof.Rows.boot_zip (PyProof.Rows.callWith_type1 (thn (ha.run pos pins s σ H _ I h) fun us s1 ⟨vs, H1, I1, r1, w1⟩ => ?_) hs hpl))
  obtain ⟨q1, q2, q3, l1, l2, l3, ex, y1, y2, y3, q⟩ := w1
  subst ex
  obtain _ | ⟨r1a, r1⟩ := r1
  obtain ⟨z1, so1, b1, f1⟩ := src_of r1a
  subst b1
  obtain ⟨t1, c1, _, _⟩ := vit_in I1 so1 y1
  obtain _ | ⟨r2, r1⟩ := r1
  obtain ⟨z2, so2, b2, f2⟩ := src_of r2
  subst b2
  obtain ⟨t2, c2, _, _⟩ := vit_in I1 so2 y2
  obtain _ | ⟨r3, r1⟩ := r1
  obtain ⟨z3, so3, b3, f3⟩ := src_of r3
  subst b3
  obtain ⟨t3, c3, _, _⟩ := vit_in I1 so3 y3
  cases r1
  refine zip_begins3 (begins_src z1 f1 t1) (begins_src z2 f2 t2) (begins_src z3 f3 t3) c1 c2 c3 fun h' hz hTI hTO h1 h2 h3 hsz hk => ?_
  refine wpAny_pyIter_zip hz ?_
  have I2 : L2.Inv X pins σ H1 { s1 with heap := h' } := I1.kept (t' := s1.toks) hk
  refine ⟨s1.heap.objs.size + 5, _, _, _, H1, rfl, I2, turn_zs3 (n0 := s1.heap.objs.size) so1 f1 (vit_off I1 so1 y1 (Nat.le_refl _)) so2 f2 (vit_off I1 so2 y2 (Nat.le_refl _)) so3 f3 (vit_off I1 so3 y3 (Nat.le_refl _)), ⟨hz, hTI, ⟨_, _, _, hTO⟩, itAt_new h1, itAt_new h2, itAt_new h3⟩, fun c hcm => ?_, q⟩
  have hle : s1.heap.objs.size ≤ c := by
    simp only [List.mem_cons, List.not_mem_nil, or_false] at hcm
    rcases hcm with q | q | q | q | q | q <;> rw [q] <;> exact Nat.le_add_right _ _
  exact I1.fpOk hle (I1.hok.fresh hle)

def Src.adr : Src → List Addr
  | .lst l => [l] | .tup l => [l] | .str _ _ _ => []
def Src.len (its : List Value) : Src → Nat
  | .str x _ _ => x.cps.size | _ => its.length
theorem draws_src {prog : Program} {w : World} {A : Around} (hh : A.handled = none) (it : Addr) (z : Src) (its : List Value) (hf : z.fit) (ho : z.off it) :
    Draws prog w A it (it :: z.adr) (z.len its) (fun i v => ItemV z its i v) (fun i h => ItAt h it z i ∧ Cont h z its) where
  live := fun i h st => let ⟨o, ho, _⟩ := st.1; ⟨o, ho⟩
  frame := fun i h h' st k => ⟨st.1.at fun o q => k it (by simp) o q, by
    cases z with
    | lst l => exact Heap.IsList.at st.2 fun o e => k l (by simp [Src.adr]) o e
    | tup l => exact Heap.IsTuple.at st.2 fun o e => k l (by simp [Src.adr]) o e
    | str => trivial⟩
  item := fun i s Q E hi st hQ => nextS_item hf st.1 st.2 (by cases z <;> exact hi) fun h' tk v h1 h2 h3 => hQ v h' tk h3 ⟨h1, st.2.ext h2.extBut ho⟩ h2
  done := fun s Q E st hE => nextS_end hh hf st.1 st.2 (by cases z <;> exact Nat.le_refl _) hE
section
variable {prog : Program} {w : World} {A : Around} {E : Value → Shared → Prop} {s : Shared}
theorem pyNext_enum_end {e it : Addr} {k : Nat} {i : Int} {old : Value} {z : Src} {its : List Value} {Q : Option Value → Shared → Prop} (hh : A.handled = none) (he : IsEnum s.heap e it i old)
    (hf : z.fit) (hi : ItAt s.heap it z k) (hc : Cont s.heap z its) (hd : Done z its k)
    (hQ : ∀ h', Heap.ExtBut it s.heap h' → Q none { s with heap := h' }) : wpAny (model prog w) A (pyNext (.ref e)) Q E s := by
  have hT : s.TypeIs (.ref e) "enumerate" := ⟨_, he, rfl⟩
  unfold pyNext
  refine wpAny_bind (wpAny_attempt (wpAny_callSpecial?_slot (name := Str.ofString "__next__") hT F.slot_enumerate_next
    (wpAny_call_entry F.slot_enumerate_next hT F.entry_enumerate_next ?_ (F.args_enumerate_next_1 _))))
  show wpAny _ _ (field (.ref e) 2 >>= _) _ _ _
  refine wpAny_bind (wpAny_field he rfl (x := .ref it) rfl ?_)
  refine wpAny_bind (nextS_end hh hf hi hc hd fun h' x he' hx' => ?_)
  obtain ⟨o, ho, hc⟩ := hx'
  refine wpAny_bind (wpAny_isInstance (T := "StopIteration") (b := true) ⟨o, ho, hc⟩ isSubtype_stop ?_)
  exact wpAny_pure (hQ _ he')
end
/-- what stands at q at each turn, each item in a new pair -/
def Ies (K : PySem.W.Frag) (q : VS) : It :=
  ⟨fun i H => ∃ (xs : List V) (x : V), VIt K H q xs ∧ xs[i]? = some x, fun i H v H' => ∃ T x, v = .ref T ∧ H T = none ∧ H' = upd H T (.tup [.int (i : Nat), x]) ∧ ∀ xs, VIt K H q xs → xs[i]? = some x, fun i H => ∃ xs : List V, VIt K H q xs ∧ xs.length ≤ i⟩
theorem turn_es {P : Program} {w : World} {K : PySem.W.Frag} {elts : List PySem.Expr} {kk : Nat} {tpos : Pos} {q : VS} {z : Src} {it : Nat} (sq : SrcOf q z) (f : z.fit) (of : ∀ b, it ≤ b → z.off b) :
    Turn P w K (.Tuple elts kk tpos) (Ies K q) [it + 1, it] (it + 1) (fun i h => (∃ old, IsEnum h (it + 1) it ((i : Nat) : Int) old) ∧ ItAt h it z i) where
  mem := by simp
  obj := fun i h st b hb => by
    obtain ⟨⟨old, he⟩, ⟨o, ho, hc, hd⟩⟩ := st
    have e' : b = it + 1 ∨ b = it := by simpa using hb
    rcases e' with z | z
    · rw [z]; exact ⟨_, he, fun v q => nomatch q⟩
    · rw [z]; exact ⟨o, ho, fun v q => by rw [hd] at q; cases q⟩
  keep := fun i h h' st k => let ⟨⟨old, he⟩, hi⟩ := st; ⟨⟨old, k (it + 1) (by simp) _ he⟩, hi.at fun o q => k it (by simp) o q⟩
  item := by
    intro X hP hw hK hc i pins s σ H E I hf st hg
    subst hP hw hK
    obtain ⟨⟨old, he⟩, hit⟩ := st
    obtain ⟨xs, x, hq, hx⟩ := hg
    obtain ⟨t1, c1, m1, _⟩ := vit_in I sq hq
    obtain ⟨m1, r1⟩ := m1 i x hx
    have hel : it + 1 < s.heap.objs.size := Heap.lt_size he
    have hne : it + 1 ≠ it := Nat.succ_ne_self _
    have hne' : it ≠ it + 1 := Ne.symm hne
    have hoe : z.off (it + 1) := of _ (Nat.le_succ _)
    have hlt : i < z.len t1 := by cases z <;> exact m1
    have hnf : it + 1 ∉ it :: z.adr := by
      rw [List.mem_cons, not_or]
      refine ⟨hne, ?_⟩
      cases z with
      | lst l => exact fun q => (Ne.symm hoe) (List.mem_singleton.mp q)
      | tup l => exact fun q => (Ne.symm hoe) (List.mem_singleton.mp q)
      | str => exact fun q => nomatch q
    refine wpAny_pyNext_enum_itemD (draws_src (A := X.A.in1) (I.ok.hd hc) it z t1 f (of _ (Nat.le_refl _))) he ⟨hit, c1⟩ hlt hne hnf fun u h' tk iv ho st' hT hsz hk => ?_
    refine ⟨_, rfl, wpAny_letOwnedTupleGo_enum (s := { s with heap := h', toks := tk + 1 }) ho fun h'' he' sb => ?_⟩
    have hT2 : h''.get? s.heap.objs.size = some { cls := .type "tuple", data := .seq #[.int i tk, u] } := (sb.2 _ (Nat.ne_of_gt hel)).trans hT
    have new : ObjOk X.prog X.w (upd H s.heap.objs.size (.tup [.int (i : Nat), x])) h'' s.heap.objs.size (.tup [.int (i : Nat), x]) :=
      ⟨by show 2 ≤ sizeLine; decide, [.int i tk, u], .cons ⟨_, rfl⟩ (.cons (r1 _ iv) .nil), ⟨_, hT2, rfl, _, rfl⟩⟩
    have I1 : L2.Inv X pins σ (upd H s.heap.objs.size (.tup [.int (i : Nat), x])) { s with heap := h'', toks := tk + 1 } :=
      I.turnedNew (ch := [it + 1, it]) (fun b ob hb q => (sb.2 b (fun z => hb (by simp [z]))).trans (hk b ob (fun z => hb (by simp [z])) (fun z => hb (by simp [z])) q)) hf (Nat.le_refl _) new
    refine ⟨.ref s.heap.objs.size, _, I1, rfl, ⟨_, x, rfl, I.hok.fresh (Nat.le_refl _), rfl, fun ys hy => by rw [vit_inj I hy hq]; exact hx⟩, ⟨⟨u, ?_⟩, st'.1.at fun o q => (sb.2 it hne').trans q⟩, fun b hb => ?_⟩
    · have e1 : ((i + 1 : Nat) : Int) = (i : Int) + 1 := by omega
      rw [e1]; exact he'
    · have hb' : b < s.heap.objs.size := by
        have e' : b = it + 1 ∨ b = it := by simpa using hb
        rcases e' with z | z
        · rw [z]; exact hel
        · rw [z]; exact hit.lt
      rw [upd_ne (Nat.ne_of_lt hb')]
      exact (hf b hb).1
  done := by
    intro X hP hw hK hc i pins s σ H E I hf st hg
    subst hP hw hK
    obtain ⟨⟨old, he⟩, hit⟩ := st
    obtain ⟨xs, hq, hx⟩ := hg
    obtain ⟨t1, c1, _, d1⟩ := vit_in I sq hq
    obtain ⟨f0, f1, f2, f3, f4, f5⟩ := hf it (by simp)
    exact pyNext_enum_end (I.ok.hd hc) he f hit c1 (d1 i hx) fun h' eb => ⟨rfl, I.turned (t' := s.toks) (fun b o hb q => eb b o hb q) f0 f1 f3 f4 f5⟩
  self := fun A i s Q E st h => let ⟨⟨_, he⟩, _⟩ := st; wpAny_pyIter_enum he h
theorem call_enum_src {prog : Program} {w : World} {A : Around} {E : Value → Shared → Prop} {s : Shared} {z : Src} {its : List Value} {Q : Value → Shared → Prop} (hf : z.fit) (hc : Cont s.heap z its) (hnt : ∀ l, z ≠ .tup l)
    (h : ∀ h', IsEnum h' (s.heap.objs.size + 1) s.heap.objs.size 0 .none → ItAt h' s.heap.objs.size z 0 → (∀ b o, s.heap.get? b = some o → h'.get? b = some o) → Q (.ref (s.heap.objs.size + 1)) { s with heap := h' }) :
    wpAny (model prog w) A (call (.type "enumerate") [z.val]) Q E s := by
  cases z with
  | lst l => exact call_enumerate_list hc fun h' h1 h2 h3 h4 => h h' h1 h2 h4
  | tup l => exact absurd rfl (hnt l)
  | str x t ty =>
    refine call_enumerate_str fun h' h1 h2 h3 h4 => h h' h1 ?_ h4
    obtain ⟨o, q1, q2, q3⟩ := h2
    refine ⟨o, q1, ?_, q3⟩
    rw [q2]
    rcases hf with ⟨e, ha⟩ | ⟨e, ha⟩ <;> simp [Src.ty, strIterType, ha, e]
def iEs (K : PySem.W.Frag) (ta : TA) : TI := fun σ H R => ta σ H fun vs H1 => ∃ (q : VS) (l : List V), vs = [q.v] ∧ (∀ a, q ≠ .tup a) ∧ VIt K H1 q l ∧ R (Ies K q) H1
theorem pi_es {X : Cx} {e : PySem.Expr} {ta : TA} {p pos tpos : Pos} {elts : List PySem.Expr} {kk : Nat} (hg : Gl X "enumerate") (hm : X.mg "enumerate" = none) (ha : PA X [e] ta) (hs : starEach [e] X.env = [(false, eval e X.env)]) :
    PI X (.Tuple elts kk tpos) (.Call (.Name "enumerate" p) [e] [] pos) (iEs X.K ta) := by
  refine ⟨fun pins s σ H R I h => ?_⟩
  refine Call_ (ld_blt I hg hm boot_enumerate (PyProof.Rows.callWith_type1 (thn (ha.run pos pins s σ H _ I h) fun us s1 ⟨vs, H1, I1, r1, w1⟩ => ?_) hs rfl))
  obtain ⟨q, l, ex, hnt, y, hq⟩ := w1
  subst ex
  obtain _ | ⟨r, r1⟩ := r1
  cases r1
  obtain ⟨z, so, b, f⟩ := src_of r
  subst b
  obtain ⟨t1, c1, _, _⟩ := vit_in I1 so y
  refine call_enum_src f c1 (fun l hl => by
    subst hl
    cases q <;> simp only [SrcOf] at so
    exact hnt _ rfl) fun h' he hit hk => wpAny_pyIter_enum he ?_
  have I2 : L2.Inv X pins σ H1 { s1 with heap := h' } := I1.kept (t' := s1.toks) hk
  refine ⟨s1.heap.objs.size + 1, _, _, _, H1, rfl, I2, turn_es so f (vit_off I1 so y (Nat.le_refl _)), ⟨⟨.none, he⟩, hit⟩, fun c hcm => ?_, hq⟩
  have hle : s1.heap.objs.size ≤ c := by
    simp only [List.mem_cons, List.not_mem_nil, or_false] at hcm
    rcases hcm with q | q <;> rw [q]
    · exact Nat.le_add_right _ _
    · exact Nat.le_refl _
  exact I1.fpOk hle (I1.hok.fresh hle)
end Fv
end

section
set_option Elab.async false
set_option linter.all false
set_option maxRecDepth 100000
set_option maxHeartbeats 4000000
set_option autoImplicit false
namespace Fv
open PySem PySem.Spec PyProof.Rows L2
def VOf (g : Pg) (x : Wo) (q : VS) (ds : List D) : Prop := ∀ y : Wo, ExtW x y → Ok g y → ∃ xs, VIt g.K y.h q xs ∧ Reps g y ds xs
section
variable {g : Pg} {k : Nat} {X : Cx} {W : WX} {x : Wo}
theorem reps_chars2 {y : Wo} : ∀ {t : Txt}, (∀ c ∈ t, c < 1114112) → Reps g y (t.map fun c => D.str [c]) (t.map fun c => V.str ⟨#[c]⟩)
  | [], _ => by simp only [List.map_nil, Reps]
  | c :: t, h => by
    simp only [List.map_cons, Reps]
    exact ⟨_, _, rfl, ⟨rfl, fun a ha => by rw [List.mem_singleton.mp ha]; exact h c (by simp), Nat.le_of_ble_eq_true rfl⟩, reps_chars2 fun a ha => h a (by simp [ha])⟩
theorem vs_of {d : D} {ds : List D} {v : V} (ok : Ok g x) (r : Rep g x d v) (h : itemsOf d = some ds) : ∃ q : VS, q.v = v ∧ (∀ a, q = .tup a → itemsE d = none) ∧ VOf g x q ds := by
  cases d <;> simp only [itemsOf, Option.some.injEq] at h <;> try cases h
  · simp only [Rep] at r
    obtain ⟨rfl, h1, h2⟩ := r
    refine ⟨.str (SX.S _), rfl, (fun a e => nomatch e), fun y e oky => ⟨_, rfl, ?_⟩⟩
    have := reps_chars2 (g := g) (y := y) h1
    simpa [SX.S] using this
  · have r' := r
    simp only [Rep] at r'
    obtain ⟨a, vs, rfl, h1, h2⟩ := r'
    refine ⟨.tup a, rfl, (fun a e => rfl), fun y e oky => ?_⟩
    have ry := Rep.monoW ok e _ _ r
    simp only [Rep] at ry
    obtain ⟨a', vs', e', q1, q2⟩ := ry
    cases e'
    exact ⟨vs', q1, q2⟩
  · have r' := r
    simp only [Rep] at r'
    obtain ⟨a, vs, rfl, h1, h0, h2⟩ := r'
    refine ⟨.lst a, rfl, (fun a e => nomatch e), fun y e oky => ?_⟩
    have ry := Rep.monoW ok e _ _ r
    simp only [Rep] at ry
    obtain ⟨a', vs', e', q1, _, q2⟩ := ry
    cases e'
    exact ⟨vs', SqL.of q1, q2⟩
theorem zipL_len : ∀ (a b : List D), (zipL a b).length = min a.length b.length
  | [], b => by simp [zipL]
  | _ :: _, [] => by simp [zipL]
  | x :: a, y :: b => by simp only [zipL, List.length_cons, zipL_len a b]; omega
theorem zipL_get : ∀ {a b : List D} {i : Nat} {d : D}, (zipL a b)[i]? = some d → ∃ x y, a[i]? = some x ∧ b[i]? = some y ∧ d = .tup [x, y]
  | [], b, i, d, h => by simp [zipL] at h
  | _ :: _, [], i, d, h => by simp [zipL] at h
  | x :: a, y :: b, 0, d, h => by
    simp only [zipL, List.getElem?_cons_zero, Option.some.injEq] at h
    exact ⟨x, y, rfl, rfl, h.symm⟩
  | x :: a, y :: b, i + 1, d, h => by
    simp only [zipL, List.getElem?_cons_succ] at h ⊢
    exact zipL_get h
theorem zipL3_len : ∀ (a b c : List D), (zipL3 a b c).length = min a.length (min b.length c.length)
  | [], b, c => by simp [zipL3]
  | _ :: _, [], c => by simp [zipL3]
  | _ :: _, _ :: _, [] => by simp [zipL3]
  | x :: a, y :: b, z :: c => by simp only [zipL3, List.length_cons, zipL3_len a b c]; omega
theorem zipL3_get : ∀ {a b c : List D} {i : Nat} {d : D}, (zipL3 a b c)[i]? = some d → ∃ x y z, a[i]? = some x ∧ b[i]? = some y ∧ c[i]? = some z ∧ d = .tup [x, y, z]
  | [], b, c, i, d, h => by simp [zipL3] at h
  | _ :: _, [], c, i, d, h => by simp [zipL3] at h
  | _ :: _, _ :: _, [], i, d, h => by simp [zipL3] at h
  | x :: a, y :: b, z :: c, 0, d, h => by
    simp only [zipL3, List.getElem?_cons_zero, Option.some.injEq] at h
    exact ⟨x, y, z, rfl, rfl, rfl, h.symm⟩
  | x :: a, y :: b, z :: c, i + 1, d, h => by
    simp only [zipL3, List.getElem?_cons_succ] at h ⊢
    exact zipL3_get h
theorem enumL_len : ∀ (n : Nat) (a : List D), (enumL n a).length = a.length
  | _, [] => rfl
  | n, x :: a => by simp only [enumL, List.length_cons, enumL_len (n + 1) a]
theorem enumL_get : ∀ {a : List D} {n i : Nat} {d : D}, (enumL n a)[i]? = some d → ∃ x, a[i]? = some x ∧ d = .tup [.int ((n + i : Nat) : Int), x]
  | [], n, i, d, h => by simp [enumL] at h
  | x :: a, n, 0, d, h => by
    simp only [enumL, List.getElem?_cons_zero, Option.some.injEq] at h
    exact ⟨x, rfl, h.symm⟩
  | x :: a, n, i + 1, d, h => by
    simp only [enumL, List.getElem?_cons_succ] at h ⊢
    obtain ⟨y, h1, h2⟩ := enumL_get h
    exact ⟨y, h1, by rw [h2, show n + 1 + i = n + (i + 1) by omega]⟩
theorem iter_zs2 {q1 q2 : VS} {d1 d2 : List D} (h1 : VOf g x q1 d1) (h2 : VOf g x q2 d2) (hl : d1.length ≤ sizeLine) : IterOk g x (zipL d1 d2) (Izs2 g.K q1 q2) := by
  refine ⟨by rw [zipL_len]; omega, fun y e oky i => ?_⟩
  obtain ⟨l1, v1, r1⟩ := h1 y e oky
  obtain ⟨l2, v2, r2⟩ := h2 y e oky
  have n1 := reps_len r1
  have n2 := reps_len r2
  refine ⟨fun hi => ⟨l1, l2, v1, v2, by rw [zipL_len] at hi; omega⟩, fun d hd => ?_⟩
  obtain ⟨x1, x2, g1, g2, rfl⟩ := zipL_get hd
  obtain ⟨w1, g1, k1⟩ := reps_get r1 g1
  obtain ⟨w2, g2, k2⟩ := reps_get r2 g2
  refine ⟨⟨l1, l2, w1, w2, v1, g1, v2, g2⟩, fun v' H' hy => ?_⟩
  obtain ⟨T, u1, u2, rfl, hT, rfl, p1, p2⟩ := hy
  have p1 := p1 _ v1
  have p2 := p2 _ v2
  rw [g1] at p1
  rw [g2] at p2
  cases p1
  cases p2
  refine ⟨y.put T (.tup [w1, w2]), rfl, rfl, ext_put oky hT _, ok_put oky hT _, ?_⟩
  simp only [Rep]
  refine ⟨T, _, rfl, SqT.of put_at, Reps.mono oky (ext_put oky hT _) _ _ ?_⟩
  simp only [Reps]
  exact ⟨_, _, rfl, k1, _, _, rfl, k2, rfl⟩
theorem iter_zs3 {q1 q2 q3 : VS} {d1 d2 d3 : List D} (h1 : VOf g x q1 d1) (h2 : VOf g x q2 d2) (h3 : VOf g x q3 d3) (hl : d1.length ≤ sizeLine) : IterOk g x (zipL3 d1 d2 d3) (Izs3 g.K q1 q2 q3) := by
  refine ⟨by rw [zipL3_len]; omega, fun y e oky i => ?_⟩
  obtain ⟨l1, v1, r1⟩ := h1 y e oky
  obtain ⟨l2, v2, r2⟩ := h2 y e oky
  obtain ⟨l3, v3, r3⟩ := h3 y e oky
  have n1 := reps_len r1
  have n2 := reps_len r2
  have n3 := reps_len r3
  refine ⟨fun hi => ⟨l1, l2, l3, v1, v2, v3, by rw [zipL3_len] at hi; omega⟩, fun d hd => ?_⟩
  obtain ⟨x1, x2, x3, g1, g2, g3, rfl⟩ := zipL3_get hd
  obtain ⟨w1, g1, k1⟩ := reps_get r1 g1
  obtain ⟨w2, g2, k2⟩ := reps_get r2 g2
  obtain ⟨w3, g3, k3⟩ := reps_get r3 g3
  refine ⟨⟨l1, l2, l3, w1, w2, w3, v1, g1, v2, g2, v3, g3⟩, fun v' H' hy => ?_⟩
  obtain ⟨T, u1, u2, u3, rfl, hT, rfl, p1, p2, p3⟩ := hy
  have p1 := p1 _ v1
  have p2 := p2 _ v2
  have p3 := p3 _ v3
  rw [g1] at p1
  rw [g2] at p2
  rw [g3] at p3
  cases p1
  cases p2
  cases p3
  refine ⟨y.put T (.tup [w1, w2, w3]), rfl, rfl, ext_put oky hT _, ok_put oky hT _, ?_⟩
  simp only [Rep]
  refine ⟨T, _, rfl, SqT.of put_at, Reps.mono oky (ext_put oky hT _) _ _ ?_⟩
  simp only [Reps]
  exact ⟨_, _, rfl, k1, _, _, rfl, k2, _, _, rfl, k3, rfl⟩
theorem iter_es {q : VS} {d1 : List D} (h1 : VOf g x q d1) (hl : d1.length ≤ sizeLine) : IterOk g x (enumL 0 d1) (Ies g.K q) := by
  refine ⟨by rw [enumL_len]; omega, fun y e oky i => ?_⟩
  obtain ⟨l1, v1, r1⟩ := h1 y e oky
  have n1 := reps_len r1
  refine ⟨fun hi => ⟨l1, v1, by rw [enumL_len] at hi; omega⟩, fun d hd => ?_⟩
  obtain ⟨x1, g1, rfl⟩ := enumL_get hd
  obtain ⟨w1, g1, k1⟩ := reps_get r1 g1
  refine ⟨⟨l1, w1, v1, g1⟩, fun v' H' hy => ?_⟩
  obtain ⟨T, u1, rfl, hT, rfl, p1⟩ := hy
  have p1 := p1 _ v1
  rw [g1] at p1
  cases p1
  refine ⟨y.put T (.tup [.int (i : Nat), w1]), rfl, rfl, ext_put oky hT _, ok_put oky hT _, ?_⟩
  simp only [Rep]
  refine ⟨T, _, rfl, SqT.of put_at, Reps.mono oky (ext_put oky hT _) _ _ ?_⟩
  simp only [Reps]
  exact ⟨_, _, rfl, by rw [Nat.zero_add]; rfl, _, _, rfl, k1, rfl⟩
/-- how many there are at the most -/
theorem vs_len {pins : List (Addr × Obj)} {σ : St} {s : Shared} (hK : X.K = g.K) (I : L2.Inv X pins σ x.h s) {d : D} {ds : List D} {v : V} (r : Rep g x d v) (h : itemsOf d = some ds) : ds.length ≤ sizeLine := by
  cases d <;> simp only [itemsOf, Option.some.injEq] at h <;> try cases h
  · simp only [Rep] at r
    obtain ⟨rfl, h1, h2⟩ := r
    rw [List.length_map, ← lim_eq]; exact h2
  · simp only [Rep] at r
    obtain ⟨a, vs, rfl, h1, h2⟩ := r
    rw [← hK] at h1
    obtain ⟨_, _, _, hz⟩ := I.tuple h1
    rw [← reps_len h2]; exact hz
  · simp only [Rep] at r
    obtain ⟨a, vs, rfl, h1, h0, h2⟩ := r
    obtain ⟨_, _, _, hz⟩ := I.list (SqL.of h1)
    rw [← reps_len h2]; exact hz
end
/-- arguments, with the invariant's word on them -/
def LenOk (g : Pg) (x : Wo) (ds : List D) : Prop := ∀ d ∈ ds, ∀ is, itemsOf d = some is → is.length ≤ sizeLine
theorem reps_mem {g : Pg} {x : Wo} : ∀ {ds : List D} {vs : List V}, Reps g x ds vs → ∀ d ∈ ds, ∃ v, Rep g x d v
  | [], _, _, _, h => nomatch h
  | d :: ds, vs, r, e, h => by
    simp only [Reps] at r
    obtain ⟨v, vs', rfl, r1, r2⟩ := r
    rcases List.mem_cons.mp h with rfl | h
    · exact ⟨v, r1⟩
    · exact reps_mem r2 e h
theorem pa_lenD {g : Pg} {X : Cx} {e : List PySem.Expr} {t : TA} (hK : X.K = g.K) (h : PA X e t) : PA X e fun σ H Q => t σ H fun vs H1 => (∀ (x : Wo) ds, x.h = H1 → Reps g x ds vs → LenOk g x ds) → Q vs H1 :=
  ⟨fun p pins s σ H Q I q => wpAny_mono (h.run p pins s σ H _ I q) (fun u s' ⟨v, H', I', r, q'⟩ => ⟨v, H', I', r, q' fun x ds ex rs d hd is hi => by
    subst ex
    obtain ⟨v, r⟩ := reps_mem rs d hd
    exact vs_len hK I' r hi⟩) fun _ _ h => h⟩
section
variable {g : Pg} {k : Nat} {X : Cx} {W : WX} {a b c : PySem.Expr} {ca cb cc : CE} {p pos tpos : Pos} {elts : List PySem.Expr} {kk : Nat}
theorem pi_zip2_ok {t : Tx} (T : TxOk g t) (G : GX g k X W) (ha : PE X a (tE g k W ca)) (hb : PE X b (tE g k W cb)) (hs : notStar a = true) (hs2 : notStar b = true) (hg : glB X.env.scope "zip" = true) :
    PI X (.Tuple elts kk tpos) (.Call (.Name "zip" p) [a, b] [] pos) (tI g k W (.zip ca cb)) :=
  (pi_zs2 (glB_ok hg) (by rw [G.mg]; exact T.blt _ (by decide)) (pa_lenD G.K (pa_cons_ok ha (pa_cons_ok hb pa_nil_ok hs2) hs)) (star_ok hs [b] X.env) (by rw [star_ok hs2]; rfl)).imp fun σ H RR h => by
    have e : ∀ env s, evI g.T.G (callF g.T k) (.zip ca cb) env s = (evEs g.T.G (callF g.T k) [ca, cb] env s).bind fun ds s1 => match ds with
        | [x, y] => match itemsOf x, itemsOf y with
          | some xs, some ys => R.ok (zipL xs ys) s1
          | _, _ => .bad
        | _ => .bad := by
      intro env s
      simp only [evI, evEs]
      cases evE g.T.G (callF g.T k) ca env s with
      | ok x s1 =>
        simp only [R.bind]
        cases evE g.T.G (callF g.T k) cb env s1 with
        | ok y s2 => rfl
        | err => rfl
        | bad => rfl
      | err => rfl
      | bad => rfl
    obtain ⟨x, env, h1, h2, h3, post⟩ := h
    rw [e] at post
    refine tR_bind (op := fun (_ : Envd) (ds : List D) (s1 : Sto) => match ds with
        | [x, y] => match itemsOf x, itemsOf y with
          | some xs, some ys => R.ok (zipL xs ys) s1
          | _, _ => .bad
        | _ => .bad) ⟨x, env, h1, h2, h3, post⟩ fun z env ds vs ok re r post hlen => ?_
    split at post
    · rename_i x y
      split at post
      · rename_i xs ys hx hy
        have hl := hlen z _ rfl r x (by simp) xs hx
        simp only [Reps] at r
        obtain ⟨v, r', rfl, r1, v2, r'', rfl, r2, rfl⟩ := r
        obtain ⟨q1, rfl, _, k1⟩ := vs_of ok r1 hx
        obtain ⟨q2, rfl, _, k2⟩ := vs_of ok r2 hy
        obtain ⟨l1, m1, _⟩ := k1 z (ExtW.refl ok.len) ok
        obtain ⟨l2, m2, _⟩ := k2 z (ExtW.refl ok.len) ok
        rw [← G.K] at m1 m2
        refine ⟨q1, q2, l1, l2, rfl, m1, m2, ?_⟩
        rw [G.K]
        exact post.here ok (iter_zs2 k1 k2 hl)
      · exact post.elim
    · exact post.elim
theorem pi_zip3_ok {t : Tx} (T : TxOk g t) (G : GX g k X W) (ha : PE X a (tE g k W ca)) (hb : PE X b (tE g k W cb)) (hc : PE X c (tE g k W cc)) (hs : notStar a = true) (hs2 : notStar b = true) (hs3 : notStar c = true) (hg : glB X.env.scope "zip" = true) :
    PI X (.Tuple elts kk tpos) (.Call (.Name "zip" p) [a, b, c] [] pos) (tI g k W (.zip3 ca cb cc)) :=
  (pi_zs3 (glB_ok hg) (by rw [G.mg]; exact T.blt _ (by decide)) (pa_lenD G.K (pa_cons_ok ha (pa_cons_ok hb (pa_cons_ok hc pa_nil_ok hs3) hs2) hs)) (star_ok hs [b, c] X.env) (by rw [star_ok hs2, star_ok hs3]; rfl)).imp fun σ H RR h => by
    have e : ∀ env s, evI g.T.G (callF g.T k) (.zip3 ca cb cc) env s = (evEs g.T.G (callF g.T k) [ca, cb, cc] env s).bind fun ds s1 => match ds with
        | [x, y, z] => match itemsOf x, itemsOf y, itemsOf z with
          | some xs, some ys, some zs => R.ok (zipL3 xs ys zs) s1
          | _, _, _ => .bad
        | _ => .bad := by
      intro env s
      simp only [evI, evEs]
      cases evE g.T.G (callF g.T k) ca env s with
      | ok x s1 =>
        simp only [R.bind]
        cases evE g.T.G (callF g.T k) cb env s1 with
        | ok y s2 =>
          simp only [R.bind]
          cases evE g.T.G (callF g.T k) cc env s2 with
          | ok z s3 => rfl
          | err => rfl
          | bad => rfl
        | err => rfl
        | bad => rfl
      | err => rfl
      | bad => rfl
    obtain ⟨x, env, h1, h2, h3, post⟩ := h
    rw [e] at post
    refine tR_bind (op := fun (_ : Envd) (ds : List D) (s1 : Sto) => match ds with
        | [x, y, z] => match itemsOf x, itemsOf y, itemsOf z with
          | some xs, some ys, some zs => R.ok (zipL3 xs ys zs) s1
          | _, _, _ => .bad
        | _ => .bad) ⟨x, env, h1, h2, h3, post⟩ fun z env ds vs ok re r post hlen => ?_
    split at post
    · rename_i x y w
      split at post
      · rename_i xs ys ws hx hy hw
        have hl := hlen z _ rfl r x (by simp) xs hx
        simp only [Reps] at r
        obtain ⟨v, r', rfl, r1, v2, r'', rfl, r2, v3, r3', rfl, r3, rfl⟩ := r
        obtain ⟨q1, rfl, _, k1⟩ := vs_of ok r1 hx
        obtain ⟨q2, rfl, _, k2⟩ := vs_of ok r2 hy
        obtain ⟨q3, rfl, _, k3⟩ := vs_of ok r3 hw
        obtain ⟨l1, m1, _⟩ := k1 z (ExtW.refl ok.len) ok
        obtain ⟨l2, m2, _⟩ := k2 z (ExtW.refl ok.len) ok
        obtain ⟨l3, m3, _⟩ := k3 z (ExtW.refl ok.len) ok
        rw [← G.K] at m1 m2 m3
        refine ⟨q1, q2, q3, l1, l2, l3, rfl, m1, m2, m3, ?_⟩
        rw [G.K]
        exact post.here ok (iter_zs3 k1 k2 k3 hl)
      · exact post.elim
    · exact post.elim
theorem itemsE_of {d : D} {ds : List D} (h : itemsE d = some ds) : itemsOf d = some ds := by
  cases d <;> first | exact h | (simp [itemsE] at h)
theorem pi_enum_ok {t : Tx} (T : TxOk g t) (G : GX g k X W) (ha : PE X a (tE g k W ca)) (hs : notStar a = true) (hg : glB X.env.scope "enumerate" = true) :
    PI X (.Tuple elts kk tpos) (.Call (.Name "enumerate" p) [a] [] pos) (tI g k W (.enum ca)) :=
  (pi_es (glB_ok hg) (by rw [G.mg]; exact T.blt _ (by decide)) (pa_lenD G.K (pa_cons_ok ha pa_nil_ok hs)) (star_ok hs [] X.env)).imp fun σ H RR h => by
    have e : ∀ env s, evI g.T.G (callF g.T k) (.enum ca) env s = (evEs g.T.G (callF g.T k) [ca] env s).bind fun ds s1 => match ds with
        | [x] => match itemsE x with
          | some xs => R.ok (enumL 0 xs) s1
          | none => .bad
        | _ => .bad := by
      intro env s
      simp only [evI, evEs]
      cases evE g.T.G (callF g.T k) ca env s with
      | ok x s1 =>
        simp only [R.bind]
        all_goals (cases itemsE x <;> rfl)
      | err => rfl
      | bad => rfl
    obtain ⟨x, env, h1, h2, h3, post⟩ := h
    rw [e] at post
    refine tR_bind (op := fun (_ : Envd) (ds : List D) (s1 : Sto) => match ds with
        | [x] => match itemsE x with
          | some xs => R.ok (enumL 0 xs) s1
          | none => .bad
        | _ => .bad) ⟨x, env, h1, h2, h3, post⟩ fun z env ds vs ok re r post hlen => ?_
    split at post
    · rename_i x
      split at post
      · rename_i xs hx
        have hx' := itemsE_of hx
        have hl := hlen z _ rfl r x (by simp) xs hx'
        simp only [Reps] at r
        obtain ⟨v, r', rfl, r1, rfl⟩ := r
        obtain ⟨q1, rfl, nt, k1⟩ := vs_of ok r1 hx'
        obtain ⟨l1, m1, _⟩ := k1 z (ExtW.refl ok.len) ok
        rw [← G.K] at m1
        refine ⟨q1, l1, rfl, (fun a e => by rw [nt a e] at hx; exact nomatch hx), m1, ?_⟩
        rw [G.K]
        exact post.here ok (iter_es k1 hl)
      · exact post.elim
    · exact post.elim
end
end Fv
end

section
set_option Elab.async false
set_option linter.all false
set_option maxRecDepth 100000
set_option maxHeartbeats 4000000
set_option autoImplicit false
namespace Fv
open PySem PySem.Spec PyProof.Rows L2
/-- what the check looks at -/
structure Ck where
  t : Tx
  fB : Nat → Arguments → PySem.Expr → Scope → List Str → Bool
  N : List Str
def notComp : PySem.Expr → Bool
  | .ListComp _ _ _ _ | .SetComp _ _ _ _ | .DictComp _ _ _ _ _ => false
  | _ => true
def capB (sc scope : Scope) : Bool := scope.names.all fun y => decide (scope.names.lookup y.1 = some y.2) && (!decide (y.2 = .free) || (decide (sc.names.lookup y.1 = some .cell) || decide (sc.names.lookup y.1 = some .free)))
theorem capB_ok {sc scope : Scope} (h : capB sc scope = true) : CapOk sc scope := by
  unfold capB at h
  simp only [List.all_eq_true, Bool.and_eq_true, Bool.or_eq_true, Bool.not_eq_true', decide_eq_true_eq, decide_eq_false_iff_not] at h
  refine ⟨fun y hy => (h y hy).1, fun y hy e => ?_⟩
  rcases (h y hy).2 with q | q
  · exact absurd e q
  · exact q
def ownN (N : List Str) (own : List Nat) : List (Str × Nat) := own.map fun i => (N.getD i default, i)
theorem ownN_snd (N : List Str) (own : List Nat) : (ownN N own).map (·.2) = own := by
  unfold ownN
  rw [List.map_map]
  have : ((fun p : Str × Nat => p.2) ∘ fun i => (N.getD i default, i)) = id := by funext i; rfl
  rw [this, List.map_id]
def isTupE : PySem.Expr → Bool
  | .Tuple _ _ _ => true
  | _ => false
mutual
def chkE (K : Ck) : CE → Bool → Scope → PySem.Expr → Bool
  | .var i, _, sc, .Name x _ => decide (K.N[i]? = some x) && (visB sc x && nmB x)
  | .non, _, _, .Constant .none _ _ => true
  | .bl b, _, _, .Constant (.bool b') _ _ => b == b'
  | .int i, _, _, .Constant (.int i') _ _ => decide (i = i')
  | .str s, _, _, .Constant (.str s') _ _ => decide (s' = SX.S s) && okTxt s
  | .glob i, _, sc, .Name x _ => decide (K.t.gl[i]? = some (some x)) && glB sc x
  | .fnv i, _, sc, .Name x _ => decide (K.t.fn[i]? = some (some x)) && glB sc x
  | .tup cs, lm, sc, .Tuple es _ _ => chkEs K cs lm sc es
  | .lst cs, lm, sc, .List es _ => chkEs K cs lm sc es
  | .lstN cs, lm, sc, .List es _ => chkEs K cs lm sc es
  | .bin op a b, lm, sc, .BinOp x op' y _ => decide (op = op') && (chkE K a lm sc x && chkE K b lm sc y)
  | .neg a, lm, sc, .UnaryOp .USub x _ => chkE K a lm sc x
  | .not a, lm, sc, .UnaryOp .Not x _ => chkE K a lm sc x
  | .and a b, lm, sc, .BoolOp .And (x :: y :: rest) p => chkE K a lm sc x && (match rest with
    | [] => chkE K b lm sc y
    | _ => chkE K b lm sc (.BoolOp .And (y :: rest) p))
  | .or a b, lm, sc, .BoolOp .Or (x :: y :: rest) p => chkE K a lm sc x && (match rest with
    | [] => chkE K b lm sc y
    | _ => chkE K b lm sc (.BoolOp .Or (y :: rest) p))
  | .cmp op a b, lm, sc, .Compare x [op'] [y] _ => decide (op = op') && (notSet y && (chkE K a lm sc x && chkE K b lm sc y))
  | .chain o1 o2 a b c, lm, sc, .Compare x [p1, p2] [y, z] _ => decide (o1 = p1) && (decide (o2 = p2) && (notSet z && (chkE K a lm sc x && (chkE K b lm sc y && chkE K c lm sc z))))
  | .ite c a b, lm, sc, .IfExp z x y _ => chkE K c lm sc z && (chkE K a lm sc x && chkE K b lm sc y)
  | .call f cs, lm, sc, .Call (.Name x _) es [] _ => decide (K.t.fn[f]? = some (some x)) && (glB sc x && chkEs K cs lm sc es)
  | .callV i cs, lm, sc, .Call (.Name x _) es [] _ => decide (K.N[i]? = some x) && (visB sc x && (nmB x && chkEs K cs lm sc es))
  | .callL f l cs, lm, sc, .Call (.Name x _) (.Lambda params body scope _ :: es) [] _ => lm && (decide (K.t.fn[f]? = some (some x)) && (glB sc x && (K.fB l params body scope K.N && (params.defaults.isEmpty && (params.kw_defaults.isEmpty && (capB sc scope && chkEs K cs lm sc es))))))
  | .f1 f a, lm, sc, .Call (.Name x _) [e] [] _ => decide (x = f1N f) && (glB sc x && (notStar e && chkE K a lm sc e))
  | .f2 f a b, lm, sc, .Call (.Name x _) [e1, e2] [] _ => decide (x = f2N f) && (glB sc x && ((notStar e1 && notStar e2) && (chkE K a lm sc e1 && chkE K b lm sc e2)))
  | .isin a ty, lm, sc, .Call (.Name x _) [e, .Name y _] [] _ => decide (x = "isinstance") && (decide (y = tyS ty) && (glB sc x && (glB sc y && (notStar e && chkE K a lm sc e))))
  | .idx a b, lm, sc, .Subscript x y _ => notSlice y && (chkE K a lm sc x && chkE K b lm sc y)
  | .dget a b, lm, sc, .Subscript x y _ => notSlice y && (chkE K a lm sc x && chkE K b lm sc y)
  | .m1 m a b, lm, sc, .Call (.Attribute x nm ap) [y] [] p => decide (nm = m1Nm m) && (notStar y && (notCall0 x && ((ap.endLine == p.line) && (chkE K a lm sc x && chkE K b lm sc y))))
  | .sl a lo hi, lm, sc, .Subscript x (.Slice l h none _) _ => chkE K a lm sc x && (chkO K lo lm sc l && chkO K hi lm sc h)
  | .comp e tg own it c, lm, sc, .ListComp elt [⟨tg', iter, ifs, as⟩] scope _ => decide (as = 0) && (blkC K.N sc scope (ownN K.N own) && (chkTg K.N (locB scope) tg tg' && ((vars tg).all (fun i => decide (i ∈ own)) && (notSet iter && (chkI K it lm sc tg' iter &&
      (chkC K c lm (relabelS scope sc) ifs && chkE K e lm (relabelS scope sc) elt))))))
  | .dcomp k e tg own it, lm, sc, .DictComp kx vx [⟨tg', iter, ifs, as⟩] scope _ => decide (as = 0) && (ifs.isEmpty && (blkC K.N sc scope (ownN K.N own) && (chkTg K.N (locB scope) tg tg' && ((vars tg).all (fun i => decide (i ∈ own)) && (notSet iter && (chkI K it lm sc tg' iter &&
      (chkE K k false (relabelS scope sc) kx && chkE K e false (relabelS scope sc) vx)))))))
  | _, _, _, _ => false
def chkEs (K : Ck) : List CE → Bool → Scope → List PySem.Expr → Bool
  | [], _, _, [] => true
  | c :: cs, lm, sc, e :: es => (notStar e && chkE K c lm sc e) && chkEs K cs lm sc es
  | _, _, _, _ => false
def chkO (K : Ck) : Option CE → Bool → Scope → Option PySem.Expr → Bool
  | none, _, _, none => true
  | some c, lm, sc, some e => chkE K c lm sc e
  | _, _, _, _ => false
def chkC (K : Ck) : Option CE → Bool → Scope → List PySem.Expr → Bool
  | none, _, _, [] => true
  | some c, lm, sc, [e] => chkE K c lm sc e
  | _, _, _, _ => false
def chkI (K : Ck) : CI → Bool → Scope → PySem.Expr → PySem.Expr → Bool
  | .seq a, lm, sc, _, e => chkE K a lm sc e
  | .rng1 a, lm, sc, _, .Call (.Name x _) [e] [] _ => decide (x = "range") && (glB sc x && (notStar e && chkE K a lm sc e))
  | .rng2 a b, lm, sc, _, .Call (.Name x _) [e1, e2] [] _ => decide (x = "range") && (glB sc x && ((notStar e1 && notStar e2) && (chkE K a lm sc e1 && chkE K b lm sc e2)))
  | .zip a b, lm, sc, .Tuple _ _ _, .Call (.Name x _) [e1, e2] [] _ => decide (x = "zip") && (glB sc x && ((notStar e1 && notStar e2) && (chkE K a lm sc e1 && chkE K b lm sc e2)))
  | .zip3 a b c, lm, sc, .Tuple _ _ _, .Call (.Name x _) [e1, e2, e3] [] _ => decide (x = "zip") && (glB sc x && ((notStar e1 && (notStar e2 && notStar e3)) && (chkE K a lm sc e1 && (chkE K b lm sc e2 && chkE K c lm sc e3))))
  | .enum a, lm, sc, .Tuple _ _ _, .Call (.Name x _) [e] [] _ => decide (x = "enumerate") && (glB sc x && (notStar e && chkE K a lm sc e))
  | _, _, _, _, _ => false
end
structure Snd (g : Pg) (k : Nat) (X : Cx) (W : WX) (e : PySem.Expr) (c : CE) : Prop where
  pe : PE X e (tE g k W c)
  pt : PT X e (tC' g k W c)
  pw : ∀ op es p, e = .BoolOp op es p → PW X e (tC' g k W c)
section
variable {g : Pg} {k : Nat} {X : Cx} {W : WX}
theorem Snd.of {e : PySem.Expr} {c : CE} (h : PE X e (tE g k W c)) (hp : plainT e = true) : Snd g k X W e c := ⟨h, pt_of h hp, fun op es p q => by subst q; cases hp⟩
theorem pt_ite {a b c : PySem.Expr} {pos : Pos} {ta tb tc : TT} (hc : PT X c tc) (ha : PT X a ta) (hb : PT X b tb) : PT X (.IfExp c a b pos) (fun σ H Q => tc σ H fun v H1 => if v = true then ta σ H1 Q else tb σ H1 Q) := by
  refine ⟨fun pins s σ H Q I h => ?_⟩
  show wpAny _ _ (isTrue c X.env (eval c X.env) >>= fun v => if v = true then isTrue a X.env (eval a X.env) else isTrue b X.env (eval b X.env)) _ _ s
  refine wpAny_bind (wpAny_mono (hc.run pins s σ H _ I h) (fun v s1 hq => ?_) fun _ _ q => q)
  obtain ⟨H1, I1, q⟩ := hq
  cases v
  · rw [if_neg (by decide)] at q ⊢
    exact hb.run pins s1 σ H1 Q I1 q
  · rw [if_pos rfl] at q ⊢
    exact ha.run pins s1 σ H1 Q I1 q
theorem pt_ite_ok {a b c : PySem.Expr} {ca cb cc : CE} {pos : Pos} (hc : PT X c (tC' g k W cc)) (ha : PT X a (tC' g k W ca)) (hb : PT X b (tC' g k W cb)) : PT X (.IfExp c a b pos) (tC' g k W (.ite cc ca cb)) :=
  (pt_ite hc ha hb).imp fun σ H Q h => by
    obtain ⟨x, env, h1, h2, h3, post⟩ := h
    have e : ∀ s, evC g.T.G (callF g.T k) (some (.ite cc ca cb)) env s = (evC g.T.G (callF g.T k) (some cc) env s).bind fun b s1 => if b = true then evC g.T.G (callF g.T k) (some ca) env s1 else evC g.T.G (callF g.T k) (some cb) env s1 := by
      intro s
      simp only [evC, evE]
      cases evE g.T.G (callF g.T k) cc env s with
      | ok x s1 => cases x with
        | bl b => cases b <;> rfl
        | _ => rfl
      | err => rfl
      | bad => rfl
    rw [e] at post
    exact tR_bind (op := fun env b s1 => if b = true then evC g.T.G (callF g.T k) (some ca) env s1 else evC g.T.G (callF g.T k) (some cb) env s1) ⟨x, env, h1, h2, h3, post⟩ fun x env d v ok re r post => by
      subst r
      cases d
      · rw [if_neg (by decide)] at post ⊢; exact ⟨x, env, rfl, ok, re, post⟩
      · rw [if_pos rfl] at post ⊢; exact ⟨x, env, rfl, ok, re, post⟩
theorem pt_of_pw {e : PySem.Expr} {t : TT} (h : PW X e t) : PT X e t := ⟨fun pins s σ H Q I q => h.run (eval e X.env) pins s σ H Q I q⟩
end
/-- the text's calls at a depth -/
structure Env1 (g : Pg) (K : Ck) (k : Nat) : Prop where
  T : TxOk g K.t
  F : ∀ f, g.hs f = true → FnAt g k f
  C : CloRun g k
  fB : ∀ l params body scope, K.fB l params body scope K.N = true → g.fits l params body scope K.N
/-- a context that the check is of -/
structure CtxOk (g : Pg) (K : Ck) (k : Nat) (X : Cx) (W : WX) (lm : Bool) (sc : Scope) : Prop where
  G : GX g k X W
  N : X.N = K.N
  sc : X.env.scope = sc
  lm : lm = true → LamMk g X
section
variable {g : Pg} {k : Nat} {K : Ck}
theorem CtxOk.blk {X : Cx} {W : WX} {lm : Bool} {sc scope : Scope} (H : CtxOk g K k X W lm sc) {XB : Cx} (G : GX g k XB WF) (B : BlkX X XB scope) (hm : lm = true → LamMk g XB) : CtxOk g K k XB WF lm (relabelS scope sc) :=
  ⟨G, B.N.trans H.N, by rw [B.sc, H.sc], hm⟩
theorem pe_comp_lm {X : Cx} {W : WX} {elt iter tg : PySem.Expr} {ifs : List PySem.Expr} {scope : Scope} {own : List (Str × Nat)} {pos : Pos} {ce : CE} {ctg : Tg} {ci : CI} {cif : Option CE} (G : GX g k X W) (M : LamMk g X) (hi : PI X tg iter (tI g k W ci)) (hb : blkC X.N X.env.scope scope own = true) (htg : chkTg X.N (locB scope) ctg tg = true) (hv : ∀ i ∈ vars ctg, i ∈ own.map (·.2))
    (ht : ∀ XB, GX g k XB WF → BlkX X XB scope → LamMk g XB → PTs XB ifs (tC2 g k WF cif)) (he : ∀ XB, GX g k XB WF → BlkX X XB scope → LamMk g XB → PE XB elt (tE g k WF ce)) (hs : notSet iter = true) :
    PE X (.ListComp elt [⟨tg, iter, ifs, 0⟩] scope pos) (tE g k W (.comp ce ctg (own.map (·.2)) ci cif)) :=
  (pe_lcG G.calm G.nd hi (blkOk_by hb) M.cg (fold_ok hs X.env) fun s H C cl fp hcl => ⟨pg_ok (gx_blk G s H scope C cl fp) asg_blk ctg tg htg, ht _ (gx_blk G s H scope C cl fp) ⟨rfl, rfl⟩ (lamMk_blk M s H scope C cl fp hcl), he _ (gx_blk G s H scope C cl fp) ⟨rfl, rfl⟩ (lamMk_blk M s H scope C cl fp hcl)⟩).imp
    fun _ _ _ h => lc_read hv h
theorem hv_of {own : List Nat} {N : List Str} {tg : Tg} (h : ((vars tg).all fun i => decide (i ∈ own)) = true) : ∀ i ∈ vars tg, i ∈ (ownN N own).map (·.2) := fun i hi => by
  rw [ownN_snd]
  simp only [List.all_eq_true, decide_eq_true_eq] at h
  exact h i hi
mutual
theorem sndE (E : Env1 g K k) : ∀ (c : CE) (lm : Bool) (sc : Scope) (e : PySem.Expr) (X : Cx) (W : WX), CtxOk g K k X W lm sc → chkE K c lm sc e = true → Snd g k X W e c
  | .var i, lm, sc, e, X, W, H, h => by
    cases e <;> simp only [chkE, Bool.and_eq_true, decide_eq_true_eq] at h <;> try cases h
    rename_i x p h1 h2
    exact .of (pe_var_ok (by rw [H.N]; exact h1) (by rw [H.sc]; exact h2.1) h2.2) rfl
  | .non, lm, sc, e, X, W, H, h => by
    cases e <;> (try (simp only [chkE] at h; cases h; done))
    rename_i c j p
    cases c <;> (try (simp only [chkE] at h; cases h; done))
    exact .of pe_non_ok rfl
  | .bl b, lm, sc, e, X, W, H, h => by
    cases e <;> (try (simp only [chkE] at h; cases h; done))
    rename_i c j p
    cases c <;> (try (simp only [chkE] at h; cases h; done))
    simp only [chkE, beq_iff_eq] at h
    subst h
    exact .of pe_bl_ok rfl
  | .int i, lm, sc, e, X, W, H, h => by
    cases e <;> (try (simp only [chkE] at h; cases h; done))
    rename_i c j p
    cases c <;> (try (simp only [chkE] at h; cases h; done))
    simp only [chkE, decide_eq_true_eq] at h
    subst h
    exact .of pe_int_ok rfl
  | .str s, lm, sc, e, X, W, H, h => by
    cases e <;> (try (simp only [chkE] at h; cases h; done))
    rename_i c j p
    cases c <;> (try (simp only [chkE] at h; cases h; done))
    simp only [chkE, Bool.and_eq_true, decide_eq_true_eq] at h
    exact .of (pe_str_ok h.1 h.2) rfl
  | .glob i, lm, sc, e, X, W, H, h => by
    cases e <;> simp only [chkE, Bool.and_eq_true, decide_eq_true_eq] at h <;> try cases h
    rename_i x p h1 h2
    exact .of (pe_glob_ok E.T H.G h1 (by rw [H.sc]; exact h2)) rfl
  | .fnv i, lm, sc, e, X, W, H, h => by
    cases e <;> simp only [chkE, Bool.and_eq_true, decide_eq_true_eq] at h <;> try cases h
    rename_i x p h1 h2
    exact .of (pe_fn_ok E.T H.G h1 (by rw [H.sc]; exact h2)) rfl
  | .tup cs, lm, sc, e, X, W, H, h => by
    cases e <;> simp only [chkE] at h <;> try cases h
    exact .of (pe_tup_ok (sndEs E cs lm sc _ X W H h).1) rfl
  | .lst cs, lm, sc, e, X, W, H, h => by
    cases e <;> simp only [chkE] at h <;> try cases h
    exact .of (pe_lst_ok (sndEs E cs lm sc _ X W H h).1) rfl
  | .lstN cs, lm, sc, e, X, W, H, h => by
    cases e <;> simp only [chkE] at h <;> try cases h
    exact .of (pe_lstN_ok (sndEs E cs lm sc _ X W H h).1) rfl
  | .bin op a b, lm, sc, e, X, W, H, h => by
    cases e <;> simp only [chkE, Bool.and_eq_true, decide_eq_true_eq] at h <;> try cases h
    rename_i x op' y p h1 h2
    subst h1
    exact .of (pe_bin_ok H.G (sndE E a lm sc x X W H h2.1).pe (sndE E b lm sc y X W H h2.2).pe) rfl
  | .neg a, lm, sc, e, X, W, H, h => by
    cases e <;> (try (simp only [chkE] at h; cases h; done))
    rename_i op x p
    cases op <;> (try (simp only [chkE] at h; cases h; done))
    simp only [chkE] at h
    exact .of (pe_neg_ok (sndE E a lm sc x X W H h).pe) rfl
  | .not a, lm, sc, e, X, W, H, h => by
    cases e <;> (try (simp only [chkE] at h; cases h; done))
    rename_i op x p
    cases op <;> (try (simp only [chkE] at h; cases h; done))
    simp only [chkE] at h
    have q := sndE E a lm sc x X W H h
    exact ⟨pe_not_ok q.pe, pt_not_ok q.pt, fun _ _ _ z => by cases z⟩
  | .and a b, lm, sc, e, X, W, H, h => by
    cases e <;> (try (simp only [chkE] at h; cases h; done))
    rename_i op es p
    cases op <;> (try (simp only [chkE] at h; cases h; done))
    match es, h with
    | [], h => simp only [chkE] at h; cases h
    | [_], h => simp only [chkE] at h; cases h
    | x :: y :: [], h =>
      simp only [chkE, Bool.and_eq_true] at h
      have qa := sndE E a lm sc x X W H h.1
      have qb := sndE E b lm sc y X W H h.2
      have pw := pw_and_ok (pos := p) qa.pt (pw_and1 qb.pt)
      exact ⟨pe_and_ok qa.pe (pe_one qb.pe), pt_of_pw pw, fun _ _ _ z => by cases z; exact pw⟩
    | x :: y :: y2 :: r, h =>
      simp only [chkE, Bool.and_eq_true] at h
      have qa := sndE E a lm sc x X W H h.1
      have qb := sndE E b lm sc _ X W H h.2
      have pw := pw_and_ok (pos := p) qa.pt (qb.pw _ _ _ rfl)
      exact ⟨pe_and_ok qa.pe qb.pe, pt_of_pw pw, fun _ _ _ z => by cases z; exact pw⟩
  | .or a b, lm, sc, e, X, W, H, h => by
    cases e <;> (try (simp only [chkE] at h; cases h; done))
    rename_i op es p
    cases op <;> (try (simp only [chkE] at h; cases h; done))
    match es, h with
    | [], h => simp only [chkE] at h; cases h
    | [_], h => simp only [chkE] at h; cases h
    | x :: y :: [], h =>
      simp only [chkE, Bool.and_eq_true] at h
      have qa := sndE E a lm sc x X W H h.1
      have qb := sndE E b lm sc y X W H h.2
      have pw := pw_or_ok (pos := p) qa.pt (pw_or1 qb.pt)
      exact ⟨pe_or_ok qa.pe (pe_one qb.pe), pt_of_pw pw, fun _ _ _ z => by cases z; exact pw⟩
    | x :: y :: y2 :: r, h =>
      simp only [chkE, Bool.and_eq_true] at h
      have qa := sndE E a lm sc x X W H h.1
      have qb := sndE E b lm sc _ X W H h.2
      have pw := pw_or_ok (pos := p) qa.pt (qb.pw _ _ _ rfl)
      exact ⟨pe_or_ok qa.pe qb.pe, pt_of_pw pw, fun _ _ _ z => by cases z; exact pw⟩
  | .cmp op a b, lm, sc, e, X, W, H, h => by
    cases e <;> (try (simp only [chkE] at h; cases h; done))
    rename_i x ops ys p
    match ops, ys, h with
    | [op'], [y], h =>
      simp only [chkE, Bool.and_eq_true, decide_eq_true_eq] at h
      obtain ⟨rfl, h1, h2, h3⟩ := h
      have qa := sndE E a lm sc x X W H h2
      have qb := sndE E b lm sc y X W H h3
      exact ⟨pe_cmp_ok H.G qa.pe qb.pe h1, pt_cmp_ok H.G qa.pe qb.pe h1, fun _ _ _ z => by cases z⟩
    | [], _, h => simp only [chkE] at h; cases h
    | [_], [], h => simp only [chkE] at h; cases h
    | [_], _ :: _ :: _, h => simp only [chkE] at h; cases h
    | _ :: _ :: _, _, h => simp only [chkE] at h; cases h
  | .chain o1 o2 a b c, lm, sc, e, X, W, H, h => by
    cases e <;> (try (simp only [chkE] at h; cases h; done))
    rename_i x ops ys p
    match ops, ys, h with
    | [p1, p2], [y, z], h =>
      simp only [chkE, Bool.and_eq_true, decide_eq_true_eq] at h
      obtain ⟨rfl, rfl, h1, h2, h3, h4⟩ := h
      have qa := sndE E a lm sc x X W H h2
      have qb := sndE E b lm sc y X W H h3
      have qc := sndE E c lm sc z X W H h4
      exact ⟨pe_chain_ok H.G qa.pe qb.pe qc.pe h1, pt_chain_ok H.G qa.pe qb.pe qc.pe h1, fun _ _ _ z => by cases z⟩
    | [], _, h => simp only [chkE] at h; cases h
    | [_], _, h => simp only [chkE] at h; cases h
    | [_, _], [], h => simp only [chkE] at h; cases h
    | [_, _], [_], h => simp only [chkE] at h; cases h
    | [_, _], _ :: _ :: _ :: _, h => simp only [chkE] at h; cases h
    | _ :: _ :: _ :: _, _, h => simp only [chkE] at h; cases h
  | .ite c a b, lm, sc, e, X, W, H, h => by
    cases e <;> simp only [chkE, Bool.and_eq_true] at h <;> try cases h
    rename_i z x y p h1 h2
    have qc := sndE E c lm sc z X W H h1
    have qa := sndE E a lm sc x X W H h2.1
    have qb := sndE E b lm sc y X W H h2.2
    exact ⟨pe_ite_ok qc.pt qa.pe qb.pe, pt_ite_ok qc.pt qa.pt qb.pt, fun _ _ _ z => by cases z⟩
  | .call f cs, lm, sc, e, X, W, H, h => by
    cases e <;> (try (simp only [chkE] at h; cases h; done))
    rename_i fn es kws p
    cases fn <;> (try (simp only [chkE] at h; cases h; done))
    rename_i x np
    cases kws <;> (try (simp only [chkE] at h; cases h; done))
    simp only [chkE, Bool.and_eq_true, decide_eq_true_eq] at h
    obtain ⟨h1, h2, h3⟩ := h
    have hf := E.F f ((E.T.hs f).mpr ⟨_, h1⟩)
    obtain ⟨ha, hs⟩ := sndEs E cs lm sc es X W H h3
    refine .of ?_ rfl
    cases cs with
    | nil =>
      cases es with
      | nil => exact pe_call0_ok E.T H.G hf h1 (by rw [H.sc]; exact h2)
      | cons => simp [chkEs] at h3
    | cons c cs =>
      cases es with
      | nil => simp [chkEs] at h3
      | cons e es => exact pe_call_ok E.T H.G hf h1 (by rw [H.sc]; exact h2) ha hs
  | .callV i cs, lm, sc, e, X, W, H, h => by
    cases e <;> (try (simp only [chkE] at h; cases h; done))
    rename_i fn es kws p
    cases fn <;> (try (simp only [chkE] at h; cases h; done))
    rename_i x np
    cases kws <;> (try (simp only [chkE] at h; cases h; done))
    simp only [chkE, Bool.and_eq_true, decide_eq_true_eq] at h
    obtain ⟨h1, h2, h3, h4⟩ := h
    obtain ⟨ha, hs⟩ := sndEs E cs lm sc es X W H h4
    refine .of ?_ rfl
    cases cs with
    | nil =>
      cases es with
      | nil => exact pe_callV0_ok E.T H.G E.F E.C (by rw [H.N]; exact h1) (by rw [H.sc]; exact h2) h3
      | cons => simp [chkEs] at h4
    | cons c cs =>
      cases es with
      | nil => simp [chkEs] at h4
      | cons e es => exact pe_callV_ok E.T H.G E.F E.C (by rw [H.N]; exact h1) (by rw [H.sc]; exact h2) h3 ha hs
  | .callL f l cs, lm, sc, e, X, W, H, h => by
    cases e <;> (try (simp only [chkE] at h; cases h; done))
    rename_i fn es kws p
    cases fn <;> (try (simp only [chkE] at h; cases h; done))
    rename_i x np
    cases kws <;> (try (simp only [chkE] at h; cases h; done))
    cases es <;> (try (simp only [chkE] at h; cases h; done))
    rename_i e1 es
    cases e1 <;> (try (simp only [chkE] at h; cases h; done))
    rename_i params body scope lp
    simp only [chkE, Bool.and_eq_true, decide_eq_true_eq, List.isEmpty_iff] at h
    obtain ⟨h0, h1, h2, h3, h4, h5, h6, h7⟩ := h
    obtain ⟨ha, hs⟩ := sndEs E cs lm sc es X W H h7
    exact .of (pe_callL_ok E.T H.G (H.lm h0) (E.F f ((E.T.hs f).mpr ⟨_, h1⟩)) h1 (by rw [H.sc]; exact h2) (by rw [H.N]; exact E.fB _ _ _ _ h3) h4 h5 (by rw [H.sc]; exact capB_ok h6) ha hs) rfl
  | .f1 f a, lm, sc, e, X, W, H, h => by
    cases e <;> (try (simp only [chkE] at h; cases h; done))
    rename_i fn es kws p
    cases fn <;> (try (simp only [chkE] at h; cases h; done))
    rename_i x np
    match es, kws, h with
    | [e1], [], h =>
      simp only [chkE, Bool.and_eq_true, decide_eq_true_eq] at h
      obtain ⟨rfl, h1, h2, h3⟩ := h
      exact .of (pe_f1_ok E.T H.G (sndE E a lm sc e1 X W H h3).pe h2 (by rw [H.sc]; exact h1)) rfl
    | [], _, h => simp only [chkE] at h; cases h
    | [_], _ :: _, h => simp only [chkE] at h; cases h
    | _ :: _ :: _, _, h => simp only [chkE] at h; cases h
  | .f2 f a b, lm, sc, e, X, W, H, h => by
    cases e <;> (try (simp only [chkE] at h; cases h; done))
    rename_i fn es kws p
    cases fn <;> (try (simp only [chkE] at h; cases h; done))
    rename_i x np
    match es, kws, h with
    | [e1, e2], [], h =>
      simp only [chkE, Bool.and_eq_true, decide_eq_true_eq] at h
      obtain ⟨rfl, h1, ⟨h2, h3⟩, h4, h5⟩ := h
      exact .of (pe_f2_ok E.T H.G (sndE E a lm sc e1 X W H h4).pe (sndE E b lm sc e2 X W H h5).pe h2 h3 (by rw [H.sc]; exact h1)) rfl
    | [], _, h => simp only [chkE] at h; cases h
    | [_], _, h => simp only [chkE] at h; cases h
    | [_, _], _ :: _, h => simp only [chkE] at h; cases h
    | _ :: _ :: _ :: _, _, h => simp only [chkE] at h; cases h
  | .isin a ty, lm, sc, e, X, W, H, h => by
    cases e <;> (try (simp only [chkE] at h; cases h; done))
    rename_i fn es kws p
    cases fn <;> (try (simp only [chkE] at h; cases h; done))
    rename_i x np
    match es, kws, h with
    | [e1, e2], [], h =>
      cases e2 <;> (try (simp only [chkE] at h; cases h; done))
      rename_i y yp
      simp only [chkE, Bool.and_eq_true, decide_eq_true_eq] at h
      obtain ⟨rfl, rfl, h1, h2, h3, h4⟩ := h
      exact .of (pe_isin_ok E.T H.G (sndE E a lm sc e1 X W H h4).pe h3 (by rw [H.sc]; exact h1) (by rw [H.sc]; exact h2)) rfl
    | [], _, h => simp only [chkE] at h; cases h
    | [_], _, h => simp only [chkE] at h; cases h
    | [_, _], _ :: _, h => simp only [chkE] at h; cases h
    | _ :: _ :: _ :: _, _, h => simp only [chkE] at h; cases h
  | .idx a b, lm, sc, e, X, W, H, h => by
    cases e <;> simp only [chkE, Bool.and_eq_true] at h <;> try cases h
    rename_i x y p h1 h2
    exact .of (pe_idx_ok H.G (sndE E a lm sc x X W H h2.1).pe (sndE E b lm sc y X W H h2.2).pe h1) rfl
  | .dget a b, lm, sc, e, X, W, H, h => by
    cases e <;> simp only [chkE, Bool.and_eq_true] at h <;> try cases h
    rename_i x y p h1 h2
    exact .of (pe_dget_ok H.G (sndE E a lm sc x X W H h2.1).pe (sndE E b lm sc y X W H h2.2).pe h1) rfl
  | .m1 m a b, lm, sc, e, X, W, H, h => by
    cases e <;> (try (simp only [chkE] at h; cases h; done))
    rename_i fn es kws p
    cases fn <;> (try (simp only [chkE] at h; cases h; done))
    rename_i x nm ap
    match es, kws, h with
    | [y], [], h =>
      simp only [chkE, Bool.and_eq_true, decide_eq_true_eq] at h
      obtain ⟨rfl, h1, h2, h3, h4, h5⟩ := h
      exact .of (pe_m1_ok H.G (sndE E a lm sc x X W H h4).pe (sndE E b lm sc y X W H h5).pe h1 h2 h3) rfl
    | [], _, h => simp only [chkE] at h; cases h
    | [_], _ :: _, h => simp only [chkE] at h; cases h
    | _ :: _ :: _, _, h => simp only [chkE] at h; cases h
  | .sl a lo hi, lm, sc, e, X, W, H, h => by
    cases e <;> (try (simp only [chkE] at h; cases h; done))
    rename_i x y p
    cases y <;> (try (simp only [chkE] at h; cases h; done))
    rename_i l u st p2
    cases st <;> (try (simp only [chkE] at h; cases h; done))
    simp only [chkE, Bool.and_eq_true] at h
    exact .of (pe_sl_ok H.G (sndE E a lm sc x X W H h.1).pe (sndO E lo lm sc l X W H h.2.1) (sndO E hi lm sc u X W H h.2.2)) rfl
  | .comp e tg own it c, lm, sc, e0, X, W, H, h => by
    cases e0 <;> (try (simp only [chkE] at h; cases h; done))
    rename_i elt gs scope p
    match gs, h with
    | [⟨tg', iter, ifs, as⟩], h =>
      simp only [chkE, Bool.and_eq_true, decide_eq_true_eq] at h
      obtain ⟨rfl, h1, h2, h3, h4, h5, h6, h7⟩ := h
      have hi := sndI E it lm sc tg' iter X W H h5
      have q : PE X (.ListComp elt [⟨tg', iter, ifs, 0⟩] scope p) (tE g k W (.comp e tg ((ownN K.N own).map (·.2)) it c)) := by
        have b1 : blkC X.N X.env.scope scope (ownN K.N own) = true := by rw [H.N, H.sc]; exact h1
        have b2 : chkTg X.N (locB scope) tg tg' = true := by rw [H.N]; exact h2
        cases lm with
        | false => exact pe_comp_ok H.G hi b1 b2 (hv_of h3) (fun XB GB B => sndC E c false _ ifs XB (H.blk GB B fun z => by cases z) h6) (fun XB GB B => (sndE E e false _ elt XB WF (H.blk GB B fun z => by cases z) h7).pe) h4
        | true => exact pe_comp_lm H.G (H.lm rfl) hi b1 b2 (hv_of h3) (fun XB GB B M => sndC E c true _ ifs XB (H.blk GB B fun _ => M) h6) (fun XB GB B M => (sndE E e true _ elt XB WF (H.blk GB B fun _ => M) h7).pe) h4
      rw [ownN_snd] at q
      exact .of q rfl
    | [], h => simp only [chkE] at h; cases h
    | _ :: _ :: _, h => simp only [chkE] at h; cases h
  | .dcomp ck e tg own it, lm, sc, e0, X, W, H, h => by
    cases e0 <;> (try (simp only [chkE] at h; cases h; done))
    rename_i kx vx gs scope p
    match gs, h with
    | [⟨tg', iter, ifs, as⟩], h =>
      simp only [chkE, Bool.and_eq_true, decide_eq_true_eq, List.isEmpty_iff] at h
      obtain ⟨rfl, rfl, h1, h2, h3, h4, h5, h6, h7⟩ := h
      have hi := sndI E it lm sc tg' iter X W H h5
      have q : PE X (.DictComp kx vx [⟨tg', iter, [], 0⟩] scope p) (tE g k W (.dcomp ck e tg ((ownN K.N own).map (·.2)) it)) := by
        have b1 : blkC X.N X.env.scope scope (ownN K.N own) = true := by rw [H.N, H.sc]; exact h1
        have b2 : chkTg X.N (locB scope) tg tg' = true := by rw [H.N]; exact h2
        have H0 : CtxOk g K k X W false sc := ⟨H.G, H.N, H.sc, fun z => by cases z⟩
        exact pe_dcomp_ok H.G hi b1 b2 (hv_of h3) (fun XB GB B => (sndE E ck false _ kx XB WF (H0.blk GB B fun z => by cases z) h6).pe) (fun XB GB B => (sndE E e false _ vx XB WF (H0.blk GB B fun z => by cases z) h7).pe) h4
      rw [ownN_snd] at q
      exact .of q rfl
    | [], h => simp only [chkE] at h; cases h
    | _ :: _ :: _, h => simp only [chkE] at h; cases h
theorem sndEs (E : Env1 g K k) : ∀ (cs : List CE) (lm : Bool) (sc : Scope) (es : List PySem.Expr) (X : Cx) (W : WX), CtxOk g K k X W lm sc → chkEs K cs lm sc es = true → PA X es (tEs g k W cs) ∧ es.all notStar = true
  | [], lm, sc, [], X, W, H, h => ⟨pa_nil_ok, rfl⟩
  | [], lm, sc, _ :: _, X, W, H, h => by simp only [chkEs] at h; cases h
  | _ :: _, lm, sc, [], X, W, H, h => by simp only [chkEs] at h; cases h
  | c :: cs, lm, sc, e :: es, X, W, H, h => by
    simp only [chkEs, Bool.and_eq_true] at h
    obtain ⟨h1, h2⟩ := sndEs E cs lm sc es X W H h.2
    exact ⟨pa_cons_ok (sndE E c lm sc e X W H h.1.2).pe h1 h.1.1, by simp only [List.all_cons, h.1.1, h2, Bool.and_self]⟩
theorem sndO (E : Env1 g K k) : ∀ (c : Option CE) (lm : Bool) (sc : Scope) (e : Option PySem.Expr) (X : Cx) (W : WX), CtxOk g K k X W lm sc → chkO K c lm sc e = true → PO X e (tO g k W c)
  | none, lm, sc, none, X, W, H, h => po_none_ok
  | none, lm, sc, some _, X, W, H, h => by simp only [chkO] at h; cases h
  | some _, lm, sc, none, X, W, H, h => by simp only [chkO] at h; cases h
  | some c, lm, sc, some e, X, W, H, h => by
    simp only [chkO] at h
    exact po_some_ok (sndE E c lm sc e X W H h).pe
theorem sndC (E : Env1 g K k) : ∀ (c : Option CE) (lm : Bool) (sc : Scope) (e : List PySem.Expr) (X : Cx), CtxOk g K k X WF lm sc → chkC K c lm sc e = true → PTs X e (tC2 g k WF c)
  | none, lm, sc, [], X, H, h => tYes_imp
  | none, lm, sc, _ :: _, X, H, h => by simp only [chkC] at h; cases h
  | some _, lm, sc, [], X, H, h => by simp only [chkC] at h; cases h
  | some _, lm, sc, _ :: _ :: _, X, H, h => by simp only [chkC] at h; cases h
  | some c, lm, sc, [e], X, H, h => by
    simp only [chkC] at h
    exact pts_some (sndE E c lm sc e X WF H h).pt
theorem sndI (E : Env1 g K k) : ∀ (c : CI) (lm : Bool) (sc : Scope) (tg e : PySem.Expr) (X : Cx) (W : WX), CtxOk g K k X W lm sc → chkI K c lm sc tg e = true → PI X tg e (tI g k W c)
  | .seq a, lm, sc, tg, e, X, W, H, h => by
    simp only [chkI] at h
    exact pi_seq_ok H.G (sndE E a lm sc e X W H h).pe
  | .rng1 a, lm, sc, tg, e, X, W, H, h => by
    cases e <;> (try (simp only [chkI] at h; cases h; done))
    rename_i fn es kws p
    cases fn <;> (try (simp only [chkI] at h; cases h; done))
    rename_i x np
    match es, kws, h with
    | [e1], [], h =>
      simp only [chkI, Bool.and_eq_true, decide_eq_true_eq] at h
      obtain ⟨rfl, h1, h2, h3⟩ := h
      exact pi_rng1_ok E.T H.G (sndE E a lm sc e1 X W H h3).pe h2 (by rw [H.sc]; exact h1)
    | [], _, h => simp only [chkI] at h; cases h
    | [_], _ :: _, h => simp only [chkI] at h; cases h
    | _ :: _ :: _, _, h => simp only [chkI] at h; cases h
  | .rng2 a b, lm, sc, tg, e, X, W, H, h => by
    cases e <;> (try (simp only [chkI] at h; cases h; done))
    rename_i fn es kws p
    cases fn <;> (try (simp only [chkI] at h; cases h; done))
    rename_i x np
    match es, kws, h with
    | [e1, e2], [], h =>
      simp only [chkI, Bool.and_eq_true, decide_eq_true_eq] at h
      obtain ⟨rfl, h1, ⟨h2, h3⟩, h4, h5⟩ := h
      exact pi_rng2_ok E.T H.G (sndE E a lm sc e1 X W H h4).pe (sndE E b lm sc e2 X W H h5).pe h2 h3 (by rw [H.sc]; exact h1)
    | [], _, h => simp only [chkI] at h; cases h
    | [_], _, h => simp only [chkI] at h; cases h
    | [_, _], _ :: _, h => simp only [chkI] at h; cases h
    | _ :: _ :: _ :: _, _, h => simp only [chkI] at h; cases h
  | .zip a b, lm, sc, tg, e, X, W, H, h => by
    cases tg <;> cases e <;> (try (simp only [chkI] at h; cases h; done))
    rename_i fn es kws p
    cases fn <;> (try (simp only [chkI] at h; cases h; done))
    rename_i x np
    match es, kws, h with
    | [e1, e2], [], h =>
      simp only [chkI, Bool.and_eq_true, decide_eq_true_eq] at h
      obtain ⟨rfl, h1, ⟨h2, h3⟩, h4, h5⟩ := h
      exact pi_zip2_ok E.T H.G (sndE E a lm sc e1 X W H h4).pe (sndE E b lm sc e2 X W H h5).pe h2 h3 (by rw [H.sc]; exact h1)
    | [], _, h => simp only [chkI] at h; cases h
    | [_], _, h => simp only [chkI] at h; cases h
    | [_, _], _ :: _, h => simp only [chkI] at h; cases h
    | _ :: _ :: _ :: _, _, h => simp only [chkI] at h; cases h
  | .zip3 a b c, lm, sc, tg, e, X, W, H, h => by
    cases tg <;> cases e <;> (try (simp only [chkI] at h; cases h; done))
    rename_i fn es kws p
    cases fn <;> (try (simp only [chkI] at h; cases h; done))
    rename_i x np
    match es, kws, h with
    | [e1, e2, e3], [], h =>
      simp only [chkI, Bool.and_eq_true, decide_eq_true_eq] at h
      obtain ⟨rfl, h1, ⟨h2, h3, h3'⟩, h4, h5, h6⟩ := h
      exact pi_zip3_ok E.T H.G (sndE E a lm sc e1 X W H h4).pe (sndE E b lm sc e2 X W H h5).pe (sndE E c lm sc e3 X W H h6).pe h2 h3 h3' (by rw [H.sc]; exact h1)
    | [], _, h => simp only [chkI] at h; cases h
    | [_], _, h => simp only [chkI] at h; cases h
    | [_, _], _, h => simp only [chkI] at h; cases h
    | [_, _, _], _ :: _, h => simp only [chkI] at h; cases h
    | _ :: _ :: _ :: _ :: _, _, h => simp only [chkI] at h; cases h
  | .enum a, lm, sc, tg, e, X, W, H, h => by
    cases tg <;> cases e <;> (try (simp only [chkI] at h; cases h; done))
    rename_i fn es kws p
    cases fn <;> (try (simp only [chkI] at h; cases h; done))
    rename_i x np
    match es, kws, h with
    | [e1], [], h =>
      simp only [chkI, Bool.and_eq_true, decide_eq_true_eq] at h
      obtain ⟨rfl, h1, h2, h3⟩ := h
      exact pi_enum_ok E.T H.G (sndE E a lm sc e1 X W H h3).pe h2 (by rw [H.sc]; exact h1)
    | [], _, h => simp only [chkI] at h; cases h
    | [_], _ :: _, h => simp only [chkI] at h; cases h
    | _ :: _ :: _, _, h => simp only [chkI] at h; cases h
end
end
end Fv
end

section
set_option Elab.async false
set_option linter.all false
set_option maxRecDepth 100000
set_option maxHeartbeats 4000000
set_option autoImplicit false
namespace Fv
open PySem PySem.Spec PyProof.Rows L2
def flOk (g : Pg) (y : Wo) (D : Ends) : Fl → Prop
  | .nx e => ∀ σ, REnv g y e σ → D.nx σ y.h
  | .bk e => ∀ σ, REnv g y e σ → D.bk σ y.h
  | .ct e => ∀ σ, REnv g y e σ → D.ct σ y.h
  | .ret d => ∀ v, Rep g y d v → D.rt v y.h
def PostS (g : Pg) (W : WX) (x : Wo) (r : R Fl) (D : Ends) : Prop :=
  match r with
  | .ok fl s' => ∀ y : Wo, Ext x y → Ok g y → y.s = s' → flOk g y D fl
  | .err e s' => ∀ y : Wo, Ext x y → Ok g y → y.s = s' → ∀ σ dd, ddOk e dd → W (.ref (g.exA e)) dd σ y.h
  | .bad => False
section
variable {α β : Type} {g : Pg} {Rp : Wo → α → β → Prop} {W : WX} {σ : St} {x y : Wo} {D D' : Ends}
theorem PostS.ext {r : R Fl} (e : Ext x y) (h : PostS g W x r D) : PostS g W y r D := by
  cases r with
  | ok d s => exact fun z e2 => h z (e.trans e2)
  | err d s => exact fun z e2 => h z (e.trans e2)
  | bad => exact h
theorem PostS.bind {r : R α} {k : α → Sto → R Fl} {env : Envd} {Q : β → Hp → Prop} (h : PostS g W x (r.bind k) D) (ok : Ok g x) (re : REnv g x env σ)
    (hk : ∀ (y : Wo) (d : α) (v : β), Ext x y → Ok g y → REnv g y env σ → Rp y d v → PostS g W y (k d y.s) D → Q v y.h) : PostG g Rp W σ x r Q := by
  cases r with
  | ok d s =>
    intro y e oky es v rv
    subst es
    exact hk y d v e oky (REnv.mono ok e _ _ re) rv (PostS.ext e h)
  | err d s => exact fun y e oky es dd hd => h y e oky es σ dd hd
  | bad => exact h
theorem PostS.here {fl : Fl} (h : PostS g W x (.ok fl x.s) D) (ok : Ok g x) : flOk g x D fl := h x (Ext.refl ok.len) ok rfl
/-- statements in turn: what follows each end -/
theorem PostS.seq {r : R Fl} {k : Fl → Sto → R Fl} (h : PostS g W x (r.bind k) D)
    (hk : ∀ (fl : Fl) (y : Wo), Ext x y → Ok g y → PostS g W y (k fl y.s) D → flOk g y D' fl) : PostS g W x r D' := by
  cases r with
  | ok fl s => exact fun y e oky es => hk fl y e oky (by subst es; exact PostS.ext e h)
  | err d s => exact h
  | bad => exact h
end
abbrev tS (g : Pg) (k : Nat) (W : WX) (c : CS) : TS := fun D σ H => ∃ (x : Wo) (env : Envd), x.h = H ∧ Ok g x ∧ REnv g x env σ ∧ PostS g W x (exS g.T.nms g.T.G (callF g.T k) c env x.s) D
abbrev tSs (g : Pg) (k : Nat) (W : WX) (c : List CS) : TS := fun D σ H => ∃ (x : Wo) (env : Envd), x.h = H ∧ Ok g x ∧ REnv g x env σ ∧ PostS g W x (exSs g.T.nms g.T.G (callF g.T k) c env x.s) D
theorem _root_.L2.PS.imp {X : Cx} {st : Stmt} {t t' : TS} (h : PS X st t) (hi : ∀ D σ H, t' D σ H → t D σ H) : PS X st t' := ⟨fun pins s σ H D I q => h.run pins s σ H D I (hi D σ H q)⟩
theorem _root_.L2.PSs.imp {X : Cx} {st : List Stmt} {t t' : TS} (h : PSs X st t) (hi : ∀ D σ H, t' D σ H → t D σ H) : PSs X st t' := ⟨fun pins s σ H D I q => h.run pins s σ H D I (hi D σ H q)⟩
/-- a context where statements stand -/
structure GS (g : Pg) (k : Nat) (X : Cx) (W : WX) : Prop extends GX g k X W where
  hp : PassesOwn (model X.prog X.w) X.A X.env X.xe
  fn : ∀ x, X.fn x = true
  kind : X.env.scope.kind = .function
  stk : X.stack = X.env :: X.outer
  frm : X.env.frame = some X.env.locals
theorem asg_fn {X : Cx} (h : ∀ x, X.fn x = true) : AsgOk X (locB X.env.scope) := fun x q => ⟨locB_ok q, .inl (h x)⟩
section
variable {g : Pg} {k : Nat} {X : Cx} {W : WX} {a b c e : PySem.Expr} {ca cb cc ce : CE} {pos : Pos}
theorem tS_bind {α β : Type} {Rp : Wo → α → β → Prop} {f : Envd → Sto → R α} {op : Envd → α → Sto → R Fl} {D : Ends} {σ : St} {H : Hp} {Q : β → Hp → Prop}
    (h : ∃ (x : Wo) (env : Envd), x.h = H ∧ Ok g x ∧ REnv g x env σ ∧ PostS g W x ((f env x.s).bind (op env)) D)
    (hk : ∀ (y : Wo) (env : Envd) (d : α) (v : β), Ok g y → REnv g y env σ → Rp y d v → PostS g W y (op env d y.s) D → Q v y.h) : tR g W Rp f σ H Q := by
  obtain ⟨x, env, rfl, ok, re, post⟩ := h
  exact ⟨x, env, rfl, ok, re, post.bind ok re fun y d v e oky rey ry py => hk y env d v oky rey ry py⟩
theorem pss_nil_ok : PSs X [] (tSs g k W []) := pss_nil.imp fun D σ H h => by
  obtain ⟨x, env, rfl, ok, re, post⟩ := h
  exact post.here ok σ re
theorem pss_cons_ok {st : Stmt} {rest : List Stmt} {c : CS} {cs : List CS} (h1 : PS X st (tS g k W c)) (h2 : PSs X rest (tSs g k W cs)) : PSs X (st :: rest) (tSs g k W (c :: cs)) :=
  (pss_cons h1 h2).imp fun D σ H h => by
    obtain ⟨x, env, rfl, ok, re, post⟩ := h
    refine ⟨x, env, rfl, ok, re, ?_⟩
    refine PostS.seq (k := fun fl s1 => match fl with
      | .nx env1 => exSs g.T.nms g.T.G (callF g.T k) cs env1 s1
      | o => .ok o s1) post fun fl y ey oky py => ?_
    cases fl with
    | nx e => exact fun σ' re' => ⟨y, e, rfl, oky, re', py⟩
    | ret d => exact py.here oky
    | bk e => exact py.here oky
    | ct e => exact py.here oky
theorem ps_pass_ok : PS X (.Pass pos) (tS g k W .pass) := ps_pass.imp fun D σ H h => by
  obtain ⟨x, env, rfl, ok, re, post⟩ := h
  exact post.here ok σ re
theorem ps_cont_ok : PS X (.Continue pos) (tS g k W .cont) := ps_continue.imp fun D σ H h => by
  obtain ⟨x, env, rfl, ok, re, post⟩ := h
  exact post.here ok σ re
theorem ps_brk_ok : PS X (.Break pos) (tS g k W .brk) := ps_break.imp fun D σ H h => by
  obtain ⟨x, env, rfl, ok, re, post⟩ := h
  exact post.here ok σ re
theorem ps_retN_ok : PS X (.Return none pos) (tS g k W .retN) := ps_retN.imp fun D σ H h => by
  obtain ⟨x, env, rfl, ok, re, post⟩ := h
  exact post.here ok .non (by simp only [Rep])
theorem ps_ret_ok (h : PE X e (tE g k W ce)) : PS X (.Return (some e) pos) (tS g k W (.ret ce)) := (ps_ret h).imp fun D σ H h =>
  tS_bind (op := fun _ d s1 => .ok (.ret d) s1) h fun y env d v ok re r post => post.here ok v r
theorem ps_expr_ok (h : PE X e (tE g k W ce)) (hn : notComp e = true) : PS X (.Expr e pos) (tS g k W (.expr ce)) := by
  refine (ps_expr h ?_).imp fun D σ H h => tS_bind (op := fun env _ s1 => .ok (.nx env) s1) h fun y env d v ok re r post => post.here ok σ re
  unfold swapsWith
  cases e <;> first | rfl | cases hn
theorem asg_read {i : Nat} {D : Ends} {σ : St} {H : Hp} (h : ∃ (x : Wo) (env : Envd), x.h = H ∧ Ok g x ∧ REnv g x env σ ∧ PostS g W x ((evE g.T.G (callF g.T k) ce env x.s).bind fun d s1 => if i < env.length then .ok (.nx (env.set i d)) s1 else .bad) D) : tAsg (tE g k W ce) (gName i) D σ H :=
  tS_bind (op := fun env d s1 => if i < env.length then .ok (.nx (env.set i d)) s1 else .bad) h fun y env d v ok re r post => by
    split at post
    · exact post.here ok _ (renv_put i re r)
    · exact post.elim
/-- is the store of a comprehension's value made under way? -/
def swB (sc : Scope) (v : PySem.Expr) (x : Str) (p : Pos) : Bool := match v with
  | .ListComp _ _ s _ | .SetComp _ _ s _ | .DictComp _ _ _ s _ => decide (sc.names.lookup x = some .local) && (p.line == v.pos.line) && !(s.names.any fun (n, k) => n == x && (k == .local || k == .cell))
  | _ => false
theorem sw_ok {env : Env} {v : PySem.Expr} {x : Str} {p : Pos} (line : Nat) (hk : env.scope.kind = .function) : swapsWith v (some (.Name x p)) line env = pure (swB env.scope v x p) := by
  have hb : env.blockKind = .function := by unfold Env.blockKind; rw [hk]; rfl
  have hd : (env.kindOf x == some NameKind.local) = decide (env.scope.names.lookup x = some .local) := by
    show (env.scope.names.lookup x == some NameKind.local) = _
    cases h : decide (env.scope.names.lookup x = some .local) with
    | true => rw [of_decide_eq_true h]; rfl
    | false =>
      have := of_decide_eq_false h
      simpa using this
  cases v <;> first | rfl | (unfold swapsWith swB; simp only [hb, hd]; rfl)
theorem ps_asg_ok (G : GS g k X W) {i : Nat} {x : Str} {p : Pos} (hi : X.N[i]? = some x) (hl : locB X.env.scope x = true) (hw : swB X.env.scope e x p = false) (h : PE X e (tE g k W ce)) : PS X (.Assign [.Name x p] e pos) (tS g k W (.asg i ce)) :=
  (ps_set G.nd hi (locB_ok hl) h ((sw_ok pos.line G.kind).trans (by rw [hw])) (.inl (G.fn x))).imp fun D σ H h => asg_read h
theorem swappedStores_no {tg e : PySem.Expr} {env : Env} (h : ∀ ts k p, e ≠ .Tuple ts k p) : swappedStores [tg] e env = pure none := by
  unfold swappedStores
  split
  · rename_i q
    split at q <;> first | cases q | skip
    · exact absurd rfl (h _ _ _)
    · exact absurd rfl (h _ _ _)
  · rfl
/-- the names a tuple display's values are stored to in turn -/
def swNames (sc : Scope) (ts : List PySem.Expr) : List Str := ts.filterMap fun
  | .Name id pos => if decide (sc.names.lookup id = some .local) && pos.line == (ts.head?.map (·.pos.line)).getD 0 then some id else none
  | _ => none
def swpN (sc : Scope) (ts vs : List PySem.Expr) : Bool := (!(ts.length == 2 || ts.length == 3) || vs.length != ts.length) || (!vs.all notStar || ((swNames sc ts).length != ts.length || (swNames sc ts).eraseDups.length != (swNames sc ts).length) || vs.all (foldedForSure 8))
def swpS (sc : Scope) (ts vs : List PySem.Expr) (names : List Str) : Bool := (ts.length == 2 || ts.length == 3) && (vs.length == ts.length) && (vs.all notStar && decide (swNames sc ts = names) && (names.length == ts.length) && (names.eraseDups.length == names.length)) && !vs.all (foldedForSure 8) && !vs.all (constantsAlone 8)
theorem swp_eq {env : Env} (hk : env.scope.kind = .function) (ts vs : List PySem.Expr) (k k2 : Nat) (p p2 : Pos) : swappedStores [.Tuple ts k p] (.Tuple vs k2 p2) env =
    (if (!(ts.length == 2 || ts.length == 3) || vs.length != ts.length) = true then pure none
    else if (!vs.all notStar) = true then pure none
    else if ((swNames env.scope ts).length != ts.length || (swNames env.scope ts).eraseDups.length != (swNames env.scope ts).length) = true then pure none
    else if vs.all (foldedForSure 8) = true then pure none
    else if vs.all (constantsAlone 8) = true then (do unsupported "assign.tuple-of-constant-expressions:order-of-the-stores"; pure (some (swNames env.scope ts)))
    else pure (some (swNames env.scope ts))) := by
  have hb : env.blockKind = .function := by unfold Env.blockKind; rw [hk]; rfl
  have hs : (vs.any fun | .Starred .. => true | _ => false) = !vs.all notStar := by
    rw [List.not_all_eq_any_not]
    congr 1
    funext v
    cases v <;> rfl
  have hn : (ts.filterMap fun
    | .Name id pos => if env.kindOf id == some .local && pos.line == (ts.head?.map (·.pos.line)).getD 0 then some id else none
    | _ => none) = swNames env.scope ts := by
    unfold swNames
    congr 1
    funext v
    cases v <;> first | rfl | skip
    rename_i id pos
    have hd : (env.kindOf id == some NameKind.local) = decide (env.scope.names.lookup id = some .local) := by
      show (env.scope.names.lookup id == some NameKind.local) = _
      cases h : decide (env.scope.names.lookup id = some .local) with
      | true => rw [of_decide_eq_true h]; rfl
      | false =>
        have := of_decide_eq_false h
        simpa using this
    simp only [hd]
  rw [← hn, ← hs]
  unfold swappedStores
  simp only [hb]
  have : ((ScopeKind.function : ScopeKind) != ScopeKind.function) = false := rfl
  simp only [this, Bool.or_false]
  rfl
theorem swp_none {env : Env} (hk : env.scope.kind = .function) {ts vs : List PySem.Expr} {k k2 : Nat} {p p2 : Pos} (h : swpN env.scope ts vs = true) : swappedStores [.Tuple ts k p] (.Tuple vs k2 p2) env = pure none := by
  rw [swp_eq hk]
  unfold swpN at h
  simp only [Bool.or_eq_true] at h
  split
  · rfl
  · split
    · rfl
    · split
      · rfl
      · split
        · rfl
        · rename_i h1 h2 h3 h4
          simp only [Bool.or_eq_true] at h1 h3
          rcases h with h | (h | h) | h
          · exact absurd h h1
          · exact absurd h h2
          · exact absurd h h3
          · exact absurd h h4
theorem swp_some {env : Env} (hk : env.scope.kind = .function) {ts vs : List PySem.Expr} {k k2 : Nat} {p p2 : Pos} {names : List Str} (h : swpS env.scope ts vs names = true) : swappedStores [.Tuple ts k p] (.Tuple vs k2 p2) env = pure (some names) := by
  rw [swp_eq hk]
  unfold swpS at h
  simp only [Bool.and_eq_true, decide_eq_true_eq, beq_iff_eq, Bool.not_eq_true'] at h
  obtain ⟨⟨⟨⟨h1, h2⟩, ⟨⟨h3, h4⟩, h5⟩, h6⟩, h7⟩, h8⟩ := h
  rw [h4, if_neg (by simp only [h1, h2, Bool.not_true, Bool.false_or, bne_self_eq_false, Bool.false_eq_true, not_false_eq_true]), if_neg (by rw [h3]; decide), if_neg (by simp [h5, h6]), if_neg (by rw [h7]; decide), if_neg (by rw [h8]; decide)]
theorem ps_unp_ok (G : GS g k X W) {ts : List Tg} {es : List PySem.Expr} {j : Nat} {p : Pos} (ht : chkTgs X.N (locB X.env.scope) ts es = true) (hw : (match e with
    | .Tuple vs _ _ => swpN X.env.scope es vs
    | _ => true) = true) (h : PE X e (tE g k W ce)) : PS X (.Assign [.Tuple es j p] e pos) (tS g k W (.unp ts ce)) := by
  have hg := pg_ok G.toGX (asg_fn G.fn) (.t ts) (.Tuple es j p) (by simpa only [chkTg] using ht)
  have h1 : swapsWithSole [.Tuple es j p] e pos.line X.env = pure false := by
    show swapsWith e (some (.Tuple es j p)) pos.line X.env = pure false
    unfold swapsWith
    cases e <;> rfl
  have h2 : swappedStores [.Tuple es j p] e X.env = pure none := by
    by_cases q : ∃ vs k2 p2, e = .Tuple vs k2 p2
    · obtain ⟨vs, k2, p2, rfl⟩ := q
      exact swp_none G.kind hw
    · exact swappedStores_no fun vs k2 p2 z => q ⟨vs, k2, p2, z⟩
  refine (ps_asg h hg h1 h2).imp fun D σ H h => ?_
  refine tS_bind (op := fun env x s1 => match bindTg (.t ts) x env with
    | some env1 => .ok (.nx env1) s1
    | none => .bad) h fun y env d v ok re r post => ?_
  split at post
  · rename_i env1 hb
    exact ⟨y, env, env1, d, rfl, ok, re, r, hb, fun σ' re' _ => post.here ok σ' re'⟩
  · exact post.elim
theorem ps_par2_ok (G : GS g k X W) {i j : Nat} {x y : Str} {px py pt pt2 : Pos} {kt k2 : Nat} (hi : X.N[i]? = some x) (hj : X.N[j]? = some y) (hij : i ≠ j) (hx : X.env.scope.names.lookup x = some .local) (hy : X.env.scope.names.lookup y = some .local)
    (hw : swpS X.env.scope [.Name x px, .Name y py] [a, b] [x, y] = true) (h : PA X [a, b] (tEs g k W [ca, cb])) : PS X (.Assign [.Tuple [.Name x px, .Name y py] kt pt] (.Tuple [a, b] k2 pt2) pos) (tS g k W (.par [i, j] [ca, cb])) :=
  (ps_par G.calm G.nd hi hj hij hx hy h (swp_some G.kind hw)).imp fun D σ H h => by
    refine tS_bind (op := fun env xs s1 => match asgAll [i, j] xs env with
      | some env1 => .ok (.nx env1) s1
      | none => .bad) h fun z env ds vs ok re r post => ?_
    split at post
    · rename_i env1 hb
      obtain ⟨r1, r2, _⟩ := asg_renv hb re r
      match vs, r2, r1 with
      | [v, w], _, r1 => exact ⟨v, w, rfl, post.here ok _ r1⟩
    · exact post.elim
theorem ps_par3_ok (G : GS g k X W) {i j l : Nat} {x y z : Str} {px py pz pt pt2 : Pos} {kt k2 : Nat} (hi : X.N[i]? = some x) (hj : X.N[j]? = some y) (hl : X.N[l]? = some z) (hij : i ≠ j) (hil : i ≠ l) (hjl : j ≠ l) (hx : X.env.scope.names.lookup x = some .local) (hy : X.env.scope.names.lookup y = some .local) (hz : X.env.scope.names.lookup z = some .local)
    (hw : swpS X.env.scope [.Name x px, .Name y py, .Name z pz] [a, b, c] [x, y, z] = true) (h : PA X [a, b, c] (tEs g k W [ca, cb, cc])) : PS X (.Assign [.Tuple [.Name x px, .Name y py, .Name z pz] kt pt] (.Tuple [a, b, c] k2 pt2) pos) (tS g k W (.par [i, j, l] [ca, cb, cc])) :=
  (ps_par3 G.calm G.nd hi hj hl hij hil hjl hx hy hz h (swp_some G.kind hw)).imp fun D σ H h => by
    refine tS_bind (op := fun env xs s1 => match asgAll [i, j, l] xs env with
      | some env1 => .ok (.nx env1) s1
      | none => .bad) h fun z env ds vs ok re r post => ?_
    split at post
    · rename_i env1 hb
      obtain ⟨r1, r2, _⟩ := asg_renv hb re r
      match vs, r2, r1 with
      | [u, v, w], _, r1 => exact ⟨u, v, w, rfl, post.here ok _ r1⟩
    · exact post.elim
theorem reps_set {x : Wo} : ∀ {ds : List D} {vs : List V} (p : Nat) {d : D} {v : V}, Reps g x ds vs → Rep g x d v → Reps g x (ds.set p d) (vs.set p v)
  | [], _, _, _, _, h, _ => by simp only [Reps] at h; subst h; simp [Reps]
  | d :: ds, _, 0, _, _, h, r => by
    simp only [Reps] at h
    obtain ⟨v, r', rfl, h1, h2⟩ := h
    simp only [List.set_cons_zero, Reps]
    exact ⟨_, _, rfl, r, h2⟩
  | d :: ds, _, p + 1, _, _, h, r => by
    simp only [Reps] at h
    obtain ⟨v, r', rfl, h1, h2⟩ := h
    simp only [List.set_cons_succ, Reps]
    exact ⟨_, _, rfl, h1, reps_set p h2 r⟩
theorem noClos_set : ∀ {ds : List D} (p : Nat) {d : D}, noClos ds = true → noClo d = true → noClos (ds.set p d) = true
  | [], _, _, h, _ => by simpa using h
  | d :: ds, 0, _, h, r => by
    simp only [noClos, Bool.and_eq_true] at h
    simp only [List.set_cons_zero, noClos, Bool.and_eq_true]
    exact ⟨r, h.2⟩
  | d :: ds, p + 1, _, h, r => by
    simp only [noClos, Bool.and_eq_true] at h
    simp only [List.set_cons_succ, noClos, Bool.and_eq_true]
    exact ⟨h.1, noClos_set p h.2 r⟩
/-- a list's cell written -/
theorem cell_put {x : Wo} (ok : Ok g x) {n : Nat} {ad : Addr} {ds ds2 : List D} {vs2 : List V} (hm : x.m[n]? = some ad) (hs : x.s[n]? = some (.lst ds)) (r2 : Reps g x ds2 vs2) (hn : noClos ds2 = true) :
    Ext x ⟨x.m, x.s.set n (.lst ds2), upd x.h ad (.lst vs2), x.tm⟩ ∧ Ok g ⟨x.m, x.s.set n (.lst ds2), upd x.h ad (.lst vs2), x.tm⟩ := by
  have hlv : live x ad := .inr ⟨n, _, hm, hs, rfl⟩
  have hlt : n < x.s.length := (List.getElem?_eq_some_iff.mp hs).1
  obtain ⟨vs, hc, _⟩ := ok.cells n ad _ hm hs
  have e : Ext x ⟨x.m, x.s.set n (.lst ds2), upd x.h ad (.lst vs2), x.tm⟩ := by
    refine ⟨⟨⟨[], by simp⟩, fun n' c h1 h2 => ?_, fun b o h1 h2 h3 => ?_, fun b h f => ?_, fun n' b h1 h2 => ?_, ok.len, by simp [ok.len], fun _ h => .inl h⟩, rfl, fun b h => ?_⟩
    · by_cases hz : n' = n
      · subst hz
        rw [hs] at h1; cases h1; cases h2
      · exact ⟨c, by rw [List.getElem?_set_ne (Ne.symm hz)]; exact h1, h2⟩
    · have hb : b ≠ ad := fun z => h2 (by rw [z]; exact hlv)
      show upd x.h ad (.lst vs2) b = some o
      rw [upd_ne hb]; exact h1
    · by_cases hb : b = ad
      · subst hb
        exact not_free (x := ⟨x.m, x.s.set n (.lst ds2), upd x.h b (.lst vs2), x.tm⟩) upd_same (fun _ => by simp) f
      · refine h fun o q => f o ?_
        show upd x.h ad (.lst vs2) b = some o
        rw [upd_ne hb]; exact q
    · have h2 : x.m[n']? = some b := h2
      rw [List.getElem?_eq_none_iff.mpr h1] at h2; cases h2
    · have hb : b ≠ ad := fun z => ok.tmm b h (by rw [z]; exact List.mem_of_getElem? hm)
      show upd x.h ad (.lst vs2) b = x.h b
      rw [upd_ne hb]
  refine ⟨e, ⟨by simp [ok.len], ok.nd, fun n' b c h1 h2 => ?_, tabs_put ok.tabs fun u hu => ?_, fun b h => ?_, fun c h => ?_, ok.tmm, fun b h => ?_⟩⟩
  · by_cases hz : n' = n
    · subst hz
      have h1 : x.m[n']? = some b := h1
      rw [hm] at h1; cases h1
      have h2 : (x.s.set n' (.lst ds2))[n']? = some c := h2
      rw [List.getElem?_set_self hlt] at h2
      cases h2
      exact ⟨vs2, upd_same, r2.mono ok e⟩
    · have h1 : x.m[n']? = some b := h1
      have h2 : (x.s.set n (.lst ds2))[n']? = some c := h2
      rw [List.getElem?_set_ne (Ne.symm hz)] at h2
      have hb : b ≠ ad := fun z => by
        subst z
        exact hz ((List.getElem?_inj (List.getElem?_eq_some_iff.mp h1).1 ok.nd).mp (h1.trans hm.symm))
      exact (ok.cells n' b c h1 h2).monoW ok e.toExtW fun o q => by
        show upd x.h ad (.lst vs2) b = some o
        rw [upd_ne hb]; exact q
  · rw [hc] at hu; cases hu
    exact ⟨fun _ => by simp, fun _ => by simp⟩
  · by_cases hb : b = ad
    · subst hb
      exact ⟨_, upd_same, fun _ => by simp, fun _ => by simp⟩
    · obtain ⟨o, q1, q2⟩ := ok.all b h
      exact ⟨o, by show upd x.h ad (.lst vs2) b = some o; rw [upd_ne hb]; exact q1, q2⟩
  · rcases List.mem_or_eq_of_mem_set h with h | h
    · exact ok.nc c h
    · rw [h]; exact hn
  · obtain ⟨o, q1, q2⟩ := ok.tmk b h
    have hb : b ≠ ad := fun z => ok.tmm b h (by rw [z]; exact List.mem_of_getElem? hm)
    exact ⟨o, by show upd x.h ad (.lst vs2) b = some o; rw [upd_ne hb]; exact q1, q2⟩
theorem ps_setIdx_ok (G : GS g k X W) {i : Nat} {x : Str} {p p2 : Pos} (hi : X.N[i]? = some x) (hv : visB X.env.scope x = true) (hn : nmB x = true) (hns : notSlice a = true) (h : PE X e (tE g k W ce)) (hx : PE X a (tE g k W ca)) : PS X (.Assign [.Subscript (.Name x p) a p2] e pos) (tS g k W (.setIdx i ca ce)) := by
  have hg := pg_sub (X := X) (pos := p2) (pe_var (pos := p) hi (visB_ok hv) (nmB_ok hn).1 (nmB_ok hn).2) hx set_list (fun v => by cases a <;> first | rfl | cases hns)
  have h1 : swapsWithSole [.Subscript (.Name x p) a p2] e pos.line X.env = pure false := by
    show swapsWith e (some (.Subscript (.Name x p) a p2)) pos.line X.env = pure false
    unfold swapsWith
    cases e <;> rfl
  refine (ps_asg h hg h1 (by
    unfold swappedStores
    rfl)).imp fun D σ H h => ?_
  obtain ⟨z, env, rfl, ok, re, post⟩ := h
  refine ⟨z, env, rfl, ok, re, post.bind ok re fun y d v e1 oky rey ry py => ?_⟩
  split at py
  case h_2 => exact py.elim
  rename_i n hn'
  obtain ⟨v0, q1, q2⟩ := renv_get rey hn'
  rcases q2 with q2 | ⟨u, rfl, q2⟩
  · cases q2
  have q2' := q2
  simp only [Rep] at q2
  obtain ⟨ad, q3, rfl⟩ := q2
  refine ⟨.ref ad, q1, y, env, rfl, oky, rey, py.bind oky rey fun y2 d2 v2 e2 ok2 re2 r2 p2 => ?_⟩
  split at p2
  case h_2 => exact p2.elim
  rename_i ds jj hs
  split at p2
  case h_2 => exact p2.elim
  rename_i pp hpp
  split at p2
  case isFalse => exact p2.elim
  rename_i hnc
  simp only [Rep] at r2
  subst r2
  have hm2 := e2.get q3
  obtain ⟨vs, hc, rvs⟩ := ok2.cells n ad _ hm2 hs
  have ncs : noClos ds = true := ok2.nc _ (List.mem_of_getElem? hs)
  have rset := reps_set pp rvs (ry.mono oky e2)
  obtain ⟨eS, okS⟩ := cell_put ok2 hm2 hs rset (noClos_set pp ncs hnc)
  exact ⟨ad, vs, jj, pp, rfl, rfl, hc, by rw [reps_len rvs]; exact hpp, p2 _ eS okS rfl σ (re2.mono ok2 eS)⟩
end
end Fv
end

section
set_option Elab.async false
set_option linter.all false
set_option maxRecDepth 100000
set_option maxHeartbeats 4000000
set_option autoImplicit false
namespace Fv
open PySem PySem.Spec PyProof.Rows
section
variable {prog : Program} {w : World} {A : Around} {E : Value → Shared → Prop} {s : Shared}
theorem hot_ext {x1 b : Addr} {h h' : Heap} (hot : HotX.HotAt A x1 h) (e : Heap.ExtBut b h h') (n : x1 ≠ b) : HotX.HotAt A x1 h' := by
  obtain ⟨hh, o, vs, h1, d, c⟩ := hot
  exact ⟨hh, o, vs, e _ _ n h1, d, c⟩
theorem next_list_end_hot {it l x1 : Addr} {k : Nat} {vs : List Value} {Q : Value → Shared → Prop} (hot : HotX.HotAt A x1 s.heap) (hne : x1 ≠ it) (hi : ItAt s.heap it (.lst l) k) (hc : Cont s.heap (.lst l) vs) (hm : vs.length ≤ k)
    (hE : ∀ h' e, Heap.ExtBut it s.heap h' → (∃ o, h'.get? e = some o ∧ o.cls = .type "StopIteration") → E (.ref e) { s with heap := h' }) : wpAny (model prog w) A (Builtin.SmallTypes.nextOf (.ref it)) Q E s := by
  have hit : s.heap.IsListIter it l k := hi
  have hl : s.heap.IsList l vs.toArray := hc
  have hx : vs.toArray[k]? = none := by simpa using hm
  obtain ⟨o, ho, hcl, hd⟩ := id hit
  obtain ⟨ol, hol, _, nl, hdl⟩ := hl
  unfold Builtin.SmallTypes.nextOf
  refine wpAny_bind (wpAny_callSpecial?_slot (name := Str.ofString "__next__") hit.typeIs slot_listiter_next
    (wpAny_call_entry slot_listiter_next hit.typeIs entry_listiter_next ?_ (args_listiter_next _)))
  show wpAny _ _ (field (.ref it) 0 >>= _) _ _ s
  refine wpAny_bind (wpAny_field ho hd (x := .ref l) rfl ?_)
  show wpAny _ _ (if (Value.ref l == Value.none) = true then _ else _) _ _ s
  rw [if_neg (show ¬ ((Value.ref l == Value.none) = true) from Bool.false_ne_true)]
  show wpAny _ _ (field (.ref it) 1 >>= _) _ _ s
  refine wpAny_bind (wpAny_field ho hd (x := .int k 0) rfl ?_)
  show wpAny _ _ (seqItems? (.ref l) >>= _) _ _ s
  refine wpAny_bind (wpAny_seqItems hol hdl ?_)
  simp only [Int.toNat_natCast, hx]
  refine wpAny_bind (wpAny_rule (wpAny_bind (wpAny_setField ho hd (by simp) ?_)))
  show wpAny _ _ (newExc (.type "StopIteration") [] >>= _) _ _ _
  refine wpAny_bind ?_
  simp only [newExc, newTuple]
  refine wpAny_bind (wpAny_newObj_type ?_ (by size_fits))
  refine wpAny_bind (m := firstArgMember _ _) (wpAny_of_eq (a := Value.none) (by first | rfl | (simp only [firstArgMember]; rfl)) ?_)
  refine wpAny_newObj_type ?_ (by size_fits)
  obtain ⟨hh, o1, vs1, h1, d1, c1⟩ := hot
  have e1 : ∀ f, (s.heap.update it f).get? x1 = some o1 := fun f => (Heap.SameBut.update s.heap it f).extBut _ _ hne h1
  refine HotX.raiseNew_hot ⟨hh, o1, vs1, Heap.get?_push_of_some _ (Heap.get?_push_of_some _ (e1 _)), d1, c1⟩ (Nat.ne_of_lt (Heap.lt_size (Heap.get?_push_of_some _ (e1 _)))) (Heap.get?_push_size _ rfl) rfl (by first | (simp; done) | (simp; omega) | (simp only [Array.size_append]; simp; omega)) ?_
  refine hE _ _ (fun b o' n e => ?_) ⟨_, Heap.get?_update_self _ (Heap.get?_push_size _ rfl) rfl, rfl⟩
  have e2 : ∀ f, (s.heap.update it f).get? b = some o' := fun f => (Heap.SameBut.update s.heap it f).extBut _ _ n e
  rw [Heap.get?_update_other _ _ (Nat.ne_of_gt (Heap.lt_size (Heap.get?_push_of_some _ (e2 _))))]
  exact Heap.get?_push_of_some _ (Heap.get?_push_of_some _ (e2 _))
end
end Fv
namespace Fv
open PySem PySem.Spec PyProof.Rows
section
variable {prog : Program} {w : World} {A : Around} {E : Value → Shared → Prop} {s : Shared}
theorem zip2_end_hot {n0 k x1 : Nat} {l1 l2 : Addr} {v1 v2 : List Value} {a1 a2 : Value} {Q : Fin → Shared → Prop} (hot : HotX.HotAt A x1 s.heap) (hx : x1 < n0) (hz : ZipAt s.heap (n0 + 4) (n0 + 2) (n0 + 3) .none) (hTI : TupAt s.heap (n0 + 2) [.ref (n0 + 0), .ref (n0 + 1)]) (hTO : TupAt s.heap (n0 + 3) [a1, a2])
    (w1 : ItAt s.heap (n0 + 0) (.lst l1) k) (c1 : Cont s.heap (.lst l1) v1) (o1 : ∀ b, n0 ≤ b → l1 ≠ b) (m : v1.length ≤ k)
    (hE : ∀ h' tk e, (∀ c o, c ≠ (n0 + 4) → c ≠ (n0 + 3) → c ≠ (n0 + 0) → c ≠ (n0 + 1) → s.heap.get? c = some o → h'.get? c = some o) → (∃ o, h'.get? e = some o ∧ o.cls = .type "StopIteration") → E (.ref e) { s with heap := h', toks := tk }) :
    wpAny (model prog w) A (Builtin.«zip.__next__» ⟨[.ref (n0 + 4)], []⟩) Q E s := by
  have nx : ∀ j, x1 ≠ n0 + j := fun j => Nat.ne_of_lt (Nat.lt_of_lt_of_le hx (Nat.le_add_right _ _))
  show wpAny _ _ (field (.ref (n0 + 4)) 2 >>= _) _ _ _
  refine wpAny_bind (wpAny_field hz rfl (x := .bool false) rfl ?_)
  show wpAny _ _ (field (.ref (n0 + 4)) 3 >>= _) _ _ _
  refine wpAny_bind (wpAny_field hz rfl (x := .ref (n0 + 2)) rfl ?_)
  refine wpAny_bind (wpAny_seqItems hTI rfl ?_)
  show wpAny _ _ (Builtin.SmallTypes.ownedTupleIsFree (.ref (n0 + 4)) >>= _) _ _ _
  refine wpAny_bind ?_
  unfold Builtin.SmallTypes.ownedTupleIsFree
  refine wpAny_bind (wpAny_field hz rfl (x := .none) rfl (wpAny_pure ?_))
  simp only [if_true]
  refine wpAny_bind (wpAny_rule ?_)
  refine wpAny_bind (wpAny_field hz rfl (x := .ref (n0 + 3)) rfl ?_)
  refine wpAny_bind (wpAny_setField_rec hz (by simp) fun g0 z0 s0 => ?_)
  replace z0 : ZipAt g0 (n0 + 4) (n0 + 2) (n0 + 3) .ellipsis := z0
  have e0 : Heap.ExtBut (n0 + 4) s.heap g0 := s0.extBut
  have w10 := w1.ext e0 (succ_ne _ (by decide))
  have c10 := c1.ext e0 (o1 _ (Nat.le_add_right _ _))
  have hot0 := hot_ext hot e0 (nx 4)
  refine wpAny_bind ?_
  simp only [List.zipIdx_cons, List.zipIdx_nil, List.forIn_cons, List.forIn_nil]
  refine wpAny_bind (wpAny_bind (wpAny_onRaise ?_))
  show wpAny _ _ (Builtin.SmallTypes.nextOf (.ref (n0 + 0)) >>= _) _ _ _
  refine wpAny_bind (next_list_end_hot hot0 (nx 0) w10 c10 m fun gE e eE he => ?_)
  obtain ⟨oe, hoe, hce⟩ := he
  have zE : ZipAt gE (n0 + 4) (n0 + 2) (n0 + 3) .ellipsis := eE _ _ (succ_ne _ (by decide)) z0
  have hez : e ≠ (n0 + 4) := fun q => by rw [q, zE] at hoe; cases hoe; simp at hce
  refine wpAny_setField_rec zE (by simp) fun gF _ sF => ?_
  exact hE gF _ e (fun c o h1 h2 i1n i2n q => sF.extBut _ _ h1 (eE c o i1n (e0 c o h1 q))) ⟨oe, sF.extBut _ _ hez hoe, hce⟩
theorem pyNext_zip2_end_hot {n0 k x1 : Nat} {l1 l2 : Addr} {v1 v2 : List Value} {a1 a2 : Value} {Q : Option Value → Shared → Prop} (hot : HotX.HotAt A x1 s.heap) (hx : x1 < n0) (hz : ZipAt s.heap (n0 + 4) (n0 + 2) (n0 + 3) .none) (hTI : TupAt s.heap (n0 + 2) [.ref (n0 + 0), .ref (n0 + 1)]) (hTO : TupAt s.heap (n0 + 3) [a1, a2])
    (w1 : ItAt s.heap (n0 + 0) (.lst l1) k) (c1 : Cont s.heap (.lst l1) v1) (o1 : ∀ b, n0 ≤ b → l1 ≠ b) (m : v1.length ≤ k)
    (hQ : ∀ h' tk, (∀ c o, c ≠ (n0 + 4) → c ≠ (n0 + 3) → c ≠ (n0 + 0) → c ≠ (n0 + 1) → s.heap.get? c = some o → h'.get? c = some o) → Q none { s with heap := h', toks := tk }) :
    wpAny (model prog w) A (pyNext (.ref (n0 + 4))) Q E s := by
  have hT : s.TypeIs (.ref (n0 + 4)) "zip" := ⟨_, hz, rfl⟩
  unfold pyNext
  refine wpAny_bind (wpAny_attempt (wpAny_callSpecial?_slot (name := Str.ofString "__next__") hT F.slot_zip_next
    (wpAny_call_entry F.slot_zip_next hT F.entry_zip_next (zip2_end_hot (l2 := l2) (v2 := v2) hot hx hz hTI hTO w1 c1 o1 m fun h' tk e hk he => ?_) (F.args_zip_next_1 _))))
  obtain ⟨o, ho, hc⟩ := he
  refine wpAny_bind (wpAny_isInstance (T := "StopIteration") (b := true) ⟨o, ho, hc⟩ isSubtype_stop ?_)
  exact wpAny_pure (hQ _ tk hk)
end
end Fv
end

section
set_option Elab.async false
set_option linter.all false
set_option maxRecDepth 100000
set_option maxHeartbeats 4000000
set_option autoImplicit false
namespace Fv
open PySem PySem.Spec PyProof.Rows L2
/-- p is the handled exception, and pinned -/
def HotC1 (X : Cx) (p : Addr × Obj) : Prop := L2H.Hot1 X.A p ∧ p ∈ X.pn
structure TurnZ (P : Program) (w : World) (K : PySem.W.Frag) (x1 : Addr) (tg : PySem.Expr) (J : It) (fp : List Addr) (it : Addr) (tn : Nat → Heap → Prop) : Prop where
  mem : it ∈ fp
  obj : ∀ i h, tn i h → ∀ b ∈ fp, ∃ o, h.get? b = some o ∧ ∀ v, o.data ≠ .cell v
  keep : ∀ i h h', tn i h → (∀ b ∈ fp, ∀ o, h.get? b = some o → h'.get? b = some o) → tn i h'
  item : ∀ (X : Cx), X.prog = P → X.w = w → X.K = K → ∀ (i : Nat) (pins : List (Addr × Obj)) (s : Shared) (σ : St) (H : Hp) (E : Value → Shared → Prop), L2.Inv X pins σ H s → (∀ b ∈ fp, FpOk X pins H b) → tn i s.heap → J.go i H →
    wpAny (model P w) X.A (pyNext (.ref it)) (fun r s1 => ∃ u, r = some u ∧
      wpAny (model P w) X.A (letOwnedTupleGo tg (.ref it) u) (fun _ s2 => ∃ x H', L2.Inv X pins σ H' s2 ∧ RelV x u ∧ J.yld i H x H' ∧ tn (i + 1) s2.heap ∧ ∀ b ∈ fp, H' b = none) E s1) E s
  done : ∀ (X : Cx), X.prog = P → X.w = w → X.K = K → ∀ (i : Nat) (pins : List (Addr × Obj)) (s : Shared) (σ : St) (H : Hp) (E : Value → Shared → Prop), HotX.HotAt X.A x1 s.heap → L2.Inv X pins σ H s → (∀ b ∈ fp, FpOk X pins H b) → tn i s.heap → J.stop i H →
    wpAny (model P w) X.A (pyNext (.ref it)) (fun r s1 => r = none ∧ L2.Inv X pins σ H s1) E s
  self : ∀ (A : Around) (i : Nat) (s : Shared) (Q : Value → Shared → Prop) (E : Value → Shared → Prop), tn i s.heap → Q (.ref it) s → wpAny (model P w) A (pyIter (.ref it)) Q E s
structure PIZ (X : Cx) (x1 : Addr) (tg iter : PySem.Expr) (wi : TI) : Prop where
  run : ∀ (pins : List (Addr × Obj)) (s : Shared) (σ : St) (H : Hp) (R : It → Hp → Prop), L2.Inv X pins σ H s → wi σ H R →
    wpAny (model X.prog X.w) X.A (eval iter X.env) (fun v s1 => wpAny (model X.prog X.w) X.A (pyIter v) (fun itv s2 =>
      ∃ (it : Addr) (fp : List Addr) (tn : Nat → Heap → Prop) (J : It) (H' : Hp), itv = .ref it ∧ L2.Inv X pins σ H' s2 ∧ TurnZ X.prog X.w X.K x1 tg J fp it tn ∧ tn 0 s2.heap ∧ (∀ b ∈ fp, FpOk X pins H' b) ∧ R J H') X.xe s1) X.xe s
/-- the lists at a and b, the first not longer -/
def Izh (K : PySem.W.Frag) (a b : Addr) : It :=
  ⟨(Izs2 K (.lst a) (.lst b)).go, (Izs2 K (.lst a) (.lst b)).yld, fun i H => ∃ l : List V, SqL K H a l ∧ l.length ≤ i⟩
theorem turn_zh {P : Program} {w : World} {K : PySem.W.Frag} {elts : List PySem.Expr} {kk : Nat} {tpos : Pos} {a b n0 x1 : Nat} (hx : x1 < n0) (oa : ∀ c, n0 ≤ c → a ≠ c) (ob : ∀ c, n0 ≤ c → b ≠ c) :
    TurnZ P w K x1 (.Tuple elts kk tpos) (Izh K a b) [(n0 + 4), (n0 + 2), (n0 + 3), (n0 + 0), (n0 + 1)] (n0 + 4)
      (fun i h => ZipAt h (n0 + 4) (n0 + 2) (n0 + 3) .none ∧ TupAt h (n0 + 2) [.ref (n0 + 0), .ref (n0 + 1)] ∧ (∃ a1 a2, TupAt h (n0 + 3) [a1, a2]) ∧ ItAt h (n0 + 0) (.lst a) i ∧ ItAt h (n0 + 1) (.lst b) i) :=
  let T := turn_zs2 (P := P) (w := w) (K := K) (elts := elts) (kk := kk) (tpos := tpos) (q1 := .lst a) (q2 := .lst b) (z1 := .lst a) (z2 := .lst b) (n0 := n0) rfl trivial oa rfl trivial ob
  { mem := T.mem
    obj := T.obj
    keep := T.keep
    item := zs2_it (q1 := .lst a) (q2 := .lst b) (z1 := .lst a) (z2 := .lst b) rfl trivial oa rfl trivial ob
    self := T.self
    done := by
      intro X hP hw hK i pins s σ H E hot I hf st hg
      subst hP hw hK
      obtain ⟨hz, hTI, ⟨a1, a2, hTO⟩, h1, h2⟩ := st
      obtain ⟨l1, y1, hend⟩ := hg
      obtain ⟨t1, c1, _, d1⟩ := vit_in I (q := .lst a) (z := .lst a) rfl y1
      have he : t1.length ≤ i := d1 i hend
      exact pyNext_zip2_end_hot (l2 := b) (v2 := []) hot hx hz hTI hTO h1 c1 oa he fun h' tk hk => ⟨rfl, I.turnedL (t' := tk) (ch := [(n0 + 4), (n0 + 2), (n0 + 3), (n0 + 0), (n0 + 1)]) (fun c o hb q =>
        hk c o (fun q' => hb (by simp [q'])) (fun q' => hb (by simp [q'])) (fun q' => hb (by simp [q'])) (fun q' => hb (by simp [q'])) q) hf⟩ }
def iZh (K : PySem.W.Frag) (ta : TA) : TI := fun σ H R => ta σ H fun vs H1 => ∃ (a b : Addr) (l1 l2 : List V), vs = [.ref a, .ref b] ∧ SqL K H1 a l1 ∧ SqL K H1 b l2 ∧ R (Izh K a b) H1
theorem pi_zh {X : Cx} {p : Addr × Obj} (hot : HotC1 X p) {e1 e2 : PySem.Expr} {ta : TA} {ps pos tpos : Pos} {elts : List PySem.Expr} {kk : Nat} (hg : Gl X "zip") (hm : X.mg "zip" = none) (ha : PA X [e1, e2] ta)
    (hs : starEach [e1, e2] X.env = (false, eval e1 X.env) :: starEach [e2] X.env) (hpl : (backTo pos (starEach [e2] X.env)).any (·.1) = false) :
    PIZ X p.1 (.Tuple elts kk tpos) (.Call (.Name "zip" ps) [e1, e2] [] pos) (iZh X.K ta) := by
  refine ⟨fun pins s σ H R I h => ?_⟩
  refine Call_ (ld_blt I hg hm PyProof.Rows.boot_zip (PyProof.Rows.callWith_type1 (thn (ha.run pos pins s σ H _ I h) fun us s1 ⟨vs, H1, I1, r1, w1⟩ => ?_) hs hpl))
  obtain ⟨a, b, l1, l2, ex, y1, y2, q⟩ := w1
  subst ex
  obtain _ | ⟨r1a, r1⟩ := r1
  obtain _ | ⟨r2, r1⟩ := r1
  cases r1
  cases r1a
  cases r2
  obtain ⟨t1, c1, _, _⟩ := vit_in I1 (q := .lst a) (z := .lst a) rfl y1
  obtain ⟨t2, c2, _, _⟩ := vit_in I1 (q := .lst b) (z := .lst b) rfl y2
  refine zip_begins2 (begins_src (.lst a) trivial t1) (begins_src (.lst b) trivial t2) c1 c2 fun h' hz hTI hTO h1 h2 hsz hk => ?_
  refine wpAny_pyIter_zip hz ?_
  have I2 : L2.Inv X pins σ H1 { s1 with heap := h' } := I1.kept (t' := s1.toks) hk
  have PP := I1.pin p (List.mem_append_left _ hot.2)
  refine ⟨s1.heap.objs.size + 4, _, _, _, H1, rfl, I2, turn_zh (n0 := s1.heap.objs.size) (Heap.lt_size PP.1) (vit_off I1 (q := .lst a) (z := .lst a) rfl y1 (Nat.le_refl _)) (vit_off I1 (q := .lst b) (z := .lst b) rfl y2 (Nat.le_refl _)), ⟨hz, hTI, ⟨_, _, hTO⟩, itAt_new h1, itAt_new h2⟩, fun c hcm => ?_, q⟩
  have hle : s1.heap.objs.size ≤ c := by
    simp only [List.mem_cons, List.not_mem_nil, or_false] at hcm
    rcases hcm with q | q | q | q | q <;> rw [q] <;> exact Nat.le_add_right _ _
  exact I1.fpOk hle (I1.hok.fresh hle)
section
variable {X : Cx}
theorem pe_lcH {p : Addr × Obj} {elt tg iter : PySem.Expr} {ifs : List PySem.Expr} {scope : Scope} {own : List (Str × Nat)} {pos : Pos} {wi : TI} {g : TG} {tt : TT} {te : TE} (hot : HotC1 X p) (hN : X.N.Nodup) (hi : PIZ X p.1 tg iter wi) (ok : BlkOk X.N X.env.scope scope own)
    (hs : ∀ x, foldedSetIterable iter X.env x = pure x)
    (hb : ∀ (s : Shared) (H : Hp) (C : Addr) (cl : List (Str × Addr)) (fp : List Addr), (∀ (pins : List (Addr × Obj)) (σ : St) (H2 : Hp) (s2 : Shared), Inv (X.blk s H scope (compEnvC scope cl C X.env) fp) pins σ H2 s2 → HotX.HotAt X.A p.1 s2.heap) →
      PG (X.blk s H scope (compEnvC scope cl C X.env) fp) tg g ∧ PTs (X.blk s H scope (compEnvC scope cl C X.env) fp) ifs tt ∧ PE (X.blk s H scope (compEnvC scope cl C X.env) fp) elt te) :
    PE X (.ListComp elt [⟨tg, iter, ifs, 0⟩] scope pos) (tLc wi g tt te (own.map (·.2))) := by
  constructor
  intro pins s0 σ H0 Q I0 hw
  rw [eval_ListComp]
  have hcap : ∀ y ∈ scope.names, y.2 = .free → ∃ c, X.env.cells.lookup y.1 = some c := fun y hy e => (ok.free y hy e).elim (fun q => I0.ok.has _ (.inl q)) fun q => I0.ok.has _ (.inr q)
  refine wpAny_comprehension_free (use := none) rfl hs (closure_ok hcap) ok.kind (fun y hy e => (ok.uniq y hy).trans (by rw [e])) ?_
  refine thn (hi.run pins s0 σ H0 _ I0 hw) fun seqv s1 hx => ?_
  refine thn hx fun itv s2 h2 => ?_
  obtain ⟨it, fp, tn, J, Hi, rfl, Ii, T, sti, fpi, turns⟩ := h2
  refine wpAny_newObj_type (newEnv_comp ?_) (by show 0 ≤ sizeLine; decide)
  have PP := Ii.pin p (List.mem_append_left _ hot.2)
  have npfp : p.1 ∉ fp := fun m => (fpi _ m).2.2.2.2.2 p (List.mem_append_left _ hot.2) rfl
  obtain ⟨D, hD⟩ : ∃ D, D = s2.heap.objs.size := ⟨_, rfl⟩
  rw [← hD]
  have freshD : Hi D = none := Ii.hok.fresh (by rw [hD]; exact Nat.le_refl _)
  obtain ⟨Wv, ⟨m0, w0⟩, turn⟩ := turns D freshD
  obtain ⟨sL, hsL⟩ : ∃ t : Shared, t = { s2 with heap := s2.heap.push { cls := .type "list", data := .seq ([] : List Value).toArray } } := ⟨_, rfl⟩
  rw [← hsL]
  have hpL : sL.heap = s2.heap.push { cls := .type "list", data := .seq ([] : List Value).toArray } := by rw [hsL]
  have old : ∀ b o, s2.heap.get? b = some o → sL.heap.get? b = some o := fun b o e => by rw [hpL]; exact Heap.get?_push_of_some _ e
  have IL : Inv X pins σ (upd Hi D (.lst [])) sL := by
    have hx := Heap.get?_push_size s2.heap (o := { cls := .type "list", data := .seq ([] : List Value).toArray }) rfl
    rw [hsL]
    refine Ii.laid (t' := s2.toks) (fun b o e => Heap.get?_push_of_some _ e) (by rw [hD]; exact Nat.le_refl _) ⟨Nat.zero_le _, [], 0, .nil, ?_⟩
    rw [hD]; exact hx
  have fpL : ∀ b ∈ fp, FpOk X pins (upd Hi D (.lst [])) b ∧ b < sL.heap.objs.size := by
    intro b hb
    obtain ⟨ob, eb, _⟩ := T.obj _ _ sti b hb
    have hlt := Heap.lt_size eb
    have hne : b ≠ D := by rw [hD]; exact Nat.ne_of_lt hlt
    exact ⟨⟨by rw [upd_ne hne]; exact (fpi b hb).1, (fpi b hb).2⟩, by rw [hpL, Heap.size_push]; exact Nat.lt_succ_of_lt hlt⟩
  have stL : tn 0 sL.heap := T.keep _ _ _ sti fun b _ o e => old b o e
  obtain ⟨cl, hcl⟩ : ∃ l, l = blkCl X (sL.heap.objs.size + 1) scope := ⟨_, rfl⟩
  obtain ⟨env, henv⟩ : ∃ e, e = compEnvC scope cl sL.heap.objs.size X.env := ⟨_, rfl⟩
  have IB := block_start IL ok hN fpL
  have PL : sL.heap.get? p.1 = some p.2 := old _ _ PP.1
  have PH : upd Hi D (.lst []) p.1 = none := by
    rw [upd_ne (by rw [hD]; exact Nat.ne_of_lt (Heap.lt_size PP.1))]; exact PP.2.1
  have PF : p.1 ∉ frs X.stack := fun hm => (List.mem_cons.mp (Ii.stkSub p.1 hm)).elim PP.2.2.1 PP.2.2.2.1
  have hotB : ∀ (cl : List (Str × Addr)) (C : Addr) (pins' : List (Addr × Obj)) (σ' : St) (H' : Hp) (s' : Shared), Inv (X.blk sL (upd Hi D (.lst [])) scope (compEnvC scope cl C X.env) fp) pins' σ' H' s' → HotX.HotAt X.A p.1 s'.heap := fun cl C pins' σ' H' s' I' => by
    obtain ⟨⟨hh, v1, e1, c1⟩, _⟩ := hot
    exact ⟨hh, p.2, v1, I'.base.keep p.1 p.2 PL PH PF npfp, e1, c1⟩
  obtain ⟨pg, pt, pe⟩ := hb sL (upd Hi D (.lst [])) sL.heap.objs.size cl fp (fun pins' σ' H' s' I' => hotB cl _ pins' σ' H' s' I')
  have IB : Inv (X.blk sL (upd Hi D (.lst [])) scope env fp) [] (wipe σ (own.map (·.2))) (upd Hi D (.lst [])) { sL with heap := pushCells (sL.heap.push { cls := .type "dict", data := .dict #[] }) scope.names } := by
    rw [henv, hcl]; exact IB
  have hotB := fun pins' σ' H' s' => hotB cl sL.heap.objs.size pins' σ' H' s'
  rw [← henv] at pg pt pe hotB
  have eL : env.locals = sL.heap.objs.size := by rw [henv]; rfl
  show codeAny _ _ (.compStart (.ListComp elt [⟨tg, iter, ifs, 0⟩] scope pos) 0 (.ref it) (.ref D) (compEnvC scope (blkCl X (sL.heap.objs.size + 1) scope) sL.heap.objs.size X.env)) (compPost (model X.prog X.w) X.A X.xe none (EP X pins σ Q) (.ref D) sL.heap.objs.size) { sL with heap := pushCells (sL.heap.push { cls := .type "dict", data := .dict #[] }) scope.names }
  rw [← hcl, ← henv]
  obtain ⟨HL, hHL⟩ : ∃ h, h = upd Hi D (.lst []) := ⟨_, rfl⟩
  have nL : ∀ b ∈ fp, HL b = none := fun b hb => by rw [hHL]; exact (fpL b hb).1.1
  rw [← hHL] at IL IB pg pt pe w0 hotB
  have still : ∀ {σ' : St} {H' : Hp} {s' : Shared}, Inv (X.blk sL HL scope env fp) [] σ' H' s' → (∀ b ∈ fp, H' b = none) → ∀ b ∈ fp, FpOk (X.blk sL HL scope env fp) [] H' b := by
    intro σ' H' s' I' hn b hb'
    have hx := I'.ok.exf b hb'
    exact ⟨hn b hb', hx.1, I'.ok.exfs b hb', .inl hb', fun x c e => hx.2 x c e, fun p hp => nomatch (show p ∈ ([] : List (Addr × Obj)) ++ [] from hp)⟩
  have st0 : tn 0 ({ sL with heap := pushCells (sL.heap.push { cls := .type "dict", data := .dict #[] }) scope.names } : Shared).heap := T.keep _ _ _ stL fun b _ o e => pushCells_keeps _ _ _ _ (Heap.get?_push_of_some _ e)
  have loop : codeAny (model X.prog X.w) X.A (.compLoop (.ListComp elt [⟨tg, iter, ifs, 0⟩] scope pos) 0 (.ref it) (.ref D) env) (compPost (model X.prog X.w) X.A X.xe none (EP X pins σ Q) (.ref D) sL.heap.objs.size) { sL with heap := pushCells (sL.heap.push { cls := .type "dict", data := .dict #[] }) scope.names } := ?_
  · exact codeAny_compStart_list loop (T.self X.A 0 _ _ _ st0 loop)
  refine compLoop_any (fun n t => ∃ (i : Nat) (Ht : Hp), Wv i n Ht ∧ (∀ b ∈ fp, Ht b = none) ∧ tn i t.heap ∧ Inv (X.blk sL HL scope env fp) [] (wipe σ (own.map (·.2))) Ht t) ?_ m0 ⟨0, HL, w0, nL, st0, IB⟩
  intro n t ht
  obtain ⟨i, Ht, wt, nt, stt, It⟩ := ht
  rcases turn i n Ht wt with ⟨stop, hQ⟩ | ⟨go, Nx, hNx, step⟩
  · refine thnF (T.done (X.blk sL HL scope env fp) rfl rfl rfl i [] t _ Ht (fun _ _ => False) (hotB _ _ _ _ It) It (still It nt) stt stop) fun r t1 hr => ?_
    obtain ⟨hr, I1⟩ := hr
    subst hr
    have nC : Ht sL.heap.objs.size = none := by
      have q : Ht env.locals = none := I1.free
      rwa [eL] at q
    obtain ⟨m, hm, _⟩ := I1.loc
    have hm : t1.heap.Ns env.locals m := hm
    rw [eL] at hm
    have I2 : Inv X pins σ Ht t1 := IL.call' (ch := fp) I1.os I1.base I1.hok I1.bare fun b hb' => by
      obtain ⟨_, a2, a3, a4, a5, a6⟩ := (fpL b hb').1
      exact ⟨a4, a2, a5, a6⟩
    obtain ⟨f0, f1, f2, f3, f4, f5⟩ := IL.fpOk (Nat.le_refl _) nC
    exact ⟨m, hm, fun h'' sb => ⟨.ref D, Ht, I2.turned (t' := t1.toks) (fun b o hb' e => (sb.2 b hb').trans e) f0 f1 f3 f4 f5, rfl, hQ⟩⟩
  · refine thnF (T.item (X.blk sL HL scope env fp) rfl rfl rfl i [] t _ Ht (fun _ _ => False) It (still It nt) stt go) fun r t1 hr => ?_
    obtain ⟨u, hr, h1⟩ := hr
    subst hr
    refine thnF h1 fun _ t2 h2 => ?_
    obtain ⟨x, H2, I2, rx, y2, st2, n2⟩ := h2
    have P2 := I2.pinned (still I2 n2) (T.obj _ _ st2)
    refine thnF (pg.run _ t2 _ H2 x u _ P2 rx (step x H2 y2)) fun _ t3 h3 => ?_
    obtain ⟨σ3, H3, I3, hw3, q3⟩ := h3
    have close : ∀ {t' : Shared} {H' : Hp}, Nx H' → Inv (X.blk sL HL scope env fp) ([] ++ pinsAt fp t2.heap) σ3 H' t' →
        ∃ m, m < n ∧ ∃ (i : Nat) (Ht : Hp), Wv i m Ht ∧ (∀ b ∈ fp, Ht b = none) ∧ tn i t'.heap ∧ Inv (X.blk sL HL scope env fp) [] (wipe σ (own.map (·.2))) Ht t' := by
      intro t' H' nx I'
      obtain ⟨m', hlt, w'⟩ := hNx H' nx
      have pinned : ∀ b ∈ fp, ∀ o, t2.heap.get? b = some o → t'.heap.get? b = some o ∧ H' b = none := by
        intro b hb' o e
        have z := I'.pin (b, o) (List.mem_append_right _ (List.mem_append_right _ (mem_pinsAt hb' e)))
        exact ⟨z.1, z.2.1⟩
      refine ⟨m', hlt, i + 1, H', w', fun b hb' => ?_, T.keep _ _ _ st2 fun b hb' o e => (pinned b hb' o e).1, ?_⟩
      · obtain ⟨o, e, _⟩ := T.obj _ _ st2 b hb'
        exact (pinned b hb' o e).2
      · refine (I'.unpinned (pins := [])).weak ?_ fun j v e => ?_
        · rw [← hw3, wipe_length]
        · rw [← hw3] at e
          exact (wipe_some e).1
    refine thnF (pt.run _ t3 σ3 H3 _ I3 q3) fun b t4 h4 => ?_
    obtain ⟨H4, I4, q4⟩ := h4
    cases b
    · rw [if_neg (by decide)] at q4 ⊢
      exact close q4 I4
    · rw [if_pos rfl] at q4 ⊢
      refine thnF (pe.run _ t4 σ3 H4 _ I4 q4) fun v t5 h5 => ?_
      obtain ⟨yv, H5, I5, rv, acc, hacc, hlen, nx⟩ := h5
      exact app_ok (X := X.blk sL HL scope env fp) I5 hacc hlen rv fun t6 I6 => close nx I6
end
end Fv
end

section
set_option Elab.async false
set_option linter.all false
set_option maxRecDepth 100000
set_option maxHeartbeats 4000000
set_option autoImplicit false
namespace Fv
open PySem PySem.Spec PyProof.Rows
section
variable {prog : Program} {w : World} {A : Around} {E : Value → Shared → Prop} {s : Shared}
theorem next_tuple_end_hot {it t x1 : Addr} {i : Nat} {items : Array Value} {Q : Option Value → Shared → Prop} (hot : HotX.HotAt A x1 s.heap) (hne : x1 ≠ it) (hit : IsTupIter s.heap it t i) (ht : IsTup s.heap t items) (hx : items[i]? = none)
    (hQ : ∀ h', Heap.ExtBut it s.heap h' → Q none { s with heap := h' }) : wpAny (model prog w) A (pyNext (.ref it)) Q E s := by
  have hT : s.TypeIs (.ref it) "tuple_iterator" := by obtain ⟨o, h1, h2, _⟩ := hit; exact ⟨o, h1, h2⟩
  obtain ⟨o, ho, hc, hd⟩ := id hit
  obtain ⟨ol, hol, _, nl, hdl⟩ := ht
  unfold pyNext
  refine wpAny_bind (wpAny_attempt (wpAny_callSpecial?_slot (name := Str.ofString "__next__") hT slot_tupleiter_next
    (wpAny_call_entry slot_tupleiter_next hT entry_tupleiter_next ?_ (args_tupleiter_next _))))
  show wpAny _ _ (field (.ref it) 0 >>= _) _ _ s
  refine wpAny_bind (wpAny_field ho hd (x := .ref t) rfl ?_)
  show wpAny _ _ (if (Value.ref t == Value.none) = true then _ else _) _ _ s
  rw [if_neg (show ¬ ((Value.ref t == Value.none) = true) from Bool.false_ne_true)]
  show wpAny _ _ (field (.ref it) 1 >>= _) _ _ s
  refine wpAny_bind (wpAny_field ho hd (x := .int i 0) rfl ?_)
  show wpAny _ _ (seqItems? (.ref t) >>= _) _ _ s
  refine wpAny_bind (wpAny_seqItems hol hdl ?_)
  simp only [Int.toNat_natCast, hx]
  refine wpAny_bind (wpAny_rule (wpAny_bind (wpAny_setField ho hd (by simp) ?_)))
  show wpAny _ _ (newExc (.type "StopIteration") [] >>= _) _ _ _
  refine wpAny_bind ?_
  simp only [newExc, newTuple]
  refine wpAny_bind (wpAny_newObj_type ?_ (by size_fits))
  refine wpAny_bind (m := firstArgMember _ _) (wpAny_of_eq (a := Value.none) (by first | rfl | (simp only [firstArgMember]; rfl)) ?_)
  refine wpAny_newObj_type ?_ (by size_fits)
  obtain ⟨hh, o1, vs1, h1, d1, c1⟩ := hot
  have e1 : ∀ f, (s.heap.update it f).get? x1 = some o1 := fun f => (Heap.SameBut.update s.heap it f).extBut _ _ hne h1
  refine HotX.raiseNew_hot ⟨hh, o1, vs1, Heap.get?_push_of_some _ (Heap.get?_push_of_some _ (e1 _)), d1, c1⟩ (Nat.ne_of_lt (Heap.lt_size (Heap.get?_push_of_some _ (e1 _)))) (Heap.get?_push_size _ rfl) rfl (by first | (simp; done) | (simp; omega) | (simp only [Array.size_append]; simp; omega)) ?_
  refine wpAny_bind (wpAny_isInstance (T := "StopIteration") (b := true) ⟨_, Heap.get?_update_self _ (Heap.get?_push_size _ rfl) rfl, rfl⟩ isSubtype_stop ?_)
  refine wpAny_pure (hQ _ fun b o' n e => ?_)
  have e2 : ∀ f, (s.heap.update it f).get? b = some o' := fun f => (Heap.SameBut.update s.heap it f).extBut _ _ n e
  rw [Heap.get?_update_other _ _ (Nat.ne_of_gt (Heap.lt_size (Heap.get?_push_of_some _ (e2 _))))]
  exact Heap.get?_push_of_some _ (Heap.get?_push_of_some _ (e2 _))
theorem unpack_tuple_hot {t x1 : Addr} {items : Array Value} {targets : List (Bool × (Value → Sem Unit))} {Q : Unit → Shared → Prop} (hot : HotX.HotAt A x1 s.heap) (ht : IsTup s.heap t items)
    (hn : targets.length = items.size) (hstar : targets.findIdx? (·.1) = none)
    (h : ∀ h', Heap.ExtBut s.heap.objs.size s.heap h' → wpAny (model prog w) A (assignInOrder (targets.map (·.2)) items.toList) Q E { s with heap := h' }) :
    wpAny (model prog w) A (unpack (.ref t) targets) Q E s := by
  have hlt : t ≠ s.heap.objs.size := by obtain ⟨o, ho, _⟩ := ht; exact Nat.ne_of_lt (Heap.lt_size ho)
  obtain ⟨hh, o1, vs1, h1, d1, c1⟩ := hot
  have hx1 : x1 ≠ s.heap.objs.size := Nat.ne_of_lt (Heap.lt_size h1)
  unfold unpack
  rw [hn, hstar]
  refine wpAny_bind (wpAny_holding ?_)
  show wpAny _ _ (unpackItems (.ref t) items.size none) _ _ _
  unfold unpackItems
  refine wpAny_bind ?_
  unfold notIterableAtAll
  refine wpAny_bind (wpAny_specialOf ht.typeIs slot_tuple_iter.lookup ?_)
  refine wpAny_pure ?_
  simp only [Bool.false_eq_true, if_false]
  refine wpAny_bind (wpAny_holding (iter_tuple ht ?_))
  refine wpAny_bind (wpAny_holding (draw_tuple hlt items.size 0 _ _ ⟨_, Heap.get?_push_size _ rfl, rfl, rfl⟩ (ht.push _) (by omega) fun h₁ hit₁ hs₁ => ?_))
  have hall : List.take items.size (List.drop 0 items.toList) = items.toList := by
    rw [List.drop_zero]; exact List.take_of_length_le (by simp)
  rw [hall]
  rw [if_neg (by simp)]
  have ht₁ : IsTup h₁ t items := (ht.push _).extBut hs₁.extBut hlt
  refine wpAny_bind (wpAny_holding (next_tuple_end_hot ⟨hh, o1, vs1, hs₁.extBut _ _ hx1 (Heap.get?_push_of_some _ h1), d1, c1⟩ hx1 hit₁ ht₁ (by simp) fun h₂ he₂ => ?_))
  simp only [Option.isSome_none, Bool.false_eq_true, if_false]
  exact wpAny_pure (h h₂ fun b o hb e => he₂ b o hb (hs₁.extBut b o hb (Heap.get?_push_of_some _ e)))
end
open L2
theorem pg_tupH {X : Cx} {p : Addr × Obj} {es : List PySem.Expr} {k : Nat} {t : TGs} {n : Nat} {pos : Pos} (hot : ∀ (pins : List (Addr × Obj)) (σ : St) (H : Hp) (s : Shared), L2.Inv X pins σ H s → HotX.HotAt X.A p.1 s.heap) (h : PGs X es t)
    (hn : (assignEach es X.env).length = n) (hst : (assignEach es X.env).findIdx? (·.1) = none) : PG X (.Tuple es k pos) (gTup X.K n t) := by
  refine ⟨fun pins s σ H v u Q I r hw => ?_⟩
  obtain ⟨a, xs, e1, hq, hl, hw⟩ := hw
  subst e1
  cases r
  obtain ⟨its, rv, ht, hz⟩ := I.tuple hq
  rw [assign_Tuple]
  refine wpAny_bind (wpAny_standAt (unpack_tuple_hot (hot _ _ _ _ I) ht (by simp [hn, ← hl, rv.length]) hst fun h' hx => ?_))
  have I1 : L2.Inv X pins σ H { s with heap := h' } := I.kept (t' := s.toks) fun b o e => hx b o (Nat.ne_of_lt (Heap.lt_size e)) e
  exact h.run pins _ σ H xs _ Q I1 (by simpa using rv) hw
end Fv
end

section
set_option Elab.async false
set_option linter.all false
set_option maxRecDepth 100000
set_option maxHeartbeats 4000000
set_option autoImplicit false
namespace Fv
open PySem PySem.Spec PyProof.Rows L2
section
variable {g : Pg} {k : Nat} {X : Cx} {W : WX} {a b e : PySem.Expr} {ca cb ce : CE} {pos : Pos}
theorem pe_binK (hK : X.K = g.K) {op : Operator} (ha : PE X a (tE g k W ca)) (hb : PE X b (tE g k W cb)) : PE X (.BinOp a op b pos) (tE g k W (.bin op ca cb)) :=
  (pe_op (opR_bin hK op) ha hb).imp fun _ _ _ h => tR_bind2 (op := fun d d2 s => opBin op d d2 s) h fun z d d2 v u ok r1 r2 post => ⟨z, d, d2, _, _, rfl, ok, r1, r2, post⟩
theorem pe_m1K (hK : X.K = g.K) {m : M1} {apos : Pos} (ha : PE X a (tE g k W ca)) (hb : PE X b (tE g k W cb)) (hs : notStar b = true) (hc : notCall0 a = true) (hl : (apos.endLine == pos.line) = true) :
    PE X (.Call (.Attribute a (m1Nm m) apos) [b] [] pos) (tE g k W (.m1 m ca cb)) := by
  have hr := rM1_ok (g := g) hK m
  have hS := star_ok hs [] X.env
  have fin : ∀ σ H Q, tE g k W (.m1 m ca cb) σ H Q → tM1 (rM1 g m) (tE g k W ca) (tE g k W cb) σ H Q := fun σ H Q h => by
    obtain ⟨x, env, rfl, ok, re, post⟩ := h
    refine ⟨x, env, rfl, ok, re, post.bind ok re fun y d v e ok1 re1 r1 post1 => ?_⟩
    split at post1
    · rename_i hd
      cases d <;> simp only [isStr] at hd <;> try cases hd
      refine ⟨?_, y, env, rfl, ok1, re1, post1.bind ok1 re1 fun z d2 v2 e2 ok2 re2 r2 post2 => ⟨z, _, d2, v2, W, σ, rfl, rfl, ok2, r1.mono ok1 e2, r2, post2⟩⟩
      simp only [Rep] at r1
      exact ⟨_, r1.1⟩
    · exact post1.elim
  cases m with
  | join => exact (pe_m1 F.slot_str_join F.type_str_join hr ha hb hS (base_ok hc _ _ _) hl).imp fin
  | split => exact (pe_m1 F.slot_str_split F.type_str_split hr ha hb hS (base_ok hc _ _ _) hl).imp fin
  | index => exact (pe_m1 F.slot_str_index F.type_str_index hr ha hb hS (base_ok hc _ _ _) hl).imp fin
theorem ps_asgK (nd : X.N.Nodup) (kind : X.env.scope.kind = .function) (fn : ∀ x, X.fn x = true) {i : Nat} {x : Str} {p : Pos} (hi : X.N[i]? = some x) (hl : locB X.env.scope x = true) (hw : swB X.env.scope e x p = false) (h : PE X e (tE g k W ce)) : PS X (.Assign [.Name x p] e pos) (tS g k W (.asg i ce)) :=
  (ps_set nd hi (locB_ok hl) h ((sw_ok pos.line kind).trans (by rw [hw])) (.inl (fn x))).imp fun D σ H h => asg_read h
/-- isinstance(e, c), e the handled exception -/
theorem call_isH {p : Addr × Obj} {D : Addr} (C : ExcC X.K D) (hp : p ∈ X.pn) (h1 : p.2.cls = .ref D) (h2 : p.2.dict = none) (hf : ∃ vs, p.2.data = .fields vs) : CallR X (.builtin "isinstance") (rIsE X.K D p.1) := by
  intro pins s σ H xs us Q I r h
  obtain ⟨c, cv, b, rfl, hcv, e, q⟩ := h
  cases r with
  | cons rx rr =>
    cases rr with
    | cons rt rr =>
      cases rr
      cases rx
      have ec := hcv _ rt
      subst ec
      obtain ⟨hget, _⟩ := I.pin p (List.mem_append.mpr (.inl hp))
      obtain ⟨vs, hv⟩ := hf
      have J : PySem.W.InstAt s.heap p.1 p.2 D none := by
        obtain ⟨a, oc, od, oda, osl⟩ := p
        dsimp only at h1 h2 hv
        subst h1 h2 hv
        exact ⟨hget, rfl, rfl, trivial⟩
      exact PySem.W.kia_one (PySem.W.handS_kitx_exc C.hg C.hk C.hs C.hd C.ha C.hn C.ht C.hm) I.kIn J e (fun z => nomatch z) fun tk => ⟨.bl b, H, I.kept (t' := tk) fun _ _ z => z, rfl, q⟩
/-- the class that a name stands for here -/
def ClsAt (X : Cx) (y : Str) (c : Value) : Prop := ∃ cv : V, (∀ py, PE X (.Name y py) (tC cv)) ∧ ∀ u, RelV cv u → u = c
def ClsAll (X : Cx) (D : Addr) : List Str → List Bool → Prop
  | [], [] => True
  | y :: ys, b :: bs => (∃ c, ClsAt X y c ∧ PySem.W.kitOne X.K (.ref D) c = some b) ∧ ClsAll X D ys bs
  | _, _ => False
def isaE (x : Str) : List Str → List PySem.Expr → Bool
  | [], [] => true
  | y :: ys, .Call (.Name f _) [.Name x' _, .Name y' _] [] _ :: es => decide (f = "isinstance") && (decide (x' = x) && (decide (y' = y) && isaE x ys es))
  | _, _ => false
theorem pa_isa {p : Addr × Obj} {D : Addr} (C : CallR X (.builtin "isinstance") (rIsE X.K D p.1)) {i : Nat} {x : Str} (hN : X.N[i]? = some x) (hv : visB X.env.scope x = true) (hn : nmB x = true) (hg : Gl X "isinstance") (hm : X.mg "isinstance" = none) :
    ∀ (ys : List Str) (bs : List Bool) (es : List PySem.Expr), isaE x ys es = true → ClsAll X D ys bs →
      PA X es (fun σ H Q => σ[i]? = some (some (.ref p.1)) ∧ Q (bs.map V.bl) H) ∧ ∀ es0, es0 = es → starEach es0 X.env = starEach es X.env
  | [], bs, es, h, hf => by
    cases es with
    | cons => simp [isaE] at h
    | nil =>
      cases bs with
      | cons => exact hf.elim
      | nil => exact ⟨pa_nil.imp fun σ H Q h => h.2, fun _ e => by rw [e]⟩
  | y :: ys, bs, es, h, hf => by
    cases bs with
    | nil => exact hf.elim
    | cons b bs =>
      obtain ⟨hb, hf⟩ := hf
      cases es with
      | nil => simp [isaE] at h
      | cons e1 es =>
        have key : ∃ (f x' y' : Str) (p1 p2 p3 pp : Pos), e1 = .Call (.Name f p1) [.Name x' p2, .Name y' p3] [] pp := by
          unfold isaE at h
          split at h
          · rename_i heq; cases heq
          · rename_i heq1 heq2; cases heq2; exact ⟨_, _, _, _, _, _, _, rfl⟩
          · cases h
        obtain ⟨f, x', y', p1, p2, p3, pp, rfl⟩ := key
        simp only [isaE, Bool.and_eq_true, decide_eq_true_eq] at h
        obtain ⟨rfl, rfl, rfl, h⟩ := h
        obtain ⟨c, ⟨cv, hpe, hcv⟩, hk⟩ := hb
        have ih := (pa_isa C hN hv hn hg hm ys bs es h hf).1
        have hx := pe_var (X := X) (pos := p2) hN (visB_ok hv) (nmB_ok hn).1 (nmB_ok hn).2
        have hA := pa_cons hx (pa_cons (hpe p3) pa_nil (star_ok rfl [] X.env)) (star_ok rfl [.Name y' p3] X.env)
        have h1 := pe_callB (p := p1) (pos := pp) C hg hm rfl hA (by decide) (by decide) (star_ok rfl _ X.env) (stars_ok (by rfl) X.env)
        refine ⟨(pa_cons h1 ih (star_ok rfl es X.env)).imp fun σ H Q h => ?_, fun _ e => by rw [e]⟩
        obtain ⟨hs, q⟩ := h
        exact ⟨_, hs, _, c, b, rfl, hcv, hk, hs, q⟩
end
end Fv
end

section
set_option Elab.async false
set_option linter.all false
set_option maxRecDepth 100000
set_option maxHeartbeats 4000000
set_option autoImplicit false
namespace Fv
open PySem PySem.Spec PyProof.Rows L2
theorem PIZ.imp {X : Cx} {x1 : Addr} {tg e : PySem.Expr} {t t' : TI} (h : PIZ X x1 tg e t) (hi : ∀ pins s σ H Q, L2.Inv X pins σ H s → t' σ H Q → t σ H Q) : PIZ X x1 tg e t' := ⟨fun pins s σ H Q I q => h.run pins s σ H Q I (hi pins s σ H Q I q)⟩
/-- two slots hold lists, the first not longer -/
def CZ (g : Pg) (i j : Nat) (σ : St) (H : Hp) : Prop := ∃ (a b : Addr) (l1 l2 : List V), σ[i]? = some (some (.ref a)) ∧ σ[j]? = some (some (.ref b)) ∧ SqL g.K H a l1 ∧ SqL g.K H b l2 ∧ l1.length ≤ l2.length
section
variable {g : Pg} {k : Nat} {X : Cx} {W : WX}
theorem lst_only {pins : List (Addr × Obj)} {σ : St} {s : Shared} {x : Wo} (hK : X.K = g.K) (I : L2.Inv X pins σ x.h s) {d : D} {is : List D} {a : Addr} {l : List V} (r : Rep g x d (.ref a)) (hi : itemsOf d = some is) (hl : SqL g.K x.h a l) : d = .lst is ∧ is.length = l.length := by
  cases d <;> simp only [itemsOf, Option.some.injEq] at hi <;> try cases hi
  · simp only [Rep] at r
    exact absurd r.1 (by simp)
  · simp only [Rep] at r
    obtain ⟨a', vs, e, h1, h2⟩ := r
    cases e
    rw [← hK] at h1 hl
    obtain ⟨its, _, p, _⟩ := I.tuple h1
    obtain ⟨its2, _, p2, _⟩ := I.list hl
    obtain ⟨o, ho, hc, _⟩ := id p
    obtain ⟨o2, ho2, hc2, _⟩ := p2.isList
    rw [ho] at ho2
    cases ho2
    exact absurd (hc.symm.trans hc2) (by simp)
  · simp only [Rep] at r
    obtain ⟨a', vs, e, h1, h0, h2⟩ := r
    cases e
    have h1 := SqL.of (K := g.K) h1
    rw [← hK] at h1 hl
    refine ⟨rfl, ?_⟩
    rw [← reps_len h2, I.list_inj h1 hl]
theorem var_ev (G : Nat → D) (cl : Call) (i : Nat) (env : Envd) (s : Sto) : (∃ d, env[i]? = some d ∧ d ≠ .unset ∧ evE G cl (.var i) env s = .ok d s) ∨ evE G cl (.var i) env s = .bad := by
  simp only [evE]
  split
  · exact .inr rfl
  · rename_i d hu hd
    exact .inl ⟨d, hd, fun e => hu e, rfl⟩
  · exact .inr rfl
theorem iter_zh {x : Wo} {a b : Addr} {d1 d2 : List D} (h1 : VOf g x (.lst a) d1) (h2 : VOf g x (.lst b) d2) (hl : d1.length ≤ sizeLine) (hle : d1.length ≤ d2.length) : IterOk g x (zipL d1 d2) (Izh g.K a b) := by
  refine ⟨by rw [zipL_len]; omega, fun y e oky i => ?_⟩
  obtain ⟨_, hgo⟩ := (iter_zs2 h1 h2 hl).2 y e oky i
  obtain ⟨l1, v1, r1⟩ := h1 y e oky
  have n1 := reps_len r1
  exact ⟨fun hi => ⟨l1, v1, by rw [zipL_len] at hi; omega⟩, hgo⟩
theorem pi_zhD {p : Addr × Obj} (hot : HotC1 X p) (hK : X.K = g.K) {i j : Nat} {x y : Str} {px py ps pos tpos : Pos} {elts : List PySem.Expr} {kk : Nat} (hg : Gl X "zip") (hm : X.mg "zip" = none)
    (hN : X.N[i]? = some x) (hv : visB X.env.scope x = true) (hn : nmB x = true) (hN2 : X.N[j]? = some y) (hv2 : visB X.env.scope y = true) (hn2 : nmB y = true) :
    PIZ X p.1 (.Tuple elts kk tpos) (.Call (.Name "zip" ps) [.Name x px, .Name y py] [] pos) (fun σ H R => CZ g i j σ H ∧ tI g k W (.zip (.var i) (.var j)) σ H fun J H1 => (∃ a b, J = Izh g.K a b) → R J H1) := by
  have hx := pe_var (X := X) (pos := px) hN (visB_ok hv) (nmB_ok hn).1 (nmB_ok hn).2
  have hy := pe_var (X := X) (pos := py) hN2 (visB_ok hv2) (nmB_ok hn2).1 (nmB_ok hn2).2
  have hA := pa_cons hx (pa_cons hy pa_nil (star_ok rfl [] X.env)) (star_ok rfl [.Name y py] X.env)
  refine (pi_zh hot hg hm hA (star_ok rfl _ X.env) (by rw [star_ok rfl]; rfl)).imp fun pins s σ H RR I h => ?_
  obtain ⟨⟨a, b, l1, l2, s1, s2, q1, q2, hle⟩, x0, env, rfl, ok, re, post⟩ := h
  refine ⟨_, s1, _, s2, a, b, l1, l2, rfl, by rw [hK]; exact q1, by rw [hK]; exact q2, ?_⟩
  have rd : ∀ {n : Nat} {c : Addr} {l : List V}, σ[n]? = some (some (.ref c)) → SqL g.K x0.h c l → ∀ {d : D} {is : List D}, env[n]? = some d → d ≠ .unset → itemsOf d = some is → d = .lst is ∧ is.length = l.length ∧ Rep g x0 d (.ref c) := by
    intro n c l hs hl d is hd hu hi
    obtain ⟨v, e1, e2⟩ := renv_get re hd
    rcases e2 with e2 | ⟨u, rfl, e2⟩
    · exact absurd e2 hu
    · rw [hs] at e1
      cases e1
      obtain ⟨h1, h2⟩ := lst_only hK I e2 hi hl
      exact ⟨h1, h2, e2⟩
  simp only [evI] at post
  rcases var_ev g.T.G (callF g.T k) i env x0.s with ⟨d1, h1, u1, e1⟩ | e1
  rotate_left
  · rw [e1] at post; exact post.elim
  rw [e1] at post
  simp only [R.bind] at post
  rcases var_ev g.T.G (callF g.T k) j env x0.s with ⟨d2, h2, u2, e2⟩ | e2
  rotate_left
  · rw [e2] at post; exact post.elim
  rw [e2] at post
  simp only at post
  split at post
  · rename_i is1 is2 i1 i2
    obtain ⟨rfl, n1, r1⟩ := rd s1 q1 h1 u1 i1
    obtain ⟨rfl, n2, r2⟩ := rd s2 q2 h2 u2 i2
    obtain ⟨z1, b1, _, k1⟩ := vs_of ok r1 i1
    obtain ⟨z2, b2, _, k2⟩ := vs_of ok r2 i2
    have hl := vs_len hK I r1 i1
    have f1 : z1 = .lst a := by
      cases z1 with
      | lst c => cases b1; rfl
      | str c => cases b1
      | tup c =>
        exfalso
        obtain ⟨xs, v1, _⟩ := k1 x0 (ExtW.refl ok.len) ok
        cases b1
        have v1 : SqT g.K x0.h a xs := v1
        rw [← hK] at v1 q1
        obtain ⟨its, _, p, _⟩ := I.tuple v1
        obtain ⟨its2, _, p2, _⟩ := I.list q1
        obtain ⟨o, ho, hc, _⟩ := id p
        obtain ⟨o2, ho2, hc2, _⟩ := p2.isList
        rw [ho] at ho2
        cases ho2
        exact absurd (hc.symm.trans hc2) (by simp)
    have f2 : z2 = .lst b := by
      cases z2 with
      | lst c => cases b2; rfl
      | str c => cases b2
      | tup c =>
        exfalso
        obtain ⟨xs, v1, _⟩ := k2 x0 (ExtW.refl ok.len) ok
        cases b2
        have v1 : SqT g.K x0.h b xs := v1
        rw [← hK] at v1 q2
        obtain ⟨its, _, p, _⟩ := I.tuple v1
        obtain ⟨its2, _, p2, _⟩ := I.list q2
        obtain ⟨o, ho, hc, _⟩ := id p
        obtain ⟨o2, ho2, hc2, _⟩ := p2.isList
        rw [ho] at ho2
        cases ho2
        exact absurd (hc.symm.trans hc2) (by simp)
    subst f1 f2
    rw [hK]
    exact post.here ok (iter_zh k1 k2 hl (by omega)) ⟨a, b, rfl⟩
  · exact post.elim
end
end Fv
end

section
set_option Elab.async false
set_option linter.all false
set_option maxRecDepth 100000
set_option maxHeartbeats 4000000
set_option autoImplicit false
namespace Fv
open PySem PySem.Spec PyProof.Rows L2
section
variable {g : Pg} {k : Nat} {X : Cx} {W : WX}
theorem pg_varK (nd : X.N.Nodup) {asg : Str → Bool} (A : AsgOk X asg) (i : Nat) (e : PySem.Expr) (h : chkTg X.N asg (.v i) e = true) : PG X e (tgR g (.v i)) := by
  cases e <;> simp only [chkTg, Bool.and_eq_true, decide_eq_true_eq] at h <;> try cases h
  rename_i x pos h1 h2
  obtain ⟨hl, hf⟩ := A x h2
  refine ⟨fun pins s σ H v u Q I r q => (pg_name nd h1 hl hf).run pins s σ H v u Q I r ?_⟩
  obtain ⟨z, env, env', d, rfl, ok, re, rd, hb, hq⟩ := q
  simp only [bindTg] at hb
  split at hb
  · cases hb
    refine hq _ (renv_put i re rd) fun j hj => ?_
    simp only [vars, List.mem_singleton] at hj
    rw [List.getElem?_set_ne (Ne.symm hj)]
  · cases hb

theorem pgs_varK (nd : X.N.Nodup) {asg : Str → Bool} (A : AsgOk X asg) : ∀ (ts : List Tg) (es : List PySem.Expr), (∀ t ∈ ts, ∃ i, t = Tg.v i) → chkTgs X.N asg ts es = true → PGs X es (tgsR g ts)
  | [], [], _, _ => ⟨fun pins s σ H vs us Q I r q => pgs_nil.run pins s σ H vs us Q I r (by
      obtain ⟨z, env, env', ds, rfl, ok, re, rd, hb, hq⟩ := q
      cases ds with
      | nil =>
        simp only [Reps] at rd
        simp only [bindTgs, Option.some.injEq] at hb
        subst hb
        exact ⟨rd, hq σ re fun _ _ => rfl⟩
      | cons => simp [bindTgs] at hb)⟩
  | [], _ :: _, _, h => by simp [chkTgs] at h
  | _ :: _, [], _, h => by simp [chkTgs] at h
  | t :: ts, e :: es, hv, h => by
    simp only [chkTgs, Bool.and_eq_true] at h
    obtain ⟨i0, rfl⟩ := hv t List.mem_cons_self
    have h1 := pg_varK (g := g) nd A i0 e h.1
    have h2 := pgs_varK nd A ts es (fun t m => hv t (List.mem_cons_of_mem _ m)) h.2
    refine ⟨fun pins s σ H vs us Q I r q => (pgs_cons h1 h2 (by rw [chkTg_star h.1]; rfl)).run pins s σ H vs us Q I r ?_⟩
    obtain ⟨z, env, env', ds, rfl, ok, re, rd, hb, hq⟩ := q
    cases ds with
    | nil => simp [bindTgs] at hb
    | cons d ds =>
      simp only [Reps] at rd
      obtain ⟨v, r', rfl, q1, q2⟩ := rd
      simp only [bindTgs] at hb
      obtain ⟨e1, hb1, hb2⟩ := Option.bind_eq_some_iff.mp hb
      refine ⟨v, r', rfl, z, env, e1, d, rfl, ok, re, q1, hb1, fun σ1 re1 k1 => ⟨z, e1, env', ds, rfl, ok, re1, q2, hb2, fun σ2 re2 k2 => hq σ2 re2 fun i hi => ?_⟩⟩
      simp only [varss, List.mem_append, not_or] at hi
      rw [k2 i hi.2, k1 i hi.1]
/-- the item is a tuple -/
def tgT (g : Pg) (ts : List Tg) : TG := fun v σ H Q => (∃ T xs, v = .ref T ∧ SqT g.K H T xs) ∧ tgR g (.t ts) v σ H Q
theorem pg_tupZ {p : Addr × Obj} (hK : X.K = g.K) (nd : X.N.Nodup) {asg : Str → Bool} (A : AsgOk X asg) (hot : ∀ (pins : List (Addr × Obj)) (σ : St) (H : Hp) (s : Shared), L2.Inv X pins σ H s → HotX.HotAt X.A p.1 s.heap) {ts : List Tg} {es : List PySem.Expr} {kk : Nat} {pos : Pos}
    (hv : ∀ t ∈ ts, ∃ i, t = Tg.v i) (h : chkTgs X.N asg ts es = true) : PG X (.Tuple es kk pos) (tgT g ts) := by
  have hl := chkTgs_len h
  obtain ⟨h1, h2⟩ := chkTgs_star h X.env
  have hs := pgs_varK (g := g) nd A ts es hv h
  refine ⟨fun pins s σ H v u Q I r q => ?_⟩
  obtain ⟨⟨T, xs, rfl, hT⟩, z, env, env', d, rfl, ok, re, rd, hb, hq⟩ := q
  cases d <;> simp only [bindTg] at hb <;> try cases hb
  · simp only [Rep] at rd
    obtain ⟨a, vs, e, q1, q2⟩ := rd
    refine (pg_tupH hot hs h1 h2).run pins s σ _ _ u Q I r ⟨a, vs, e, by rw [hK]; exact q1, ?_, z, env, env', _, rfl, ok, re, q2, hb, hq⟩
    rw [reps_len q2, bindTgs_len hb, hl]
  · exfalso
    simp only [Rep] at rd
    obtain ⟨a, vs, e, q1, _, q2⟩ := rd
    cases e
    rw [← hK] at hT
    obtain ⟨its, _, p1, _⟩ := I.tuple hT
    obtain ⟨its2, _, p2, _⟩ := I.list (SqL.of q1)
    obtain ⟨o, ho, hc, _⟩ := id p1
    obtain ⟨o2, ho2, hc2, _⟩ := p2.isList
    rw [ho] at ho2
    cases ho2
    exact absurd (hc.symm.trans hc2) (by simp)
end
end Fv
end

section
set_option Elab.async false
set_option linter.all false
set_option maxRecDepth 100000
set_option maxHeartbeats 4000000
set_option autoImplicit false
namespace Fv
open PySem PySem.Spec PyProof.Rows L2
section
variable {g : Pg} {k : Nat} {X : Cx} {W : WX}
theorem post_imp {α β : Type} {Rp : Wo → α → β → Prop} {σ : St} {x : Wo} {r : R α} {Q Q' : β → Hp → Prop} (h : PostG g Rp W σ x r Q) (hi : ∀ v H, Q v H → Q' v H) : PostG g Rp W σ x r Q' := by
  cases r with
  | ok d s => exact fun y e oky es v rv => hi _ _ (h y e oky es v rv)
  | err d s => exact h
  | bad => exact h
theorem tR_imp {α β : Type} {Rp : Wo → α → β → Prop} {f : Envd → Sto → R α} {σ : St} {H : Hp} {Q Q' : β → Hp → Prop} (h : tR g W Rp f σ H Q) (hi : ∀ v H, Q v H → Q' v H) : tR g W Rp f σ H Q' := by
  obtain ⟨x, env, e, ok, re, post⟩ := h
  exact ⟨x, env, e, ok, re, post_imp post hi⟩
theorem tLc_zh {i j : Nat} {ts : List Tg} {tt : TT} {te : TE} {vs : List Nat} {σ : St} {H : Hp} {Q : VK} (hc : CZ g i j σ H) (h : tLc (tI g k W (.zip (.var i) (.var j))) (tgR g (.t ts)) tt te vs σ H Q) :
    tLc (fun σ H R => CZ g i j σ H ∧ tI g k W (.zip (.var i) (.var j)) σ H fun J H1 => (∃ a b, J = Izh g.K a b) → R J H1) (tgT g ts) tt te vs σ H Q := by
  refine ⟨hc, tR_imp h fun J H1 q hJ D hD => ?_⟩
  obtain ⟨a, b, rfl⟩ := hJ
  obtain ⟨Wv, h0, hs⟩ := q D hD
  refine ⟨Wv, h0, fun i m H w => ?_⟩
  rcases hs i m H w with h1 | ⟨hg, Nx, hn, hy⟩
  · exact .inl h1
  · refine .inr ⟨hg, Nx, hn, fun x H' y => ⟨?_, hy x H' y⟩⟩
    obtain ⟨T, x1, x2, rfl, _, rfl, _⟩ := y
    exact ⟨T, _, rfl, .inl (.inl upd_same)⟩
theorem pe_compZ {p : Addr × Obj} (hot : HotC1 X p) (hK : X.K = g.K) (nd : X.N.Nodup) {i j a b : Nat} {x y xe xc : Str} {px py ps pos pos2 tpos pe pc : Pos} {es : List PySem.Expr} {kk : Nat} {scope : Scope} {own : List (Str × Nat)}
    (hg : Gl X "zip") (hm : X.mg "zip" = none) (hN : X.N[i]? = some x) (hv : visB X.env.scope x = true) (hn : nmB x = true) (hN2 : X.N[j]? = some y) (hv2 : visB X.env.scope y = true) (hn2 : nmB y = true)
    (hb : blkC X.N X.env.scope scope own = true) (htg : chkTgs X.N (locB scope) [.v a, .v b] es = true) (hown : ∀ i ∈ [a, b], i ∈ own.map (·.2))
    (he : X.N[a]? = some xe) (hev : visB (relabelS scope X.env.scope) xe = true) (hen : nmB xe = true) (hc : X.N[b]? = some xc) (hcv : visB (relabelS scope X.env.scope) xc = true) (hcn : nmB xc = true) :
    PE X (.ListComp (.Name xe pe) [⟨.Tuple es kk tpos, .Call (.Name "zip" ps) [.Name x px, .Name y py] [] pos2, [.Name xc pc], 0⟩] scope pos) (fun σ H Q => CZ g i j σ H ∧ tE g k W (.comp (.var a) (.t [.v a, .v b]) (own.map (·.2)) (.zip (.var i) (.var j)) (some (.var b))) σ H Q) := by
  refine (pe_lcH hot nd (pi_zhD hot hK hg hm hN hv hn hN2 hv2 hn2) (blkOk_by hb) (fold_ok rfl X.env) fun s H C cl fp hotB => ⟨?_, ?_, ?_⟩).imp fun σ H Q h => tLc_zh h.1 (lc_read (fun i hi => hown i (by simpa [vars, varss] using hi)) h.2)
  · exact pg_tupZ (X := X.blk s H scope (compEnvC scope cl C X.env) fp) (p := p) hK nd asg_blk hotB (by intro t ht; simp at ht; rcases ht with rfl | rfl <;> exact ⟨_, rfl⟩) htg
  · exact pts_some (pt_of (pe_var_ok hc hcv hcn) rfl)
  · exact pe_var_ok he hev hen
theorem evEs_bls (G : Nat → D) (cl : Call) (env : Envd) (s : Sto) : ∀ bs : List Bool, evEs G cl (bs.map CE.bl) env s = .ok (bs.map D.bl) s
  | [] => by simp only [List.map_nil, evEs]
  | b :: bs => by
    simp only [List.map_cons, evEs, evE, evEs_bls G cl env s bs, R.bind]
theorem repsBl {x : Wo} : ∀ bs : List Bool, Reps g x (bs.map D.bl) (bs.map V.bl)
  | [] => by simp only [List.map_nil, Reps]
  | b :: bs => by
    simp only [List.map_cons, Reps, Rep]
    exact ⟨_, _, rfl, rfl, repsBl bs⟩
theorem pe_isaL {p : Addr × Obj} {D : Addr} (C : CallR X (.builtin "isinstance") (rIsE X.K D p.1)) {i : Nat} {x : Str} (hN : X.N[i]? = some x) (hv : visB X.env.scope x = true) (hn : nmB x = true) (hg : Gl X "isinstance") (hm : X.mg "isinstance" = none)
    {ys : List Str} {bs : List Bool} {es : List PySem.Expr} {pos : Pos} (h : isaE x ys es = true) (hf : ClsAll X D ys bs) : PE X (.List es pos) (fun σ H Q => σ[i]? = some (some (.ref p.1)) ∧ tE g k W (.lst (bs.map CE.bl)) σ H Q) :=
  (pe_lst ((pa_isa C hN hv hn hg hm ys bs es h hf).1)).imp fun σ H Q h => by
    obtain ⟨hs, x, env, rfl, ok, re, post⟩ := h
    refine ⟨hs, ?_⟩
    simp only [evE, evEs_bls, R.bind] at post
    split at post
    · rename_i hl
      have r := repsBl (g := g) (x := x) bs
      exact ⟨by rw [reps_len r, ← lim_eq]; exact hl, post.newL ok r⟩
    · exact post.elim
/-- the slots i and j hold lists, the first not longer -/
def EnvZ (i j : Nat) (env : Envd) : Prop := ∃ as bs : List D, env[i]? = some (.lst as) ∧ env[j]? = some (.lst bs) ∧ as.length ≤ bs.length
theorem cz_of {i j : Nat} {x : Wo} {env : Envd} {σ : St} (re : REnv g x env σ) (h : EnvZ i j env) : CZ g i j σ x.h := by
  obtain ⟨as, bs, h1, h2, hl⟩ := h
  obtain ⟨v1, q1, r1⟩ := renv_get re h1
  obtain ⟨v2, q2, r2⟩ := renv_get re h2
  rcases r1 with r1 | ⟨u1, rfl, r1⟩
  · cases r1
  rcases r2 with r2 | ⟨u2, rfl, r2⟩
  · cases r2
  simp only [Rep] at r1 r2
  obtain ⟨a, l1, rfl, e1, _, s1⟩ := r1
  obtain ⟨b, l2, rfl, e2, _, s2⟩ := r2
  exact ⟨a, b, l1, l2, q1, q2, SqL.of e1, SqL.of e2, by rw [reps_len s1, reps_len s2]; exact hl⟩
theorem pe_joinZ (hK : X.K = g.K) {sep : Txt} {sepS : Str} {jn : Nat} {p1 apos pos : Pos} {e : PySem.Expr} {ce : CE} {i j : Nat} (hsep : sepS = SX.S sep) (hok : okTxt sep = true) (hb : PE X e (fun σ H Q => CZ g i j σ H ∧ tE g k W ce σ H Q)) (hs : notStar e = true) (hl : (apos.endLine == pos.line) = true) :
    PE X (.Call (.Attribute (.Constant (.str sepS) jn p1) (m1Nm .join) apos) [e] [] pos) (fun σ H Q => ∃ (x : Wo) (env : Envd), x.h = H ∧ Ok g x ∧ REnv g x env σ ∧ EnvZ i j env ∧ PostG g (Rep g) W σ x (evE g.T.G (callF g.T k) (.m1 .join (.str sep) ce) env x.s) Q) := by
  have hS := star_ok hs [] X.env
  have ha : PE X (.Constant (.str sepS) jn p1) (tE g k W (.str sep)) := pe_str_ok hsep hok
  refine (pe_m1 F.slot_str_join F.type_str_join (rM1_ok (g := g) hK .join) ha hb hS (base_ok rfl _ _ _) hl).imp fun σ H Q h => ?_
  obtain ⟨x, env, rfl, ok, re, hz, post⟩ := h
  refine ⟨x, env, rfl, ok, re, post.bind ok re fun y d v e ok1 re1 r1 post1 => ?_⟩
  split at post1
  · rename_i hd
    cases d <;> simp only [isStr] at hd <;> try cases hd
    refine ⟨?_, cz_of re1 hz, y, env, rfl, ok1, re1, post1.bind ok1 re1 fun z d2 v2 e2 ok2 re2 r2 post2 => ⟨z, _, d2, v2, W, σ, rfl, rfl, ok2, r1.mono ok1 e2, r2, post2⟩⟩
    simp only [Rep] at r1
    exact ⟨_, r1.1⟩
  · exact post1.elim
end
end Fv
end

section
set_option Elab.async false
set_option linter.all false
set_option maxRecDepth 100000
set_option maxHeartbeats 4000000
set_option autoImplicit false
namespace Fv
open PySem PySem.Spec PyProof.Rows L2
def txt (s : String) : Txt := s.toList.map Char.toNat
def labT : Txt := txt "formula inputs number program shuffle shuffles sums numbers steps registers letter place text"
def resT : Txt := txt " deep unlike ended undo many value"
def names19 : List Txt := ["formula", "inputs", "number", "program", "shuffle", "shuffles", "sums", "numbers", "steps", "registers", "letter", "place", "text", "deep", "unlike", "ended", "undo", "many", "value"].map txt
def zipF : List Txt → List Bool → List Txt
  | x :: xs, b :: bs => if b then x :: zipF xs bs else zipF xs bs
  | _, _ => []
def namesOf (bs : List Bool) : Txt := TL.joinL [32] (zipF names19 bs)
def nmC (bs : List Bool) : List CS := [.asg 1 (.lst (bs.map CE.bl)), .asg 2 (.str labT), .asg 3 (.m1 .split (.bin .Add (.var 2) (.str resT)) (.str [32])),
  .ret (.m1 .join (.str [32]) (.comp (.var 4) (.t [.v 4, .v 5]) [4, 5] (.zip (.var 3) (.var 1)) (some (.var 5))))]
theorem spl_names : TL.spl [32] 0 [] (labT ++ resT) = names19 := by decide +kernel
def nF (G : Nat → D) (cl : Call) (env : Envd) : D → Sto → R (Option D) := fun x s2 => match bindTg (.t [.v 4, .v 5]) x (wipeD env [4, 5]) with
  | some env1 => (evC G cl (some (.var 5)) env1 s2).bind fun b s3 => if b then (evE G cl (.var 4) env1 s3).bind fun y s4 => .ok (some y) s4 else .ok none s3
  | none => .bad
theorem nF_at (G : Nat → D) (cl : Call) (env : Envd) (s : Sto) (h4 : env.length = 6) (x : Txt) (b : Bool) : nF G cl env (.tup [.str x, .bl b]) s = .ok (if b then some (.str x) else none) s := by
  match env, h4 with
  | [a0, a1, a2, a3, a4, a5], _ =>
    simp only [nF, bindTg, bindTgs, wipeD, List.set_cons_zero, List.set_cons_succ, List.length_cons, List.length_nil, Nat.reduceAdd, Nat.reduceLT, if_true, Option.bind_some, evC, evE, List.getElem?_cons_succ, List.getElem?_cons_zero, R.bind]
    cases b <;> simp [R.bind]
theorem fm_names (G : Nat → D) (cl : Call) (env : Envd) (s : Sto) (h4 : env.length = 6) : ∀ (xs : List Txt) (bs : List Bool),
    filterMapL (nF G cl env) (zipL (xs.map D.str) (bs.map D.bl)) s = .ok ((zipF xs bs).map D.str) s
  | [], bs => by cases bs <;> simp [zipL, zipF, filterMapL]
  | x :: xs, [] => by simp [zipL, zipF, filterMapL]
  | x :: xs, b :: bs => by
    have ih := fm_names G cl env s h4 xs bs
    simp only [List.map_cons, zipL, filterMapL]
    rw [nF_at G cl env s h4 x b]
    simp only [R.bind]
    rw [ih]
    cases b <;> simp [R.bind, zipF]
theorem strs_strs : ∀ xs : List Txt, strs? (xs.map D.str) = some xs
  | [] => rfl
  | x :: xs => by simp only [List.map_cons, strs?, strs_strs xs, Option.map_some]
theorem zipF_len : ∀ (xs : List Txt) (bs : List Bool), (zipF xs bs).length ≤ xs.length ∧ ((zipF xs bs).map (·.length)).sum ≤ (xs.map (·.length)).sum
  | [], bs => by cases bs <;> simp [zipF]
  | x :: xs, [] => by simp [zipF]
  | x :: xs, b :: bs => by
    have := zipF_len xs bs
    cases b <;> simp only [zipF, if_true, Bool.false_eq_true, if_false, List.length_cons, List.map_cons, List.sum_cons] <;> omega
theorem evE_list (G : Nat → D) (cl : Call) (env : Envd) (s : Sto) (bs : List Bool) (h : bs.length = 19) : evE G cl (.lst (bs.map CE.bl)) env s = .ok (.lst (bs.map D.bl)) s := by
  simp only [evE, evEs_bls, R.bind]
  rw [if_pos (by rw [List.length_map, h]; decide)]
theorem ok_names : names19.all okTxt = true := by decide +kernel
/-- the last row but one -/
theorem ev_split (G : Nat → D) (cl : Call) (env : Envd) (s : Sto) (h : env[2]? = some (.str labT)) : evE G cl (.m1 .split (.bin .Add (.var 2) (.str resT)) (.str [32])) env s = .ok (.lst (names19.map D.str)) s := by
  have e1 : evE G cl (.bin .Add (.var 2) (.str resT)) env s = .ok (.str (labT ++ resT)) s := by
    simp only [evE, h, R.bind, opBin]
    rw [if_pos (by decide +kernel)]
  simp only [evE] at e1 ⊢
  rw [e1]
  simp only [R.bind, isStr, if_true, opM1]
  rw [if_pos ⟨by decide, by decide, by decide +kernel, by rw [spl_names]; exact ok_names⟩, spl_names]
theorem ev_join (G : Nat → D) (cl : Call) (env : Envd) (s : Sto) (bs : List Bool) (h : env.length = 6) (h3 : env[3]? = some (.lst (names19.map D.str))) (h1 : env[1]? = some (.lst (bs.map D.bl))) :
    evE G cl (.m1 .join (.str [32]) (.comp (.var 4) (.t [.v 4, .v 5]) [4, 5] (.zip (.var 3) (.var 1)) (some (.var 5)))) env s = .ok (.str (namesOf bs)) s := by
  have f := fm_names G cl env s h names19 bs
  have e1 : evE G cl (.comp (.var 4) (.t [.v 4, .v 5]) [4, 5] (.zip (.var 3) (.var 1)) (some (.var 5))) env s = .ok (.lst ((zipF names19 bs).map D.str)) s := by
    have e2 : evI G cl (.zip (.var 3) (.var 1)) env s = .ok (zipL (names19.map D.str) (bs.map D.bl)) s := by
      simp only [evE, evI, h3, h1, R.bind, itemsOf]
    rw [evE, e2]
    show ((filterMapL (nF G cl env) (zipL (names19.map D.str) (bs.map D.bl)) s).noErr).bind _ = _
    rw [f]; rfl
  rw [evE, show evE G cl (.str [32]) env s = .ok (.str [32]) s by simp only [evE]]
  simp only [R.bind, isStr, if_true]
  rw [e1]
  simp only [R.bind, opM1, strs_strs]
  rw [if_pos]
  · rfl
  · have := zipF_len names19 bs
    have e1 : names19.length = 19 := rfl
    have e2 : (names19.map (·.length)).sum ≤ 1000 := by decide +kernel
    simp only [List.length_singleton]
    have : LIM = 16777216 := rfl
    omega
section
variable {g : Pg} {k : Nat} {X : Cx} {W : WX}
/-- one row: what follows it -/
theorem row_nx {c : CS} {cs : List CS} {env env1 : Envd} {x : Wo} {D D1 : Ends} (h : exS g.T.nms g.T.G (callF g.T k) c env x.s = .ok (.nx env1) x.s) (post : PostS g W x (exSs g.T.nms g.T.G (callF g.T k) (c :: cs) env x.s) D)
    (next : ∀ (y : Wo) (σ : St), Ext x y → Ok g y → REnv g y env1 σ → y.s = x.s → PostS g W y (exSs g.T.nms g.T.G (callF g.T k) cs env1 y.s) D → D1.nx σ y.h) : PostS g W x (exS g.T.nms g.T.G (callF g.T k) c env x.s) D1 := by
  rw [exSs, h] at post
  rw [h]
  exact fun y ey oky es σ re => next y σ ey oky re es (by rw [es]; exact PostS.ext ey post)
def NMN : List Str := ["e", "some", "labels", "every", "label", "good"]
/-- the names' body, as it is written -/
def chkNames (N : List Str) (sc : Scope) (ys : List Str) (body : List Stmt) : Bool := match body with
  | [.Assign [.Name n1 q1] (.List es p1) _, .Assign [.Name n2 q2] (.Constant (.str l) j1 c1) _, .Assign [.Name n3 q3] (.Call (.Attribute (.BinOp (.Name n4 q4) .Add (.Constant (.str r) j2 c2) o1) m1 ap1) [.Constant (.str s1) j3 c3] [] p3) _,
      .Return (some (.Call (.Attribute (.Constant (.str s2) j4 c4) m2 ap2) [.ListComp (.Name n5 q5) [⟨.Tuple ts k1 tp, .Call (.Name z zp) [.Name n6 q6, .Name n7 q7] [] p5, [.Name n8 q8], 0⟩] scope p6] [] p7)) _] =>
    decide (N = NMN) && ((isaE "e" ys es && (visB sc "e" && (glB sc "isinstance" && glB sc "zip"))) && ((decide (n1 = "some") && (locB sc n1 && !swB sc (.List es p1) n1 q1)) &&
    ((decide (n2 = "labels") && (locB sc n2 && (!swB sc (.Constant (.str l) j1 c1) n2 q2 && decide (l = SX.S labT)))) &&
    ((decide (n3 = "every") && (locB sc n3 && (!swB sc (.Call (.Attribute (.BinOp (.Name n4 q4) .Add (.Constant (.str r) j2 c2) o1) m1 ap1) [.Constant (.str s1) j3 c3] [] p3) n3 q3 && (decide (n4 = "labels") && (visB sc n4 && (decide (r = SX.S resT) && (decide (m1 = "split") && (decide (s1 = SX.S [32]) && (ap1.endLine == p3.line))))))))) &&
    ((decide (s2 = SX.S [32]) && (decide (m2 = "join") && (ap2.endLine == p7.line))) && ((decide (n5 = "label") && (visB (relabelS scope sc) n5 && (decide (n8 = "good") && visB (relabelS scope sc) n8))) &&
    ((decide (z = "zip") && (decide (n6 = "every") && (visB sc n6 && (decide (n7 = "some") && visB sc n7)))) && (chkTgs N (locB scope) [.v 4, .v 5] ts && blkC N sc scope [("label", 4), ("good", 5)]))))))))
  | _ => false
theorem body_names (k : Nat) (W : WX) {p : Addr × Obj} {C0 : Addr} (hot : HotC1 X p) (hK : X.K = g.K) (nd : X.N.Nodup) (kind : X.env.scope.kind = .function) (fn : ∀ x, X.fn x = true) (C : CallR X (.builtin "isinstance") (rIsE X.K C0 p.1)) (hm : X.mg "isinstance" = none) (hz : X.mg "zip" = none)
    {N : List Str} {sc : Scope} {ys : List Str} {bs : List Bool} {body : List Stmt} (hN : X.N = N) (hsc : X.env.scope = sc) (hf : ClsAll X C0 ys bs) (hl : bs.length = 19) (h : chkNames N sc ys body = true) :
    PSs X body (fun Dd σ H => ∃ (x : Wo) (env : Envd), x.h = H ∧ Ok g x ∧ REnv g x env σ ∧ env.length = 6 ∧ σ[0]? = some (some (.ref p.1)) ∧ ∀ (y : Wo) (v : V), Ext x y → Ok g y → y.s = x.s → Rep g y (.str (namesOf bs)) v → Dd.rt v y.h) := by
  unfold chkNames at h
  split at h
  case h_2 => cases h
  simp only [Bool.and_eq_true, Bool.not_eq_true', decide_eq_true_eq] at h
  subst hN hsc
  obtain ⟨eN, ⟨i1, i2, i3, i4⟩, ⟨rfl, a2, a3⟩, ⟨rfl, b2, b3, rfl⟩, ⟨rfl, c2, c3, rfl, c4, rfl, rfl, rfl, c5⟩, ⟨rfl, rfl, d2⟩, ⟨rfl, e1, rfl, e2⟩, ⟨rfl, rfl, f1, rfl, f2⟩, t1, t2⟩ := h
  have n0 : X.N[0]? = some ("e" : Str) := by rw [eN]; rfl
  have n1 : X.N[1]? = some ("some" : Str) := by rw [eN]; rfl
  have n2 : X.N[2]? = some ("labels" : Str) := by rw [eN]; rfl
  have n3 : X.N[3]? = some ("every" : Str) := by rw [eN]; rfl
  have n4 : X.N[4]? = some ("label" : Str) := by rw [eN]; rfl
  have n5 : X.N[5]? = some ("good" : Str) := by rw [eN]; rfl
  rename_i q1 es p1 pp1 q2 j1 cc1 pp2 q3 q4 j2 cc2 o1 ap1 j3 cc3 p3 pp3 j4 cc4 ap2 q5 ts kk1 tp zp q6 q7 p5 q8 scope p6 p7 pp4
  have r1 := ps_set (pos := pp1) nd n1 (locB_ok a2) (pe_isaL (g := g) (k := k) (W := W) (pos := p1) C n0 i2 (by decide) (glB_ok i3) hm i1 hf) ((sw_ok pp1.line kind).trans (by rw [a3])) (.inl (fn _))
  have r2 := ps_asgK (g := g) (k := k) (W := W) (pos := pp2) nd kind fn n2 b2 b3 (pe_str_ok rfl (by decide +kernel))
  have r3 := ps_asgK (g := g) (k := k) (W := W) (pos := pp3) nd kind fn n3 c2 c3 (pe_m1K (m := .split) hK (pe_binK hK (pe_var_ok n2 c4 (by decide)) (pe_str_ok (v := resT) rfl (by decide +kernel))) (pe_str_ok (v := [32]) rfl (by decide +kernel)) rfl rfl c5)
  have r4 := ps_ret (pos := pp4) (pe_joinZ (g := g) (k := k) (W := W) (jn := j4) (p1 := cc4) (sep := [32]) hK rfl (by decide +kernel) (pe_compZ (pos := p6) (pe := q5) (pc := q8) (ps := zp) (px := q6) (py := q7) (kk := kk1) (tpos := tp) (pos2 := p5) hot hK nd (glB_ok i4) hz n3 f1 (by decide) n1 f2 (by decide) t2 t1 (by decide) n4 e1 (by decide) n5 e2 (by decide)) rfl d2)
  refine (pss_cons r1 (pss_cons r2 (pss_cons r3 (pss_one r4)))).imp fun Dd σ H hh => ?_
  obtain ⟨x, env, rfl, ok, re, h6, hs0, hq⟩ := hh
  refine ⟨hs0, asg_read ⟨x, env, rfl, ok, re, ?_⟩⟩
  rw [evE_list _ _ _ _ _ hl]
  simp only [R.bind]
  rw [if_pos (by omega)]
  intro y1 x1 ok1 es1 σ1 re1
  refine ⟨y1, _, rfl, ok1, re1, ?_⟩
  simp only [exS, evE, R.bind]
  rw [if_pos (by rw [List.length_set]; omega)]
  intro y2 x2 ok2 es2 σ2 re2
  refine ⟨y2, _, rfl, ok2, re2, ?_⟩
  have g2 : (List.set (List.set env 1 (D.lst (bs.map D.bl))) 2 (D.str labT))[2]? = some (.str labT) := by
    rw [List.getElem?_set_self (by rw [List.length_set]; omega)]
  rw [exS, ev_split _ _ _ _ g2]
  simp only [R.bind]
  rw [if_pos (by simp only [List.length_set]; omega)]
  intro y3 x3 ok3 es3 σ3 re3
  have k6 : (List.set (List.set (List.set env 1 (D.lst (bs.map D.bl))) 2 (D.str labT)) 3 (D.lst (names19.map D.str))).length = 6 := by simp only [List.length_set]; exact h6
  have k3 : (List.set (List.set (List.set env 1 (D.lst (bs.map D.bl))) 2 (D.str labT)) 3 (D.lst (names19.map D.str)))[3]? = some (.lst (names19.map D.str)) := by
    rw [List.getElem?_set_self (by simp only [List.length_set]; omega)]
  have k1 : (List.set (List.set (List.set env 1 (D.lst (bs.map D.bl))) 2 (D.str labT)) 3 (D.lst (names19.map D.str)))[1]? = some (.lst (bs.map D.bl)) := by
    rw [List.getElem?_set_ne (by decide), List.getElem?_set_ne (by decide), List.getElem?_set_self (by omega)]
  refine ⟨y3, _, rfl, ok3, re3, ⟨_, _, k3, k1, by rw [List.length_map, List.length_map, hl]; decide⟩, ?_⟩
  show PostG g (Rep g) W σ3 y3 (evE g.T.G (callF g.T k) (.m1 .join (.str [32]) (.comp (.var 4) (.t [.v 4, .v 5]) [4, 5] (.zip (.var 3) (.var 1)) (some (.var 5)))) _ y3.s) _
  rw [ev_join _ _ _ _ _ k6 k3 k1]
  exact fun y4 x4 ok4 es4 v rv => hq y4 v (((x1.trans x2).trans x3).trans x4) ok4 (by rw [es4, es3, es2, es1]) rv
end
end Fv
end

section
set_option Elab.async false
set_option linter.all false
set_option maxRecDepth 100000
set_option maxHeartbeats 4000000
set_option autoImplicit false
namespace Fv
open PySem PySem.Spec PyProof.Rows L2 L2H
/-- what the def promises where p is handled -/
structure FnP (P : Program) (w : World) (K : PySem.W.Frag) (mg : Str → Option Value) (base : Heap) (CX : CXT) (k : Nat) (f : Addr) (fd : FuncData) (ps : List Str) (p : Addr × Obj) (sp : Sp) : Prop where
  run : ∀ (A : Around) (outer : List Env) (s : Shared) (H : Hp) (args : Args) (us : List Value) (vs : List V) (Q : VK) (E : XK), RoomH k A → Hot1 A p → PinOk outer H s p → Env0 P w K mg base A outer s H → BindsTo s fd args (ps.zip us) → Vals vs us → vs.length = ps.length → sp vs H Q E →
    codeAny (model P w) A (.call (.ref f) args) (CR CX outer P w H s Q E) s
theorem fnP_of {CX : CXT} {P : Program} {w : World} {K : PySem.W.Frag} {mg : Str → Option Value} {base : Heap} {k : Nat} {f : Addr} {name qual : Str} {params : Arguments} {body : List Stmt} {scope : Scope} {dV kV doc pm cdv ct oc : Value} {an od : Option Addr}
    {osl : Array (Option Value)} {N ps : List Str} {sp : Sp} {p : Addr × Obj} (lk : K.lookup f = some ⟨oc, od, .func (PySem.W.fnOf name qual params body scope dV kV doc pm an cdv ct), osl⟩) (hcd : PySem.W.codeIn K cdv qual = true) (S : FnScope N ps scope)
    (hbody : ∀ (A : Around) (outer : List Env) (s : Shared) (H : Hp) (vs : List V) (Q : VK) (E : XK), Hot1 A p → RoomH k (A.deeper (envOfC qual scope s.heap.objs.size f cdv)) → sp vs H Q E →
      ∃ t, PSs (cxH CX P w K mg base N qual scope f cdv A outer s H E p) body t ∧ t { nx := fun _ H' => Q .non H', rt := Q } (L2.start N vs) H) :
    FnP P w K mg base CX (k + 1) f (PySem.W.fnOf name qual params body scope dV kV doc pm an cdv ct) ps p sp := by
  constructor
  intro A outer s H args us vs Q E hr hot hpin e0 hb r hl hsp
  obtain ⟨t, ht, hq⟩ := hbody A outer s H vs Q E hot (hr.deeper _) hsp
  have old := fun (b : Addr) (o : Obj) (e : base.get? b = some o) => (e0.bs b o e).1
  have KX : K.In s.heap := e0.mod.kin.keeps old
  have par : ∀ y ∈ ps.zip us, scope.names.lookup y.1 = some .local ∨ (scope.names.lookup y.1 = some .cell ∧ ((cellsFrom (s.heap.objs.size + 1) scope.names []).lookup y.1).isSome = true) := by
    rintro ⟨n, v⟩ hy
    exact (S.par n (List.of_mem_zip hy).1).imp id fun q => ⟨q, PySem.W.cellsFrom_some _ _ _ (.inl q)⟩
  apply codeAny_call_function hr.depth (KX _ _ lk) rfl S.co S.gen rfl (PySem.W.codeRec_of KX hcd)
  apply hb
  apply wpAny_newFunctionEnv_cells S.kind par
  rintro env rfl s1 x
  refine ⟨(e0.mod.nolimit.keeps old).keeps x.toInCall.keep, codeAny_func ?_⟩
  have I := inv_startH (CX := CX) (E := E) S hpin e0 hl r x
  refine wpAny_mono (ht.run [] s1 _ H _ I hq) (fun fl s' hs => ?_) fun e s' hs => hs
  cases fl with
  | ret u =>
    obtain ⟨v, σ', H', J, rv, q⟩ := hs
    exact ⟨v, H', J.os, J.bare, J.base, J.hok, rv, q⟩
  | next =>
    obtain ⟨σ', H', J, q⟩ := hs
    exact ⟨V.non, H', J.os, J.bare, J.base, J.hok, rfl, q⟩
  | brk =>
    obtain ⟨_, _, _, q⟩ := hs
    exact q.elim
  | cont =>
    obtain ⟨_, _, _, q⟩ := hs
    exact q.elim
section
variable {X : Cx} {CX : CXT} {k : Nat} {f : Addr} {fd : FuncData} {ps : List Str} {sp : Sp} {E : L2.St → XK}
theorem run_fnP {pins : List (Addr × Obj)} {σ : L2.St} {H : Hp} {s : Shared} {Q : VK} {us : List Value} {vs : List V} {p : Addr × Obj} (F : FnP X.prog X.w X.K X.mg X.base CX k f fd ps p sp) (hr : RoomH k X.A) (hc : HotC1 X p) (hb : Binds X.K fd ps []) (hx : PassesAt CX X σ (E σ))
    (I : L2.Inv X pins σ H s) (r : Vals vs us) (hl : vs.length = ps.length) (h : sp vs H Q (E σ)) : wpAny (model X.prog X.w) X.A (call (.ref f) us) (EP X pins σ Q) X.xe s := by
  have b := hb s us I.kIn (by rw [List.append_nil, ← r.length]; exact hl)
  rw [List.append_nil] at b
  obtain ⟨a1, a2, a3, a4, a5⟩ := I.pin p (List.mem_append_left _ hc.2)
  have hpin : PinOk X.stack H s p := ⟨a1, a2, fun hm => (List.mem_cons.mp (I.stkSub p.1 hm)).elim a3 a4, a5⟩
  refine wpAny_call (codeAny_mono (F.run X.A X.stack s H ⟨us, []⟩ us vs Q (E σ) hr hc.1 hpin I.env0 b r hl h) fun r s' hq => ?_)
  cases r with
  | error e => exact hx pins H s e s' I hq
  | ok fl =>
    cases fl with
    | ret u => exact I.after hq
    | next => exact hq.elim
    | brk => exact hq.elim
    | cont => exact hq.elim
end
def argsB (params : Arguments) : Bool := (params.posonlyargs.isEmpty && params.kwonlyargs.isEmpty) && (params.vararg.isNone && params.kwarg.isNone)
theorem args_binds {K : PySem.W.Frag} {name qual : Str} {params : Arguments} {body : List Stmt} {scope : Scope} {kV doc pm : Value} {an : Option Addr} {cdv ct : Value} (ha : argsB params = true) (nd : (params.args.map (·.arg)).Nodup) :
    L2.Binds K (PySem.W.fnOf name qual params body scope .none kV doc pm an cdv ct) (params.args.map (·.arg)) [] := by
  unfold argsB at ha
  simp only [Bool.and_eq_true, List.isEmpty_iff, Option.isNone_iff_eq_none] at ha
  obtain ⟨⟨h1, h2⟩, h3, h4⟩ := ha
  exact Binds.all fun us hl => bind_plain (fd := PySem.W.fnOf name qual params body scope .none kV doc pm an cdv ct) h1 h2 h3 h4 rfl nd (by simpa using hl)
def EN : List Str := ["e"]
def YS : List Str := ["InvalidFormula", "InvalidInputs", "InvalidNumber", "InvalidProgram", "InvalidShuffle", "InvalidShuffles", "InvalidSums", "InvalidNumbers", "InvalidSteps", "InvalidRegisters", "InvalidLetter", "InvalidPlace", "InvalidText", "TooDeep", "Unlike", "Ended", "NothingToUndo", "TooMany", "ValueError"]
def ClsOk (g : Pg) (D : Addr) : List Str → List Bool → Prop
  | [], [] => True
  | y :: ys, b :: bs => ((∃ c : Addr, g.mg y = some (.ref c) ∧ PySem.W.kitOne g.K (.ref D) (.ref c) = some b) ∨ (y = "ValueError" ∧ g.mg y = none ∧ PySem.W.kitOne g.K (.ref D) (.type "ValueError") = some b)) ∧ (y ≠ "__debug__") ∧ ClsOk g D ys bs
  | _, _ => False
/-- what is known of the class e -/
structure NmAt (g : Pg) (e : Nat) : Prop where
  exc : ExcC g.K (g.exA e)
  ex : PySem.W.exmOne g.K (.ref (g.exA e)) (.ref (g.exA 0)) = some true
  bs : ∃ bs : List Bool, bs.length = 19 ∧ namesOf bs = g.T.nms e ∧ ClsOk g (g.exA e) YS bs
structure NmOk (g : Pg) : Prop where
  at_ : ∀ e, e ≠ 18 → NmAt g e
  base : g.mg "ShallowError" = some (.ref (g.exA 0))
  isi : g.mg "isinstance" = none
  zip : g.mg "zip" = none
  fn : ∃ (A : Addr) (oc : Value) (od : Option Addr) (osl : Array (Option Value)) (name qual : Str) (params : Arguments) (body : List Stmt) (scope : Scope) (kV doc pm : Value) (an : Option Addr) (cdv ct : Value),
    g.mg "_law_names" = some (.ref A) ∧ PySem.W.keepIn g.K (.ref A) = true ∧ g.K.lookup A = some ⟨oc, od, .func (PySem.W.fnOf name qual params body scope .none kV doc pm an cdv ct), osl⟩ ∧ PySem.W.codeIn g.K cdv qual = true ∧
    C8.scC NMN EN scope = true ∧ argsB params = true ∧ params.args.map (·.arg) = EN ∧ chkNames NMN scope YS body = true ∧ YS.all (glB scope) = true
theorem clsAll_of {g : Pg} {X : Cx} {D : Addr} (hK : X.K = g.K) (hm : X.mg = g.mg) : ∀ {ys : List Str} {bs : List Bool}, (ys.all fun y => glB X.env.scope y) = true → ClsOk g D ys bs → ClsAll X D ys bs
  | [], [], _, _ => trivial
  | [], _ :: _, _, h => h.elim
  | _ :: _, [], _, h => h.elim
  | y :: ys, b :: bs, hg, h => by
    simp only [List.all_cons, Bool.and_eq_true] at hg
    obtain ⟨h1, hd, h2⟩ := h
    refine ⟨?_, clsAll_of hK hm hg.2 h2⟩
    rcases h1 with ⟨c, m, q⟩ | ⟨rfl, m, q⟩
    · exact ⟨.ref c, ⟨.ref c, fun py => pe_glob (v := .ref c) (glB_ok hg.1) (by rw [hm]; exact m) rfl (ne_beq hd), fun u r => r⟩, by rw [hK]; exact q⟩
    · exact ⟨.type "ValueError", ⟨.ty "ValueError", fun py => pe_bltn (glB_ok hg.1) (by rw [hm]; exact m) (u := .type "ValueError") rfl rfl (by decide) (by decide), fun u r => r⟩, by rw [hK]; exact q⟩
/-- what that def promises of the class e -/
def spN (g : Pg) (p : Addr × Obj) (e : Nat) : Sp := fun vs H Q _ => vs = [.ref p.1] ∧ ∃ x : Wo, x.h = H ∧ Ok g x ∧ ∀ (y : Wo) (v : V), Ext x y → Ok g y → y.s = x.s → Rep g y (.str (g.T.nms e)) v → Q v y.h
theorem fnP_names {g : Pg} (Nm : NmOk g) : ∃ (A : Addr) (fd : FuncData), g.mg "_law_names" = some (.ref A) ∧ PySem.W.keepIn g.K (.ref A) = true ∧ L2.Binds g.K fd EN [] ∧
    ∀ (e : Nat) (p : Addr × Obj), e ≠ 18 → p.2.cls = .ref (g.exA e) → p.2.dict = none → (∃ vs, p.2.data = .fields vs) → FnP g.P g.w g.K g.mg g.base (L2N.CX g.P g.w) 1 A fd EN p (spN g p e) := by
  obtain ⟨A, oc, od, osl, name, qual, params, body, scope, kV, doc, pm, an, cdv, ct, h1, h2, lk, hcd, hsc, ha, hp, hb, hys⟩ := Nm.fn
  have S := C8.fnScope_by hsc
  refine ⟨A, _, h1, h2, ?_, fun e p he hc hd hf => fnP_of lk hcd S fun A' outer s H vs Q E hot hr hsp => ?_⟩
  · rw [← hp]
    exact args_binds ha (by rw [hp]; exact S.pre ▸ S.nd.sublist (List.take_sublist _ _))
  obtain ⟨N1⟩ := Nm.at_ e he
  rename_i ex bs0
  obtain ⟨bs, hl, hn, hcl⟩ := bs0
  obtain ⟨rfl, x, rfl, ok, hq⟩ := hsp
  have hotc : HotC1 (cxH (L2N.CX g.P g.w) g.P g.w g.K g.mg g.base NMN qual scope A cdv A' outer s x.h E p) p := ⟨hot, List.mem_singleton_self _⟩
  refine ⟨_, body_names 0 WF hotc rfl S.nd S.kind (fun _ => rfl) (call_isH N1 (List.mem_singleton_self _) hc hd hf) Nm.isi Nm.zip rfl rfl (clsAll_of rfl rfl hys hcl) hl hb, ?_⟩
  refine ⟨x, [.unset, .unset, .unset, .unset, .unset, .unset], rfl, ok, ?_, rfl, rfl, fun y v e1 ok1 es rv => hq y v e1 ok1 es (by rw [← hn]; exact rv)⟩
  simp only [L2.start, NMN, List.map_cons, List.map_nil, List.length_cons, List.length_nil, List.replicate, REnv]
  exact ⟨_, _, rfl, .inl trivial, _, _, rfl, .inl trivial, _, _, rfl, .inl trivial, _, _, rfl, .inl trivial, _, _, rfl, .inl trivial, _, _, rfl, .inl trivial, rfl⟩
section
variable {g : Pg} {k : Nat} {X : Cx} {W : WX}
/-- _law_names(e) in the suite -/
theorem pe_names (Nm : NmOk g) (G : GS g k X W) {i : Nat} (hi : X.N[i]? = some ("e" : Str)) (hln : X.env.scope.names.lookup ("e" : Str) = some .local) (hg : glB X.env.scope "_law_names" = true) {a : Addr} {oe : Obj} {pn : List (Addr × Obj)} {e : Nat} (he : e ≠ 18) (hz : L2N.Zn (.ref (g.exA e)) none oe) (hf : ∃ vs, oe.data = .fields vs) {q q2 pos : Pos} :
    PE (X.suite a ((a, oe) :: pn)) (.Call (.Name "_law_names" q) [.Name "e" q2] [] pos) (fun σ H Q => σ[i]? = some (some (.ref a)) ∧ ∃ x : Wo, x.h = H ∧ Ok g x ∧ ∀ (y : Wo) (v : V), Ext x y → Ok g y → y.s = x.s → Rep g y (.str (g.T.nms e)) v → Q v y.h) := by
  obtain ⟨A, fd, h1, h2, h3, h4⟩ := fnP_names Nm
  have F := h4 e (a, oe) he hz.1 hz.2.1 hf
  refine ⟨fun pins s σ H Q I h => ?_⟩
  obtain ⟨hs, x, rfl, ok, hq⟩ := h
  refine wpAny_Call_Name_kw (ld_glob I (glB_ok hg) (show (X.suite a ((a, oe) :: pn)).mg _ = _ by show X.mg _ = _; rw [G.mg]; exact h1) ?_ (by decide))
  have hA : PA (X.suite a ((a, oe) :: pn)) [.Name "e" q2] _ := pa_cons (pe_var (X := X.suite a ((a, oe) :: pn)) (pos := q2) hi (.inl hln) (by decide) (by decide)) pa_nil
  refine PySem.W.callWith_K (h₀ := X.base) I.ok.mod.kin (by show PySem.W.keepIn X.K _ = true; rw [G.K]; exact h2) (thn (hA.run pos pins s σ x.h (fun vs H1 => vs = [.ref a] ∧ H1 = x.h) I ⟨_, hs, rfl, rfl⟩) fun us s1 ⟨vs, H1, I1, r, e1, e2⟩ => ⟨I1.kIn, ?_⟩) (star_ok rfl [] X.env) (stars_ok rfl X.env)
  subst e1 e2
  have hc : HotC1 (X.suite a ((a, oe) :: pn)) (a, oe) := by
    obtain ⟨vs, hv⟩ := hf
    exact ⟨⟨rfl, vs, hv, hz.2.2 vs hv⟩, List.mem_cons_self⟩
  have hx := L2N.passAt (takes_WF (X.suite a ((a, oe) :: pn))) σ
  have hr : RoomH 1 (X.suite a ((a, oe) :: pn)).A := ⟨by have := G.room.dp; show X.A.depth + 3 * 1 + 5 < recursionLimit; omega, by have := G.room.un; show X.A.units + 16 * 1 + 200 < cLine; omega⟩
  have F' : FnP (X.suite a ((a, oe) :: pn)).prog (X.suite a ((a, oe) :: pn)).w (X.suite a ((a, oe) :: pn)).K (X.suite a ((a, oe) :: pn)).mg (X.suite a ((a, oe) :: pn)).base (L2N.CX (X.suite a ((a, oe) :: pn)).prog (X.suite a ((a, oe) :: pn)).w) 1 A fd EN (a, oe) (spN g (a, oe) e) := by
    show FnP X.prog X.w X.K X.mg X.base (L2N.CX X.prog X.w) 1 A fd EN (a, oe) (spN g (a, oe) e)
    rw [G.prog, G.w, G.K, G.mg, G.base]
    exact F
  exact run_fnP (E := WE WF) F' hr hc (by show L2.Binds X.K _ _ _; rw [G.K]; exact h3) hx I1 r rfl ⟨rfl, x, rfl, ok, hq⟩
/-- what the suite hands back -/
def tsN (g : Pg) (i : Nat) (mk : Txt → D) : Addr → Value → Option Addr → TS := fun a cls d D σ H => d = none ∧ ∃ e, e ≠ 18 ∧ cls = .ref (g.exA e) ∧ (∃ σ0 : L2.St, σ = σ0.set i (some (.ref a))) ∧ ∃ x : Wo, x.h = H ∧ Ok g x ∧ ∀ (y : Wo) (v : V), Ext x y → Ok g y → y.s = x.s → Rep g y (mk (g.T.nms e)) v → D.rt v y.h
theorem sui_n (Nm : NmOk g) (G : GS g k X W) {i : Nat} (hi : X.N[i]? = some ("e" : Str)) (hln : X.env.scope.names.lookup ("e" : Str) = some .local) (hg : glB X.env.scope "_law_names" = true) {q q2 pos rp : Pos} (a : Addr) (oe : Obj) (cls : Value) (d : Option Addr) (pn : List (Addr × Obj)) (hz : L2N.Zn cls d oe) (hf : ∃ vs, oe.data = .fields vs) :
    PSs (X.suite a ((a, oe) :: pn)) [.Return (some (.Call (.Name "_law_names" q) [.Name "e" q2] [] pos)) rp] (tsN g i D.str a cls d) := by
  refine ⟨fun pins s σ H D I h => ?_⟩
  obtain ⟨rfl, e, he, rfl, ⟨σ0, rfl⟩, x, rfl, ok, hq⟩ := h
  have hs : (σ0.set i (some (V.ref a)))[i]? = some (some (.ref a)) := by
    have hl := I.len
    have hi' : i < X.N.length := (List.getElem?_eq_some_iff.mp hi).1
    have hl : (σ0.set i (some (V.ref a))).length = X.N.length := hl
    rw [List.length_set] at hl
    rw [List.getElem?_set_self (by omega)]
  exact (pss_one (ps_ret (pe_names Nm G hi hln hg he hz hf))).run pins s _ _ D I ⟨hs, x, rfl, ok, hq⟩
theorem sui_t (Nm : NmOk g) (G : GS g k X W) {i : Nat} (hi : X.N[i]? = some ("e" : Str)) (hln : X.env.scope.names.lookup ("e" : Str) = some .local) (hg : glB X.env.scope "_law_names" = true) {q q2 pos rp tp np : Pos} {tk nj : Nat} (a : Addr) (oe : Obj) (cls : Value) (d : Option Addr) (pn : List (Addr × Obj)) (hz : L2N.Zn cls d oe) (hf : ∃ vs, oe.data = .fields vs) :
    PSs (X.suite a ((a, oe) :: pn)) [.Return (some (.Tuple [.Constant .none nj np, .Call (.Name "_law_names" q) [.Name "e" q2] [] pos] tk tp)) rp] (tsN g i (fun t => .tup [.non, .str t]) a cls d) := by
  refine ⟨fun pins s σ H D I h => ?_⟩
  obtain ⟨rfl, e, he, rfl, ⟨σ0, rfl⟩, x, rfl, ok, hq⟩ := h
  have hs : (σ0.set i (some (V.ref a)))[i]? = some (some (.ref a)) := by
    have hl := I.len
    have hi' : i < X.N.length := (List.getElem?_eq_some_iff.mp hi).1
    have hl : (σ0.set i (some (V.ref a))).length = X.N.length := hl
    rw [List.length_set] at hl
    rw [List.getElem?_set_self (by omega)]
  have hp := pa_cons (X := X.suite a ((a, oe) :: pn)) (pe_non (pos := np) (j := nj)) (pa_cons (pe_names (pos := pos) (q := q) (q2 := q2) Nm G hi hln hg he hz hf) pa_nil (star_ok rfl [] X.env)) (star_ok rfl _ X.env)
  refine (pss_one (ps_ret (pe_tup hp))).run pins s _ _ D I ?_
  refine ⟨hs, x, rfl, ok, fun y v e1 ok1 es rv => ?_⟩
  have r : Reps g y [.non, .str (g.T.nms e)] [.non, v] := by
    simp only [Reps]
    exact ⟨_, _, rfl, by simp only [Rep], _, _, rfl, rv, rfl⟩
  have post : PostG g (Rep g) WF [] y (.ok (.tup [.non, .str (g.T.nms e)]) y.s) D.rt := fun z ez okz ez2 w rw' => hq z w (e1.trans ez) okz (by rw [ez2, es]) rw'
  exact ⟨by show 2 ≤ sizeLine; decide, post.newT ok1 r⟩
def tryR0 (f : Nat → D) (r : R Fl) : R Fl := match r with
  | .ok fl s1 => .ok fl s1
  | .err x s1 => if x = 18 then .bad else .ok (.ret (f x)) s1
  | .bad => .bad
theorem ps_try_ok (Nm : NmOk g) (G : GS g k X W) {i : Nat} (hi : X.N[i]? = some ("e" : Str)) (hln : X.env.scope.names.lookup ("e" : Str) = some .local) (hg : glB X.env.scope "ShallowError" = true) {body suite : List Stmt} {b₀ : Stmt} {np pos pos' : Pos} {cb : List CS} {mk : Txt → D}
    (hb : ∀ (X' : Cx) (W' : WX), GS g k X' W' → X'.N = X.N → X'.env = X.env → PSs X' body (tSs g k W' cb))
    (hs : ∀ (a : Addr) (oe : Obj) (cls : Value) (d : Option Addr) (pn : List (Addr × Obj)), L2N.Zn cls d oe → (∃ vs, oe.data = .fields vs) → PSs (X.suite a ((a, oe) :: pn)) (b₀ :: suite) (tsN g i mk a cls d)) :
    PS X (.Try body [.ExceptHandler (some (.Name "ShallowError" np)) (some "e") (b₀ :: suite) pos'] [] [] pos) (fun D σ H => ∃ (x : Wo) (env : Envd), x.h = H ∧ Ok g x ∧ REnv g x env σ ∧ PostS g W x (tryR0 (fun e => mk (g.T.nms e)) (exSs g.T.nms g.T.G (callF g.T k) cb env x.s)) D) := by
  have hil : i < X.N.length := (List.getElem?_eq_some_iff.mp hi).1
  refine ⟨fun pins s σ H D I h => (L2N.ps_try_as (c := .ref (g.exA 0)) G.stk G.frm G.nd hi hln ⟨glB_ok hg, by decide, .inl (by rw [G.mg]; exact Nm.base)⟩ G.tk (tb := fun W' => tSs g k W' cb) (fun W' pn xe tk hp => hb (X.tr pn xe) W' ⟨⟨G.prog, G.w, G.K, G.mg, G.base, G.calm, G.room, tk, G.nd⟩, hp, G.fn, G.kind, G.stk, G.frm⟩ rfl rfl) hs).run pins s σ H D I ?_⟩
  obtain ⟨x, env, rfl, ok, re, post⟩ := h
  have hlen : σ.length = X.N.length := I.len
  refine ⟨x, env, rfl, ok, re, ?_⟩
  cases hq : exSs g.T.nms g.T.G (callF g.T k) cb env x.s with
  | bad => rw [hq] at post; exact post.elim
  | ok fl s1 => rw [hq] at post; exact post
  | err e s1 =>
    rw [hq] at post
    simp only [tryR0] at post
    split at post
    · exact post.elim
    rename_i he
    intro y ey oky es σ' dd hdd
    rcases hdd with hdd | rfl
    · exact absurd hdd he
    refine ⟨true, by rw [G.K]; exact (Nm.at_ e he).ex, fun _ a ha => ⟨rfl, e, he, rfl, ⟨σ', rfl⟩, y, rfl, oky, fun z v ez okz es2 rv => ?_⟩, fun q => by cases q⟩
    · exact post z (ey.trans ez) okz (by rw [es2, es]) v rv
end
end Fv
end

section
set_option Elab.async false
set_option linter.all false
set_option maxRecDepth 100000
set_option maxHeartbeats 4000000
set_option autoImplicit false
namespace Fv
open PySem PySem.Spec PyProof.Rows L2
section
variable {g : Pg} {k : Nat} {X : Cx} {W : WX} {a b c e : PySem.Expr} {ca cb cc ce : CE} {pos : Pos}
theorem ps_if_ok {t u : List Stmt} {ct cu : List CS} (hc : PT X c (tC' g k W cc)) (ht : PSs X t (tSs g k W ct)) (hu : PSs X u (tSs g k W cu)) : PS X (.If c t u pos) (tS g k W (.iff cc ct cu)) :=
  (ps_if hc ht hu).imp fun D σ H h => by
    obtain ⟨x, env, h1, h2, h3, post⟩ := h
    have e : ∀ s, exS g.T.nms g.T.G (callF g.T k) (.iff cc ct cu) env s = (evC g.T.G (callF g.T k) (some cc) env s).bind fun b s1 => if b = true then exSs g.T.nms g.T.G (callF g.T k) ct env s1 else exSs g.T.nms g.T.G (callF g.T k) cu env s1 := by
      intro s
      simp only [exS, evC]
      cases evE g.T.G (callF g.T k) cc env s with
      | ok x s1 => cases x with
        | bl b => cases b <;> rfl
        | _ => rfl
      | err => rfl
      | bad => rfl
    rw [e] at post
    refine tS_bind (op := fun env b s1 => if b = true then exSs g.T.nms g.T.G (callF g.T k) ct env s1 else exSs g.T.nms g.T.G (callF g.T k) cu env s1) ⟨x, env, h1, h2, h3, post⟩ fun y env d v ok re r post => ?_
    subst r
    cases d
    · rw [if_neg (by decide)] at post ⊢; exact ⟨y, env, rfl, ok, re, post⟩
    · rw [if_pos rfl] at post ⊢; exact ⟨y, env, rfl, ok, re, post⟩
def forF (g : Pg) (k : Nat) (tg : Tg) (b : List CS) : D → Envd → Sto → R Fl := fun d env1 s2 => match bindTg tg d env1 with
  | some env2 => exSs g.T.nms g.T.G (callF g.T k) b env2 s2
  | none => .bad
theorem ps_for_ok (G : GS g k X W) {tg iter : PySem.Expr} {body : List Stmt} {ctg : Tg} {ci : CI} {cbd : List CS} (hi : PI X tg iter (tI g k W ci)) (htg : chkTg X.N (locB X.env.scope) ctg tg = true) (hb : PSs X body (tSs g k W cbd)) (hs : notSet iter = true) :
    PS X (.For tg iter body [] pos) (tS g k W (.forr ctg ci cbd)) :=
  (ps_for G.hp G.calm hi (pg_ok G.toGX (asg_fn G.fn) ctg tg htg) hb (fold_ok hs X.env)).imp fun D σ H h => by
    refine tS_bind (Rp := IterOk g) (op := fun env xs s1 => forL (forF g k ctg cbd) xs env s1) h fun x env ds J ok re hJ post => ?_
    refine ⟨fun i m σ Hh => m = ds.length - i ∧ i ≤ ds.length ∧ ∃ (y : Wo) (env' : Envd), y.h = Hh ∧ Ext x y ∧ Ok g y ∧ REnv g y env' σ ∧ PostS g W y (forL (forF g k ctg cbd) (ds.drop i) env' y.s) D,
      ⟨ds.length, rfl, Nat.zero_le _, x, env, rfl, Ext.refl ok.len, ok, re, post⟩, ?_⟩
    rintro i m σ1 Hh ⟨rfl, hi, y, env1, rfl, ey, oky, rey, py⟩
    obtain ⟨hstop, hgo⟩ := hJ.2 y ey.toExtW oky i
    by_cases hlt : i < ds.length
    · refine .inr ?_
      obtain ⟨q1, q2⟩ := hgo _ (List.getElem?_eq_getElem hlt)
      refine ⟨q1, fun σ' H' => (fun m' => m' = ds.length - (i + 1) ∧ i + 1 ≤ ds.length ∧ ∃ (y : Wo) (env' : Envd), y.h = H' ∧ Ext x y ∧ Ok g y ∧ REnv g y env' σ' ∧ PostS g W y (forL (forF g k ctg cbd) (ds.drop (i + 1)) env' y.s) D) (ds.length - (i + 1)),
        fun σ' H' hn => ⟨_, by omega, hn⟩, fun v H' hv => ?_⟩
      obtain ⟨z, rfl, es, ez, okz, rz⟩ := q2 v H' hv
      have hdrop : ds.drop i = ds[i] :: ds.drop (i + 1) := List.drop_eq_getElem_cons hlt
      rw [hdrop, ← es] at py
      have pz := py.ext ez
      have rez := rey.mono oky ez
      simp only [forL] at pz
      cases hb : bindTg ctg ds[i] env1 with
      | none =>
        exfalso
        simp only [forF, hb] at pz
        exact pz
      | some env2 =>
        simp only [forF, hb] at pz
        refine ⟨z, env1, env2, _, rfl, okz, rez, rz, hb, fun σ2 re2 _ => ⟨z, env2, rfl, okz, re2, ?_⟩⟩
        refine PostS.seq (k := fun fl s1 => match fl with
          | .nx env1 => forL (forF g k ctg cbd) (ds.drop (i + 1)) env1 s1
          | .ct env1 => forL (forF g k ctg cbd) (ds.drop (i + 1)) env1 s1
          | .bk env1 => .ok (.nx env1) s1
          | .ret v => .ok (.ret v) s1) pz fun fl w ew okw pw => ?_
        have exw := (ey.trans ez).trans ew
        cases fl with
        | nx e => exact fun σ' re' => ⟨rfl, hlt, w, e, rfl, exw, okw, re', pw⟩
        | ct e => exact fun σ' re' => ⟨rfl, hlt, w, e, rfl, exw, okw, re', pw⟩
        | bk e => exact fun σ' re' => pw.here okw σ' re'
        | ret d => exact fun v' rv' => pw.here okw v' rv'
    · have hi' : i = ds.length := by omega
      subst hi'
      rw [List.drop_length] at py
      exact .inl ⟨hstop (Nat.le_refl _), py.here oky σ1 rey⟩
theorem ps_while_ok (G : GS g k X W) {body : List Stmt} {cbd : List CS} (hc : PT X c (tC' g k W cc)) (hb : PSs X body (tSs g k W cbd)) : PS X (.While c body [] pos) (tS g k W (.whil cc cbd)) :=
  (ps_while G.hp hc hb).imp fun D σ H h => by
    obtain ⟨x, env, rfl, ok, re, post⟩ := h
    refine ⟨fun m σ Hh => ∃ (y : Wo) (env' : Envd), y.h = Hh ∧ Ok g y ∧ REnv g y env' σ ∧ PostS g W y (whileL (fun env1 s1 => evC g.T.G (callF g.T k) (some cc) env1 s1) (fun env1 s1 => exSs g.T.nms g.T.G (callF g.T k) cbd env1 s1) m env' y.s) D,
      ⟨TURNS, x, env, rfl, ok, re, post⟩, ?_⟩
    rintro m σ1 Hh ⟨y, env1, rfl, oky, rey, py⟩
    cases m with
    | zero => exact py.elim
    | succ m =>
      simp only [whileL] at py
      refine ⟨y, env1, rfl, oky, rey, PostS.bind (k := fun b s0 => if b = true then (exSs g.T.nms g.T.G (callF g.T k) cbd env1 s0).bind fun fl s1 => match fl with
          | .nx env1 => whileL (fun env1 s1 => evC g.T.G (callF g.T k) (some cc) env1 s1) (fun env1 s1 => exSs g.T.nms g.T.G (callF g.T k) cbd env1 s1) m env1 s1
          | .ct env1 => whileL (fun env1 s1 => evC g.T.G (callF g.T k) (some cc) env1 s1) (fun env1 s1 => exSs g.T.nms g.T.G (callF g.T k) cbd env1 s1) m env1 s1
          | .bk env1 => .ok (.nx env1) s1
          | .ret v => .ok (.ret v) s1
        else .ok (.nx env1) s0) py oky rey fun z d v ez okz rez r pz => ?_⟩
      subst r
      cases d
      · rw [if_neg (by decide)] at pz ⊢
        exact pz.here okz σ1 rez
      · rw [if_pos rfl] at pz ⊢
        refine ⟨fun σ' H' => ∃ (y : Wo) (env' : Envd), y.h = H' ∧ Ok g y ∧ REnv g y env' σ' ∧ PostS g W y (whileL (fun env1 s1 => evC g.T.G (callF g.T k) (some cc) env1 s1) (fun env1 s1 => exSs g.T.nms g.T.G (callF g.T k) cbd env1 s1) m env' y.s) D,
          fun σ' H' hn => ⟨m, Nat.lt_succ_self _, hn⟩, z, env1, rfl, okz, rez, ?_⟩
        refine PostS.seq (k := fun fl s1 => match fl with
          | .nx env1 => whileL (fun env1 s1 => evC g.T.G (callF g.T k) (some cc) env1 s1) (fun env1 s1 => exSs g.T.nms g.T.G (callF g.T k) cbd env1 s1) m env1 s1
          | .ct env1 => whileL (fun env1 s1 => evC g.T.G (callF g.T k) (some cc) env1 s1) (fun env1 s1 => exSs g.T.nms g.T.G (callF g.T k) cbd env1 s1) m env1 s1
          | .bk env1 => .ok (.nx env1) s1
          | .ret v => .ok (.ret v) s1) pz fun fl w ew okw pw => ?_
        cases fl with
        | nx e => exact fun σ' re' => ⟨w, e, rfl, okw, re', pw⟩
        | ct e => exact fun σ' re' => ⟨w, e, rfl, okw, re', pw⟩
        | bk e => exact fun σ' re' => pw.here okw σ' re'
        | ret d => exact fun v' rv' => pw.here okw v' rv'
theorem ps_raise_ok {t : Tx} (T : TxOk g t) (G : GS g k X W) {i : Nat} {x : Str} {m : Str} {j : Nat} {p p2 p3 : Pos} (hi : t.ex[i]? = some x) (hg : glB X.env.scope x = true) :
    PS X (.Raise (some (.Call (.Name x p) [.Constant (.str m) j p2] [] p3)) none pos) (tS g k W (.raise i)) := by
  obtain ⟨hd, B, newId, initId, bmB, F, q, gC, kC, r⟩ := T.ex i x hi
  refine (L2N.ps_raise G.calm G.tk (L2N.pmk_own (x := x) (m := m) (j := j) (p := p) (p2 := p2) (pos := p3) F (by rw [G.K]; exact q) (by rw [G.mg]; exact gC) (by rw [G.K]; exact kC) (fun M h hk => r M h (by rw [← G.K]; exact hk)) (glB_ok hg) (ne_beq hd))).imp fun D σ H h => ?_
  obtain ⟨z, env, rfl, ok, re, post⟩ := h
  exact post z (Ext.refl ok.len) ok rfl σ none (.inr rfl)
end
def chkAsgC (K : Ck) (sc : Scope) (e : CE) (v : PySem.Expr) : Bool := match e, v with
  | .comp e tg own it c, .ListComp elt [⟨tg', iter, ifs, as⟩] scope _ => decide (as = 0) && (blkC K.N sc scope (ownN K.N own) && (chkTg K.N (locB scope) tg tg' && ((vars tg).all (fun i => decide (i ∈ own)) && (notSet iter && (chkI K it false sc tg' iter &&
      (chkC K c false (relabelS scope sc) ifs && chkE K e false (relabelS scope sc) elt))))))
  | _, _ => false
def chkPar2 (K : Ck) (lm : Bool) (sc : Scope) (i j : Nat) (ca cb : CE) (t1 t2 : PySem.Expr) (a b : PySem.Expr) : Bool := match t1, t2 with
  | .Name x px, .Name y py => decide (K.N[i]? = some x) && (decide (K.N[j]? = some y) && (decide (i ≠ j) && (decide (sc.names.lookup x = some .local) && (decide (sc.names.lookup y = some .local) &&
      (swpS sc [.Name x px, .Name y py] [a, b] [x, y] && chkEs K [ca, cb] lm sc [a, b])))))
  | _, _ => false
def chkPar3 (K : Ck) (lm : Bool) (sc : Scope) (i j l : Nat) (ca cb cc : CE) (t1 t2 t3 : PySem.Expr) (a b c : PySem.Expr) : Bool := match t1, t2, t3 with
  | .Name x px, .Name y py, .Name z pz => decide (K.N[i]? = some x) && (decide (K.N[j]? = some y) && (decide (K.N[l]? = some z) && (decide (i ≠ j) && (decide (i ≠ l) && (decide (j ≠ l) &&
      (decide (sc.names.lookup x = some .local) && (decide (sc.names.lookup y = some .local) && (decide (sc.names.lookup z = some .local) && (swpS sc [.Name x px, .Name y py, .Name z pz] [a, b, c] [x, y, z] && chkEs K [ca, cb, cc] lm sc [a, b, c])))))))))
  | _, _, _ => false
def chkPar (K : Ck) (lm : Bool) (sc : Scope) (is : List Nat) (es : List CE) (ts vs : List PySem.Expr) : Bool := match is, es, ts, vs with
  | [i, j], [ca, cb], [t1, t2], [a, b] => chkPar2 K lm sc i j ca cb t1 t2 a b
  | [i, j, l], [ca, cb, cc], [t1, t2, t3], [a, b, c] => chkPar3 K lm sc i j l ca cb cc t1 t2 t3 a b c
  | _, _, _, _ => false
def chkRaise (K : Ck) (sc : Scope) (i : Nat) (e : PySem.Expr) : Bool := match e with
  | .Call (.Name x _) [.Constant (.str _) _ _] [] _ => decide (K.t.ex[i]? = some x) && glB sc x
  | _ => false
def retNm : Bool → PySem.Expr → Bool
  | false, .Call (.Name y _) [.Name z _] [] _ => decide (y = "_law_names") && decide (z = "e")
  | true, .Tuple [.Constant .none _ _, .Call (.Name y _) [.Name z _] [] _] _ _ => decide (y = "_law_names") && decide (z = "e")
  | _, _ => false
def tryHd (sc : Scope) (N : List Str) (nm tup : Bool) (hds : List ExceptHandler) : Bool := match hds with
  | [.ExceptHandler (some (.Name x _)) (some n) [.Return (some r) _] _] => (nm && (decide (x = "ShallowError") && decide (n = "e"))) && ((glB sc x && glB sc "_law_names") && ((decide (sc.names.lookup ("e" : Str) = some .local) && decide (("e" : Str) ∈ N)) && retNm tup r))
  | _ => false
mutual
def chkS (K : Ck) (lm : Bool) (sc : Scope) : CS → Stmt → Bool
  | .asg i e, .Assign [.Name x p] v _ => decide (K.N[i]? = some x) && (locB sc x && (!swB sc v x p && chkE K e lm sc v))
  | .asgC i e, .Assign [.Name x p] v _ => decide (K.N[i]? = some x) && (decide (sc.names.lookup x = some .local) && (swB sc v x p && chkAsgC K sc e v))
  | .unp ts e, .Assign [.Tuple es _ _] v _ => chkTgs K.N (locB sc) ts es && ((match v with
    | .Tuple vs _ _ => swpN sc es vs
    | _ => true) && chkE K e lm sc v)
  | .par is es, .Assign [.Tuple ts _ _] (.Tuple vs _ _) _ => chkPar K lm sc is es ts vs
  | .setIdx i ix e, .Assign [.Subscript (.Name x _) a _] v _ => decide (K.N[i]? = some x) && (visB sc x && (nmB x && (notSlice a && (chkE K e lm sc v && chkE K ix lm sc a))))
  | .expr e, .Expr v _ => notComp v && chkE K e lm sc v
  | .iff c t e, .If v a b _ => chkE K c lm sc v && (chkSs K lm sc t a && chkSs K lm sc e b)
  | .forr tg it b, .For tg' iter body [] _ => chkTg K.N (locB sc) tg tg' && (notSet iter && (chkI K it lm sc tg' iter && chkSs K lm sc b body))
  | .whil c b, .While v body [] _ => chkE K c lm sc v && chkSs K lm sc b body
  | .ret e, .Return (some v) _ => chkE K e lm sc v
  | .retN, .Return none _ => true
  | .pass, .Pass _ => true
  | .cont, .Continue _ => true
  | .brk, .Break _ => true
  | .raise i, .Raise (some e) none _ => chkRaise K sc i e
  | .tryN b, .Try body hds [] [] _ => tryHd sc K.N K.t.nm false hds && chkSs K false sc b body
  | .tryT b, .Try body hds [] [] _ => tryHd sc K.N K.t.nm true hds && chkSs K false sc b body
  | _, _ => false
def chkSs (K : Ck) (lm : Bool) (sc : Scope) : List CS → List Stmt → Bool
  | [], [] => true
  | c :: cs, s :: ss => chkS K lm sc c s && chkSs K lm sc cs ss
  | _, _ => false
end
structure EnvS (g : Pg) (K : Ck) (k : Nat) : Prop extends Env1 g K k where
  nm : K.t.nm = true → NmOk g
/-- a context where checked statements stand -/
structure CtxS (g : Pg) (K : Ck) (k : Nat) (X : Cx) (W : WX) (lm : Bool) (sc : Scope) : Prop where
  G : GS g k X W
  N : X.N = K.N
  sc : X.env.scope = sc
  lm : lm = true → LamMk g X
section
variable {g : Pg} {k : Nat} {K : Ck}
theorem CtxS.e {X : Cx} {W : WX} {lm : Bool} {sc : Scope} (H : CtxS g K k X W lm sc) : CtxOk g K k X W lm sc := ⟨H.G.toGX, H.N, H.sc, H.lm⟩
theorem CtxS.f {X : Cx} {W : WX} {lm : Bool} {sc : Scope} (H : CtxS g K k X W lm sc) : CtxOk g K k X W false sc := ⟨H.G.toGX, H.N, H.sc, fun z => by cases z⟩
theorem ps_asgC_ok (E : EnvS g K k) {X : Cx} {W : WX} {lm : Bool} {sc : Scope} (H : CtxS g K k X W lm sc) {i : Nat} {x : Str} {p pos : Pos} {e : CE} {v : PySem.Expr} (hi : X.N[i]? = some x) (hl : X.env.scope.names.lookup x = some .local) (hw : swB X.env.scope v x p = true) (h : chkAsgC K sc e v = true) :
    PS X (.Assign [.Name x p] v pos) (tS g k W (.asgC i e)) := by
  cases e <;> (try (simp only [chkAsgC] at h; cases h; done))
  rename_i e tg own it c
  cases v <;> (try (simp only [chkAsgC] at h; cases h; done))
  rename_i elt gs scope vp
  match gs, h with
  | [⟨tg', iter, ifs, as⟩], h =>
    simp only [chkAsgC, Bool.and_eq_true, decide_eq_true_eq] at h
    obtain ⟨rfl, h1, h2, h3, h4, h5, h6, h7⟩ := h
    have hI := sndI E.toEnv1 it false sc tg' iter X W H.f h5
    have b1 : blkC X.N X.env.scope scope (ownN K.N own) = true := by rw [H.N, H.sc]; exact h1
    have b2 : chkTg X.N (locB scope) tg tg' = true := by rw [H.N]; exact h2
    have q := ps_comp_ok (spos := pos) H.G.toGX hi hl ((sw_ok pos.line H.G.kind).trans (by rw [hw])) hI b1 b2 (hv_of h3) (fun XB GB B => sndC E.toEnv1 c false _ ifs XB (H.f.blk GB B fun z => by cases z) h6) (fun XB GB B => (sndE E.toEnv1 e false _ elt XB WF (H.f.blk GB B fun z => by cases z) h7).pe) h4
    rw [ownN_snd] at q
    exact q.imp fun D σ H h => asg_read h
  | [], h => simp only [chkAsgC] at h; cases h
  | _ :: _ :: _, h => simp only [chkAsgC] at h; cases h
theorem ps_parC (E : EnvS g K k) {X : Cx} {W : WX} {lm : Bool} {sc : Scope} (H : CtxS g K k X W lm sc) {is : List Nat} {es : List CE} {ts vs : List PySem.Expr} {j1 j2 : Nat} {p1 p2 p3 : Pos} (h : chkPar K lm sc is es ts vs = true) :
    PS X (.Assign [.Tuple ts j1 p1] (.Tuple vs j2 p2) p3) (tS g k W (.par is es)) := by
  unfold chkPar at h
  split at h
  · unfold chkPar2 at h
    split at h
    · simp only [Bool.and_eq_true, decide_eq_true_eq] at h
      obtain ⟨h1, h2, h3, h4, h5, h6, h7⟩ := h
      exact ps_par2_ok H.G (by rw [H.N]; exact h1) (by rw [H.N]; exact h2) h3 (by rw [H.sc]; exact h4) (by rw [H.sc]; exact h5) (by rw [H.sc]; exact h6) (sndEs E.toEnv1 _ lm sc _ X W H.e h7).1
    · cases h
  · unfold chkPar3 at h
    split at h
    · simp only [Bool.and_eq_true, decide_eq_true_eq] at h
      obtain ⟨h1, h2, h3, h4, h5, h6, h7, h8, h9, h10, h11⟩ := h
      exact ps_par3_ok H.G (by rw [H.N]; exact h1) (by rw [H.N]; exact h2) (by rw [H.N]; exact h3) h4 h5 h6 (by rw [H.sc]; exact h7) (by rw [H.sc]; exact h8) (by rw [H.sc]; exact h9) (by rw [H.sc]; exact h10) (sndEs E.toEnv1 _ lm sc _ X W H.e h11).1
    · cases h
  · cases h
theorem ps_raiseC (E : EnvS g K k) {X : Cx} {W : WX} {lm : Bool} {sc : Scope} (H : CtxS g K k X W lm sc) {i : Nat} {e : PySem.Expr} {p : Pos} (h : chkRaise K sc i e = true) : PS X (.Raise (some e) none p) (tS g k W (.raise i)) := by
  unfold chkRaise at h
  split at h
  · simp only [Bool.and_eq_true, decide_eq_true_eq] at h
    exact ps_raise_ok E.T H.G h.1 (by rw [H.sc]; exact h.2)
  · cases h
theorem sndS_asg (E : EnvS g K k) (i : Nat) (e : CE) (lm : Bool) (sc : Scope) (s : Stmt) (X : Cx) (W : WX) (H : CtxS g K k X W lm sc) (h : chkS K lm sc (.asg i e) s = true) : PS X s (tS g k W (.asg i e)) := by
  cases s <;> (try (simp only [chkS] at h; cases h; done))
  rename_i tgs v p
  match tgs, h with
  | [.Name x px], h =>
    simp only [chkS, Bool.and_eq_true, decide_eq_true_eq, Bool.not_eq_true'] at h
    obtain ⟨h1, h2, h3, h4⟩ := h
    exact ps_asg_ok H.G (by rw [H.N]; exact h1) (by rw [H.sc]; exact h2) (by rw [H.sc]; exact h3) (sndE E.toEnv1 e lm sc v X W H.e h4).pe
  | [], h => simp only [chkS] at h; cases h
  | tg :: tg2 :: r, h => cases tg <;> (simp only [chkS] at h; cases h)
theorem sndS_asgC (E : EnvS g K k) (i : Nat) (e : CE) (lm : Bool) (sc : Scope) (s : Stmt) (X : Cx) (W : WX) (H : CtxS g K k X W lm sc) (h : chkS K lm sc (.asgC i e) s = true) : PS X s (tS g k W (.asgC i e)) := by
  cases s <;> (try (simp only [chkS] at h; cases h; done))
  rename_i tgs v p
  match tgs, h with
  | [.Name x px], h =>
    simp only [chkS, Bool.and_eq_true, decide_eq_true_eq] at h
    obtain ⟨h1, h2, h3, h4⟩ := h
    exact ps_asgC_ok E H (by rw [H.N]; exact h1) (by rw [H.sc]; exact h2) (by rw [H.sc]; exact h3) h4
  | [], h => simp only [chkS] at h; cases h
  | tg :: tg2 :: r, h => cases tg <;> (simp only [chkS] at h; cases h)
theorem sndS_unp (E : EnvS g K k) (ts : List Tg) (e : CE) (lm : Bool) (sc : Scope) (s : Stmt) (X : Cx) (W : WX) (H : CtxS g K k X W lm sc) (h : chkS K lm sc (.unp ts e) s = true) : PS X s (tS g k W (.unp ts e)) := by
  cases s <;> (try (simp only [chkS] at h; cases h; done))
  rename_i tgs v p
  match tgs, h with
  | [.Tuple es j px], h =>
    simp only [chkS, Bool.and_eq_true] at h
    obtain ⟨h1, h2, h3⟩ := h
    exact ps_unp_ok H.G (by rw [H.N, H.sc]; exact h1) (by rw [H.sc]; exact h2) (sndE E.toEnv1 e lm sc v X W H.e h3).pe
  | [], h => simp only [chkS] at h; cases h
  | tg :: tg2 :: r, h => cases tg <;> (simp only [chkS] at h; cases h)
theorem sndS_par (E : EnvS g K k) (is : List Nat) (es : List CE) (lm : Bool) (sc : Scope) (s : Stmt) (X : Cx) (W : WX) (H : CtxS g K k X W lm sc) (h : chkS K lm sc (.par is es) s = true) : PS X s (tS g k W (.par is es)) := by
  cases s <;> (try (simp only [chkS] at h; cases h; done))
  rename_i tgs v p
  match tgs, h with
  | [.Tuple ts _ _], h =>
    cases v <;> (try (simp only [chkS] at h; cases h; done))
    simp only [chkS] at h
    exact ps_parC E H h
  | [], h => simp only [chkS] at h; cases h
  | tg :: tg2 :: r, h => cases tg <;> (simp only [chkS] at h; cases h)
theorem sndS_setIdx (E : EnvS g K k) (i : Nat) (ix : CE) (e : CE) (lm : Bool) (sc : Scope) (s : Stmt) (X : Cx) (W : WX) (H : CtxS g K k X W lm sc) (h : chkS K lm sc (.setIdx i ix e) s = true) : PS X s (tS g k W (.setIdx i ix e)) := by
  cases s <;> (try (simp only [chkS] at h; cases h; done))
  rename_i tgs v p
  match tgs, h with
  | [.Subscript o a p2], h =>
    cases o <;> (try (simp only [chkS] at h; cases h; done))
    simp only [chkS, Bool.and_eq_true, decide_eq_true_eq] at h
    obtain ⟨h1, h2, h3, h4, h5, h6⟩ := h
    exact ps_setIdx_ok H.G (by rw [H.N]; exact h1) (by rw [H.sc]; exact h2) h3 h4 (sndE E.toEnv1 e lm sc v X W H.e h5).pe (sndE E.toEnv1 ix lm sc a X W H.e h6).pe
  | [], h => simp only [chkS] at h; cases h
  | tg :: tg2 :: r, h =>
    cases tg with
    | Subscript o a p2 => cases o <;> (simp only [chkS] at h; cases h)
    | _ => simp only [chkS] at h; cases h
theorem sndS_expr (E : EnvS g K k) (e : CE) (lm : Bool) (sc : Scope) (s : Stmt) (X : Cx) (W : WX) (H : CtxS g K k X W lm sc) (h : chkS K lm sc (.expr e) s = true) : PS X s (tS g k W (.expr e)) := by
  cases s <;> (try (simp only [chkS] at h; cases h; done))
  simp only [chkS, Bool.and_eq_true] at h
  exact ps_expr_ok (sndE E.toEnv1 e lm sc _ X W H.e h.2).pe h.1
theorem sndS_ret (E : EnvS g K k) (e : CE) (lm : Bool) (sc : Scope) (s : Stmt) (X : Cx) (W : WX) (H : CtxS g K k X W lm sc) (h : chkS K lm sc (.ret e) s = true) : PS X s (tS g k W (.ret e)) := by
  cases s <;> (try (simp only [chkS] at h; cases h; done))
  rename_i v p
  cases v <;> (try (simp only [chkS] at h; cases h; done))
  simp only [chkS] at h
  exact ps_ret_ok (sndE E.toEnv1 e lm sc _ X W H.e h).pe
theorem sndS_retN (E : EnvS g K k) (lm : Bool) (sc : Scope) (s : Stmt) (X : Cx) (W : WX) (H : CtxS g K k X W lm sc) (h : chkS K lm sc (.retN) s = true) : PS X s (tS g k W (.retN)) := by
  cases s <;> (try (simp only [chkS] at h; cases h; done))
  rename_i v p
  cases v <;> (try (simp only [chkS] at h; cases h; done))
  exact ps_retN_ok
theorem sndS_pass (E : EnvS g K k) (lm : Bool) (sc : Scope) (s : Stmt) (X : Cx) (W : WX) (H : CtxS g K k X W lm sc) (h : chkS K lm sc (.pass) s = true) : PS X s (tS g k W (.pass)) := by
  cases s <;> (try (simp only [chkS] at h; cases h; done))
  exact ps_pass_ok
theorem sndS_cont (E : EnvS g K k) (lm : Bool) (sc : Scope) (s : Stmt) (X : Cx) (W : WX) (H : CtxS g K k X W lm sc) (h : chkS K lm sc (.cont) s = true) : PS X s (tS g k W (.cont)) := by
  cases s <;> (try (simp only [chkS] at h; cases h; done))
  exact ps_cont_ok
theorem sndS_brk (E : EnvS g K k) (lm : Bool) (sc : Scope) (s : Stmt) (X : Cx) (W : WX) (H : CtxS g K k X W lm sc) (h : chkS K lm sc (.brk) s = true) : PS X s (tS g k W (.brk)) := by
  cases s <;> (try (simp only [chkS] at h; cases h; done))
  exact ps_brk_ok
theorem sndS_raise (E : EnvS g K k) (i : Nat) (lm : Bool) (sc : Scope) (s : Stmt) (X : Cx) (W : WX) (H : CtxS g K k X W lm sc) (h : chkS K lm sc (.raise i) s = true) : PS X s (tS g k W (.raise i)) := by
  cases s <;> (try (simp only [chkS] at h; cases h; done))
  rename_i v cz p
  cases v <;> (try (simp only [chkS] at h; cases h; done))
  cases cz <;> (try (simp only [chkS] at h; cases h; done))
  simp only [chkS] at h
  exact ps_raiseC E H h
theorem sndS_try (E : EnvS g K k) (tup : Bool) {b : List CS} {lm : Bool} {sc : Scope} {body : List Stmt} {hds : List ExceptHandler} {p : Pos} {X : Cx} {W : WX} (H : CtxS g K k X W lm sc) (h : tryHd sc K.N K.t.nm tup hds = true)
    (hb : ∀ (X' : Cx) (W' : WX), GS g k X' W' → X'.N = X.N → X'.env = X.env → PSs X' body (tSs g k W' b)) :
    PS X (.Try body hds [] [] p) (fun D σ H => ∃ (x : Wo) (env : Envd), x.h = H ∧ Ok g x ∧ REnv g x env σ ∧ PostS g W x (tryR0 (fun e => if tup = true then .tup [.non, .str (g.T.nms e)] else .str (g.T.nms e)) (exSs g.T.nms g.T.G (callF g.T k) b env x.s)) D) := by
  unfold tryHd at h
  split at h
  case h_2 => cases h
  rename_i x np n r rp pos'
  simp only [Bool.and_eq_true, decide_eq_true_eq] at h
  obtain ⟨⟨h1, rfl, rfl⟩, ⟨h2, h3⟩, ⟨h4, h5⟩, h6⟩ := h
  have Nm := E.nm h1
  obtain ⟨i, hi⟩ := List.getElem?_of_mem h5
  have hi : X.N[i]? = some ("e" : Str) := by rw [H.N]; exact hi
  have h4 : X.env.scope.names.lookup ("e" : Str) = some .local := by rw [H.sc]; exact h4
  have h3 : glB X.env.scope "_law_names" = true := by rw [H.sc]; exact h3
  have h2 : glB X.env.scope "ShallowError" = true := by rw [H.sc]; exact h2
  unfold retNm at h6
  split at h6
  · simp only [Bool.and_eq_true, decide_eq_true_eq] at h6
    obtain ⟨rfl, rfl⟩ := h6
    exact ps_try_ok (mk := fun t => D.str t) Nm H.G hi h4 h2 hb fun a oe cls d pn hz hf => sui_n Nm H.G hi h4 h3 a oe cls d pn hz hf
  · simp only [Bool.and_eq_true, decide_eq_true_eq] at h6
    obtain ⟨rfl, rfl⟩ := h6
    exact ps_try_ok (mk := fun t => D.tup [.non, .str t]) Nm H.G hi h4 h2 hb fun a oe cls d pn hz hf => sui_t Nm H.G hi h4 h3 a oe cls d pn hz hf
  · cases h6
theorem ctx_tr {X X' : Cx} {W W' : WX} {lm : Bool} {sc : Scope} (H : CtxS g K k X W lm sc) (G : GS g k X' W') (h1 : X'.N = X.N) (h2 : X'.env = X.env) : CtxS g K k X' W' false sc := ⟨G, h1.trans H.N, by rw [h2]; exact H.sc, fun z => by cases z⟩
mutual
theorem sndS (E : EnvS g K k) : ∀ (c : CS) (lm : Bool) (sc : Scope) (s : Stmt) (X : Cx) (W : WX), CtxS g K k X W lm sc → chkS K lm sc c s = true → PS X s (tS g k W c)
  | .asg i e, lm, sc, s, X, W, H, h => sndS_asg E i e lm sc s X W H h
  | .asgC i e, lm, sc, s, X, W, H, h => sndS_asgC E i e lm sc s X W H h
  | .unp ts e, lm, sc, s, X, W, H, h => sndS_unp E ts e lm sc s X W H h
  | .par is es, lm, sc, s, X, W, H, h => sndS_par E is es lm sc s X W H h
  | .setIdx i ix e, lm, sc, s, X, W, H, h => sndS_setIdx E i ix e lm sc s X W H h
  | .expr e, lm, sc, s, X, W, H, h => sndS_expr E e lm sc s X W H h
  | .iff c t e, lm, sc, s, X, W, H, h => by
    cases s <;> (try (simp only [chkS] at h; cases h; done))
    simp only [chkS, Bool.and_eq_true] at h
    exact ps_if_ok (sndE E.toEnv1 c lm sc _ X W H.e h.1).pt (sndSs E t lm sc _ X W H h.2.1) (sndSs E e lm sc _ X W H h.2.2)
  | .forr tg it b, lm, sc, s, X, W, H, h => by
    cases s <;> (try (simp only [chkS] at h; cases h; done))
    rename_i tg' iter body orelse p
    cases orelse <;> (try (simp only [chkS] at h; cases h; done))
    simp only [chkS, Bool.and_eq_true] at h
    obtain ⟨h1, h2, h3, h4⟩ := h
    exact ps_for_ok H.G (sndI E.toEnv1 it lm sc tg' iter X W H.e h3) (by rw [H.N, H.sc]; exact h1) (sndSs E b lm sc body X W H h4) h2
  | .whil c b, lm, sc, s, X, W, H, h => by
    cases s <;> (try (simp only [chkS] at h; cases h; done))
    rename_i v body orelse p
    cases orelse <;> (try (simp only [chkS] at h; cases h; done))
    simp only [chkS, Bool.and_eq_true] at h
    exact ps_while_ok H.G (sndE E.toEnv1 c lm sc v X W H.e h.1).pt (sndSs E b lm sc body X W H h.2)
  | .ret e, lm, sc, s, X, W, H, h => sndS_ret E e lm sc s X W H h
  | .retN, lm, sc, s, X, W, H, h => sndS_retN E lm sc s X W H h
  | .pass, lm, sc, s, X, W, H, h => sndS_pass E lm sc s X W H h
  | .cont, lm, sc, s, X, W, H, h => sndS_cont E lm sc s X W H h
  | .brk, lm, sc, s, X, W, H, h => sndS_brk E lm sc s X W H h
  | .raise i, lm, sc, s, X, W, H, h => sndS_raise E i lm sc s X W H h
  | .tryN b, lm, sc, s, X, W, H, h => by
    cases s <;> (try (simp only [chkS] at h; cases h; done))
    rename_i body hds oe fb p
    cases oe <;> (try (simp only [chkS] at h; cases h; done))
    cases fb <;> (try (simp only [chkS] at h; cases h; done))
    simp only [chkS, Bool.and_eq_true] at h
    refine (sndS_try E false H h.1 fun X' W' G h1 h2 => sndSs E b false sc body X' W' (ctx_tr H G h1 h2) h.2).imp fun D σ Hh q => ?_
    obtain ⟨x, env, e1, ok, re, post⟩ := q
    refine ⟨x, env, e1, ok, re, ?_⟩
    simp only [exS] at post
    cases hq : exSs g.T.nms g.T.G (callF g.T k) b env x.s <;> rw [hq] at post <;> exact post
  | .tryT b, lm, sc, s, X, W, H, h => by
    cases s <;> (try (simp only [chkS] at h; cases h; done))
    rename_i body hds oe fb p
    cases oe <;> (try (simp only [chkS] at h; cases h; done))
    cases fb <;> (try (simp only [chkS] at h; cases h; done))
    simp only [chkS, Bool.and_eq_true] at h
    refine (sndS_try E true H h.1 fun X' W' G h1 h2 => sndSs E b false sc body X' W' (ctx_tr H G h1 h2) h.2).imp fun D σ Hh q => ?_
    obtain ⟨x, env, e1, ok, re, post⟩ := q
    refine ⟨x, env, e1, ok, re, ?_⟩
    simp only [exS] at post
    cases hq : exSs g.T.nms g.T.G (callF g.T k) b env x.s <;> rw [hq] at post <;> exact post
theorem sndSs (E : EnvS g K k) : ∀ (cs : List CS) (lm : Bool) (sc : Scope) (ss : List Stmt) (X : Cx) (W : WX), CtxS g K k X W lm sc → chkSs K lm sc cs ss = true → PSs X ss (tSs g k W cs)
  | [], lm, sc, [], X, W, H, h => pss_nil_ok
  | [], lm, sc, _ :: _, X, W, H, h => by simp only [chkSs] at h; cases h
  | _ :: _, lm, sc, [], X, W, H, h => by simp only [chkSs] at h; cases h
  | c :: cs, lm, sc, s :: ss, X, W, H, h => by
    simp only [chkSs, Bool.and_eq_true] at h
    exact pss_cons_ok (sndS E c lm sc s X W H h.1) (sndSs E cs lm sc ss X W H h.2)
end
end
end Fv
end

section
set_option Elab.async false
set_option linter.all false
set_option maxRecDepth 100000
set_option maxHeartbeats 4000000
set_option autoImplicit false
namespace Fv
open PySem PySem.Spec PyProof.Rows L2
def lamScB (N : List Str) (ps : List Nat) (params : Arguments) (scope : Scope) : Bool :=
  (decide (scope.kind = .function) && (!scope.isCoroutine && !scope.isGenerator)) && ((scope.names.all fun y => !decide (y.2 = .cell) && (!decide (y.2 = .local) || decide (y.1 ∈ params.args.map (·.arg)))) &&
    (((params.args.map (·.arg)).all fun y => decide (scope.names.lookup y = some .local)) && ((decide (params.args.map (·.arg)).Nodup && decide N.Nodup) && (decide (ps.map (fun i => N[i]?) = (params.args.map (·.arg)).map some) &&
      ((params.posonlyargs.isEmpty && params.kwonlyargs.isEmpty) && (params.vararg.isNone && params.kwarg.isNone))))))
theorem lamScB_ok {N : List Str} {ps : List Nat} {params : Arguments} {scope : Scope} (h : lamScB N ps params scope = true) : LamSc N ps params scope := by
  unfold lamScB at h
  simp only [Bool.and_eq_true, Bool.or_eq_true, Bool.not_eq_true', decide_eq_true_eq, decide_eq_false_iff_not, List.all_eq_true, List.isEmpty_iff, Option.isNone_iff_eq_none] at h
  obtain ⟨⟨h1, h2, h3⟩, h4, h5, ⟨h6, h7⟩, h8, ⟨h9, h10⟩, h11, h12⟩ := h
  refine ⟨h1, h2, h3, fun y hy => (h4 y hy).1, fun y hy => ?_, h5, h6, h7, h8, h9, h10, h11, h12⟩
  have m := PySem.mem_of_lookup hy
  rcases (h4 _ m).2 with q | q
  · exact absurd rfl q
  · exact q
def lamB (t : Tx) (lams : List LamC) (fB : Nat → Arguments → PySem.Expr → Scope → List Str → Bool) (l : Nat) (params : Arguments) (body : PySem.Expr) (scope : Scope) (N : List Str) : Bool := match lams[l]? with
  | some m => lamScB N m.ps params scope && chkE ⟨t, fB, N⟩ m.body false scope body
  | none => false
def noF : Nat → Arguments → PySem.Expr → Scope → List Str → Bool := fun _ _ _ _ _ => false
/-- the check of a def -/
def defB (t : Tx) (lams : List LamC) (N : List Str) (lm : Bool) (d : DefC) (params : Arguments) (body : List Stmt) (scope : Scope) : Bool :=
  C8.scC N (params.args.map (·.arg)) scope && ((decide (N.length = d.nn) && decide (params.args.length = d.np)) && (argsB params && chkSs ⟨t, lamB t lams noF, N⟩ lm scope d.body body))
structure DefAt (g : Pg) (t : Tx) (f : Nat) (d : DefC) : Prop where
  ex : ∃ (oc : Value) (od : Option Addr) (osl : Array (Option Value)) (name qual : Str) (params : Arguments) (body : List Stmt) (scope : Scope) (kV doc pm : Value) (an : Option Addr) (cdv ct : Value) (N : List Str) (lm : Bool),
    g.K.lookup (g.fa f) = some ⟨oc, od, .func (PySem.W.fnOf name qual params body scope .none kV doc pm an cdv ct), osl⟩ ∧ PySem.W.codeIn g.K cdv qual = true ∧ defB t g.T.lams N lm d params body scope = true ∧
    (lm = true → ∃ c P, LamX.TabB g.base g.mg c P ∧ cdv = .ref c ∧ (P, (qual ++ ".<locals>.") ++ "<lambda>") ∈ g.tabs ∧ ∀ p ∈ g.tabs, p.1 = P → p.2 = (qual ++ ".<locals>.") ++ "<lambda>")
  keep : PySem.W.keepIn g.K (.ref (g.fa f)) = true
/-- all that is known of the text -/
structure TextOk (g : Pg) (t : Tx) : Prop where
  T : TxOk g t
  defs : ∀ f, g.hs f = true → ∃ d, g.T.defs[f]? = some d ∧ DefAt g t f d
  fits : ∀ l params body scope N, g.fits l params body scope N ↔ lamB t g.T.lams noF l params body scope N = true
  nm : t.nm = true → NmOk g
section
variable {g : Pg} {t : Tx} {k : Nat}
theorem body_ok (X : TextOk g t) (F : ∀ f, g.hs f = true → FnAt g k f) (C : CloRun g k) : BodyOk g k := by
  intro l params body scope N m hf hm
  have h := (X.fits l params body scope N).mp hf
  unfold lamB at h
  rw [hm] at h
  simp only [Bool.and_eq_true] at h
  refine ⟨lamScB_ok h.1, fun Y W G hN hs => ?_⟩
  have E : Env1 g ⟨t, noF, N⟩ k := ⟨X.T, F, C, fun l p b s q => by cases q⟩
  exact (sndE E m.body false scope body Y W ⟨G, hN, hs, fun q => by cases q⟩ h.2).pe
theorem start_renv {z : Wo} {ds : List D} {vs : List V} (r : Reps g z ds vs) (N : List Str) (nn : Nat) (h : N.length = nn) : REnv g z (startE nn ds) (L2.start N vs) := by
  unfold startE L2.start
  rw [h, reps_len r]
  have key : ∀ {ds : List D} {vs : List V} (n : Nat), Reps g z ds vs → REnv g z (ds ++ List.replicate n .unset) (vs.map some ++ List.replicate n none) := by
    intro ds
    induction ds with
    | nil =>
      intro vs n r
      simp only [Reps] at r
      subst r
      simp only [List.nil_append, List.map_nil]
      induction n with
      | zero => simp [REnv]
      | succ n ih =>
        simp only [List.replicate_succ, REnv]
        exact ⟨_, _, rfl, .inl trivial, ih⟩
    | cons d ds ih =>
      intro vs n r
      simp only [Reps] at r
      obtain ⟨v, r', rfl, r1, r2⟩ := r
      simp only [List.cons_append, List.map_cons, REnv]
      exact ⟨_, _, rfl, .inr ⟨v, rfl, r1⟩, ih n r2⟩
  exact key _ r
theorem end_post {W : WX} {x : Wo} {r : R Fl} {Q : VK} {E : XK} (h : PostG g (Rep g) (fun v dd _ H => E v dd H) [] x (endF r) Q) : PostS g (fun v dd _ H => E v dd H) x r { nx := fun _ H' => Q .non H', rt := Q } := by
  cases r with
  | bad => exact h.elim
  | err e s => exact fun y ey oky es σ dd hd => h y ey oky es dd hd
  | ok fl s =>
    cases fl with
    | nx e => exact fun y ey oky es σ re => h y ey oky es .non (by simp only [Rep])
    | bk e => exact h.elim
    | ct e => exact h.elim
    | ret d =>
      simp only [endF] at h
      split at h
      · exact fun y ey oky es v rv => h y ey oky es v rv
      · exact h.elim
theorem fnAt_zero (X : TextOk g t) {f : Nat} {d : DefC} (D : DefAt g t f d) : FnAt g 0 f := by
  obtain ⟨oc, od, osl, name, qual, params, body, scope, kV, doc, pm, an, cdv, ct, N, lm, lk, hcd, hb, hlm⟩ := D.ex
  unfold defB at hb
  simp only [Bool.and_eq_true, decide_eq_true_eq] at hb
  obtain ⟨h1, ⟨h2, h3⟩, h4, h5⟩ := hb
  have S := C8.fnScope_by h1
  have nd : (params.args.map (·.arg)).Nodup := S.pre ▸ S.nd.sublist (List.take_sublist _ _)
  have FO : FnOk g.P g.w g.K g.mg g.base (L2N.CX g.P g.w) (0 + 1) (g.fa f) (PySem.W.fnOf name qual params body scope .none kV doc pm an cdv ct) (params.args.map (·.arg)) (spOf g 0 f) := by
    refine ⟨fun vs H Q E h => ?_, fun A outer s H args us vs Q E _ _ _ _ h => ?_⟩
    · obtain ⟨z, ds, _, _, _, post⟩ := h
      rw [callF_z] at post
      exact post.elim
    · obtain ⟨z, ds, _, _, _, post⟩ := h
      rw [callF_z] at post
      exact post.elim
  exact ⟨⟨_, _, FO, args_binds h4 nd⟩, D.keep, _, _, _, _, _, FO, lk, rfl⟩
theorem fnAt_succ (X : TextOk g t) (F : ∀ f, g.hs f = true → FnAt g k f) (C : CloRun g k) {f : Nat} (hs : g.hs f = true) : FnAt g (k + 1) f := by
  obtain ⟨d, hd, DA⟩ := X.defs f hs
  obtain ⟨oc, od, osl, name, qual, params, body, scope, kV, doc, pm, an, cdv, ct, N, lm, lk, hcd, hb, hlm⟩ := DA.ex
  unfold defB at hb
  simp only [Bool.and_eq_true, decide_eq_true_eq] at hb
  obtain ⟨h1, ⟨h2, h3⟩, h4, h5⟩ := hb
  have S := C8.fnScope_by h1
  have nd : (params.args.map (·.arg)).Nodup := S.pre ▸ S.nd.sublist (List.take_sublist _ _)
  have hsp : ∀ vs H Q E, spOf g (k + 1) f vs H Q E → ∃ (z : Wo) (ds : List D), z.h = H ∧ Ok g z ∧ Reps g z ds vs ∧ ds.length = d.np ∧ PostG g (Rep g) (fun v dd _ H => E v dd H) [] z (endF (exSs g.T.nms g.T.G (callF g.T k) d.body (startE d.nn ds) z.s)) Q := by
    intro vs H Q E h
    obtain ⟨z, ds, e, ok, r, post⟩ := h
    simp only [callF_f, hd] at post
    split at post
    · rename_i hl
      exact ⟨z, ds, e, ok, r, hl, post⟩
    · exact post.elim
  suffices FO : FnOk g.P g.w g.K g.mg g.base (L2N.CX g.P g.w) (k + 1 + 1) (g.fa f) (PySem.W.fnOf name qual params body scope .none kV doc pm an cdv ct) (params.args.map (·.arg)) (spOf g (k + 1) f) from ⟨⟨_, _, FO, args_binds h4 nd⟩, DA.keep, _, _, _, _, _, FO, lk, rfl⟩
  refine fn_of lk hcd S (fun vs H Q E h => ?_) fun A outer s H vs Q E hr h => ?_
  · obtain ⟨z, ds, _, _, r, hl, _⟩ := hsp vs H Q E h
    rw [reps_len r, hl, List.length_map, h3]
  · obtain ⟨z, ds, rfl, ok, r, hl, post⟩ := hsp vs H Q E h
    have G : GS g k (cxOf (L2N.CX g.P g.w) g.P g.w g.K g.mg g.base N qual scope (g.fa f) cdv A outer s z.h E) (fun v dd _ H => E v dd H) :=
      ⟨⟨rfl, rfl, rfl, rfl, rfl, rfl, hr, L2N.takes_of rfl rfl rfl rfl, S.nd⟩, passes_of rfl, fun _ => rfl, S.kind, rfl, rfl⟩
    have E1 : EnvS g ⟨t, lamB t g.T.lams noF, N⟩ k := ⟨⟨X.T, F, C, fun l p b s q => (X.fits l p b s N).mpr q⟩, X.nm⟩
    have M : lm = true → LamMk g (cxOf (L2N.CX g.P g.w) g.P g.w g.K g.mg g.base N qual scope (g.fa f) cdv A outer s z.h E) := fun q => by
      obtain ⟨c, P, q1, q2, q3, q4⟩ := hlm q
      refine ⟨fun pins s' σ H' I y c' m => ?_, c, P, q1, q2, q3, q4⟩
      have m : (y, c') ∈ cellsFrom (s.heap.objs.size + 1) scope.names [] := m
      have hk := cellsFrom_ok scope.names (s.heap.push { cls := .type "dict", data := .dict #[] }) (s.heap.objs.size + 1) [] ⟨fun n c h => (by cases h), .nil⟩ (by rw [Heap.size_push]; exact Nat.le_refl _)
      rw [Heap.size_push] at hk
      have hle : s.heap.objs.size < c' := (hk.empty y c' m).2
      refine ⟨fun mf => ?_, ?_⟩
      · have mf : c' ∈ frs (envOfC qual scope s.heap.objs.size (g.fa f) cdv :: outer) := mf
        rcases List.mem_cons.mp (show c' ∈ s.heap.objs.size :: frs outer from mf) with q | q
        · rw [q] at hle; exact Nat.lt_irrefl _ hle
        · obtain ⟨_, o, ho, _⟩ := I.ok.funs.mem q
          exact Nat.lt_irrefl _ (Nat.lt_trans (Heap.lt_size ho) hle)
      · cases q : g.base.get? c' with
        | none => exact q
        | some o =>
          have b : g.base.objs.size ≤ s.heap.objs.size := I.ok.bsz
          exact absurd (Nat.lt_trans (Nat.lt_of_lt_of_le (Heap.lt_size q) b) hle) (Nat.lt_irrefl _)
    refine ⟨_, sndSs E1 d.body lm scope body _ _ ⟨G, rfl, rfl, M⟩ h5, z, startE d.nn ds, rfl, ok, start_renv r N d.nn h2, end_post (W := WF) post⟩
/-- THE RULE: every def and every lambda does what the evaluator says -/
theorem all_ok (X : TextOk g t) : ∀ k, (∀ f, g.hs f = true → FnAt g k f) ∧ CloRun g k
  | 0 => ⟨fun f h => by
      obtain ⟨d, _, hd⟩ := X.defs f h
      exact fnAt_zero X hd, cloRun0 g⟩
  | k + 1 => by
    obtain ⟨F, C⟩ := all_ok X k
    refine ⟨fun f h => ?_, cloRun_succ (body_ok X F C)⟩
    exact fnAt_succ X F C h
end
end Fv
end

section
set_option Elab.async false
set_option linter.all false
set_option maxRecDepth 100000
set_option maxHeartbeats 4000000
set_option autoImplicit false
namespace Fv
open PySem PySem.Spec PyProof.Rows L2
inductive GV where
  | int (i : Int) | str (s : Txt) | tup (is : List Int)
def gvD : GV → D
  | .int i => .int i
  | .str s => .str s
  | .tup is => .tup (is.map D.int)
structure Row where
  id : Nat
  st : Stmt
  N : List Str
  lm : Bool
def stName : Stmt → Str
  | .FunctionDef n _ _ _ _ _ _ _ _ _ => n
  | _ => ""
def Row.nm (r : Row) : Str := stName r.st
def Row.dd (r : Row) : He.DefD := ⟨(r.nm, none), r.nm, r.nm, defArgs r.st, defBody r.st, defScope r.st, [], []⟩
structure Law where
  rows : List Row
  fn : List (Option Str)
  gls : List (Option (Str × GV))
  names : Option Stmt
  T : Tab
def EXN : List Str := ["ShallowError", "InvalidFormula", "InvalidInputs", "InvalidNumber", "InvalidProgram", "InvalidShuffle", "InvalidShuffles", "InvalidSums", "InvalidNumbers", "InvalidSteps", "InvalidRegisters", "InvalidLetter", "InvalidPlace", "InvalidText", "TooDeep", "Unlike", "Ended", "NothingToUndo", "TooMany"]
def Law.tx (L : Law) : Tx := ⟨L.fn, L.gls.map (Option.map (·.1)), EXN.take 18, L.names.isSome⟩
def nmRow (st : Stmt) : Row := ⟨0, st, NMN, false⟩
def Law.dds (L : Law) : List He.DefD := L.rows.map Row.dd ++ L.names.toList.map fun st => (nmRow st).dd
def glFa : Option (Str × GV) → List He.Fa
  | some (x, .int i) => [.int x i]
  | some (x, .str s) => [.str x (SX.S s)]
  | some (x, .tup _) => [.glo x]
  | none => []
def Law.fa (L : Law) : List He.Fa := L.rows.map (fun r => He.Fa.glo r.nm) ++ (bltNames.map He.Fa.free ++ (L.gls.flatMap glFa ++ ((EXN.take 18).flatMap (fun x => [He.Fa.glo x, .exc x, .exm x "ShallowError" true]) ++ (He.Fa.glo "TooMany" :: He.Fa.free "ValueError" :: (match L.names with
  | some _ => [He.Fa.glo "_law_names"]
  | none => [])))))
def Law.tf (L : Law) : List He.Defn := (L.rows.filter (·.lm)).map fun r => (r.nm, none)
def excCB (K : PySem.W.Frag) (D : Addr) : Bool := He.eqO (PySem.W.findIn K (.ref D) "__getattribute__") (some (some (.builtin "BaseException.__getattribute__"))) && (He.eqO (PySem.W.findIn K (.ref D) "__getattr__") (some none) && (PySem.W.hasDictIn K D && (He.eqO (PySem.W.findIn K (.ref D) "__class__") (some (some (.builtin "object.__class__"))) &&
  (He.eqO (PySem.W.specialIn K (.builtin "object.__class__") "__get__") (some (some (.builtin "getset_descriptor.__get__"))) && (decide (PySem.W.takesIn K (.builtin "object.__class__") = some true) && (decide (PySem.W.mroIn K D (.type "object") = some true) && decide (PySem.W.subIn K (.ref D) (.type "BaseException") = some true)))))))
def bsOf (e : Nat) : List Bool := ((List.range 18).map fun i => decide (i + 1 = if e < 19 then e else 1)) ++ [true]
def clsV (K : PySem.W.Frag) (y : Str) : Value := if y = "ValueError" then .type "ValueError" else .ref (He.ga K y)
def kitB (K : PySem.W.Frag) (D : Addr) : List Str → List Bool → Bool
  | [], [] => true
  | y :: ys, b :: bs => decide (PySem.W.kitOne K (.ref D) (clsV K y) = some b) && kitB K D ys bs
  | _, _ => false
def exAddr (K : PySem.W.Frag) (i : Nat) : Addr := He.ga K (EXN.getD i "InvalidFormula")
def glB2 (K : PySem.W.Frag) : Option (Str × GV) → Bool
  | some (x, .tup is) => He.tupB K x (is.map He.Dv.int)
  | _ => true
def Law.ex (L : Law) (K : PySem.W.Frag) : Bool := ((List.range 18).all fun e => excCB K (exAddr K e) && kitB K (exAddr K e) YS (bsOf e)) && (L.gls.all (glB2 K) && decide (L.tf.map fun p => (He.cT K p).2).Nodup)
/-- the text alone: each row fits its compact tree -/
def rowB (L : Law) (r : Row) : Bool := match L.T.defs[r.id]? with
  | some d => decide (L.fn[r.id]? = some (some r.nm)) && (decide (r.nm ≠ "__debug__") && (decide (r.nm ≠ "__name__") && defB L.tx L.T.lams r.N r.lm d (defArgs r.st) (defBody r.st) (defScope r.st)))
  | none => false
def fnB (L : Law) : Bool := (List.range L.fn.length).all fun f => match L.fn[f]? with
  | some (some x) => L.rows.any fun r => decide (r.id = f) && decide (r.nm = x)
  | _ => true
def glOk1 : Option (Str × GV) → Bool
  | some (x, .str s) => decide (x ≠ "__debug__") && okTxt s
  | some (x, .tup is) => decide (x ≠ "__debug__") && decide (is.length ≤ LIM)
  | some (x, _) => decide (x ≠ "__debug__")
  | none => true
def namesB (st : Stmt) : Bool := decide (stName st = "_law_names") && (C8.scC NMN EN (defScope st) && (argsB (defArgs st) && (decide ((defArgs st).args.map (·.arg) = EN) && (chkNames NMN (defScope st) YS (defBody st) && YS.all (glB (defScope st))))))
structure LawOk (L : Law) : Prop where
  rows : ∀ r ∈ L.rows, rowB L r = true
  fn : fnB L = true
  gls : L.gls.all glOk1 = true
  G : ∀ i x v, L.gls[i]? = some (some (x, v)) → L.T.G i = gvD v
  nm : ∀ st, L.names = some st → namesB st = true
  nms : ∀ e, e ≠ 18 → namesOf (bsOf e) = L.T.nms e
def pgOf (L : Law) (P : Program) (w : World) (K : PySem.W.Frag) (mg : Str → Option Value) (base : Heap) : Pg where
  P := P
  w := w
  K := K
  mg := mg
  base := base
  T := L.T
  fa := fun f => He.ga K ((L.fn.getD f none).getD "")
  hs := fun f => (L.fn.getD f none).isSome
  fits := fun l params body scope N => lamB L.tx L.T.lams noF l params body scope N = true
  tabs := L.tf.map fun p => ((He.cT K p).2, (p.1 ++ ".<locals>.") ++ "<lambda>")
  exA := exAddr K
  insA := fun _ => 0
section
variable {L : Law} {P : Program} {w : World} {K : PySem.W.Frag} {mg : Str → Option Value} {base h : Heap}
theorem all_ba {α : Type} {xs : List α} {p : α → Bool} (h : xs.all p = true) {x : α} (m : x ∈ xs) : p x = true := List.all_eq_true.mp h x m
theorem kitB_ok {D : Addr} {base0 : Heap} (hv : mg "ValueError" = none) : ∀ {ys : List Str} {bs : List Bool}, (∀ y ∈ ys, (y ≠ "ValueError" → mg y = some (.ref (He.ga K y))) ∧ y ≠ "__debug__") → kitB K D ys bs = true → ClsOk (pgOf L P w K mg base0) D ys bs
  | [], [], _, _ => trivial
  | [], _ :: _, _, h => by cases h
  | _ :: _, [], _, h => by cases h
  | y :: ys, b :: bs, hy, h => by
    simp only [kitB, Bool.and_eq_true, decide_eq_true_eq] at h
    refine ⟨?_, (hy y List.mem_cons_self).2, kitB_ok hv (fun z m => hy z (List.mem_cons_of_mem _ m)) h.2⟩
    by_cases e : y = "ValueError"
    · subst e
      exact .inr ⟨rfl, hv, by have := h.1; rw [clsV, if_pos rfl] at this; exact this⟩
    · exact .inl ⟨_, (hy y List.mem_cons_self).1 e, by have := h.1; rw [clsV, if_neg e] at this; exact this⟩
theorem excCB_ok {D : Addr} (h : excCB K D = true) : ExcC K D := by
  unfold excCB at h
  simp only [Bool.and_eq_true, decide_eq_true_eq] at h
  obtain ⟨h1, h2, h3, h4, h5, h6, h7, h8⟩ := h
  exact ⟨He.eqO_ok h1, He.eqO_ok h2, h8, h3, He.eqO_ok h4, He.eqO_ok h5, h6, h7⟩
theorem repsInts {g : Pg} {x : Wo} : ∀ is : List Int, Reps g x (is.map D.int) ((is.map He.Dv.int).map (He.Dv.v g.K))
  | [] => by simp only [List.map_nil, Reps]
  | i :: is => by
    simp only [List.map_cons, Reps, Rep]
    exact ⟨_, _, rfl, rfl, repsInts is⟩
theorem tab_inj (K : PySem.W.Frag) : ∀ (l : List He.Defn), (l.map fun p => (He.cT K p).2).Nodup → ∀ a ∈ l, ∀ b ∈ l, (He.cT K a).2 = (He.cT K b).2 → a = b
  | [], _, a, ha, _, _, _ => by cases ha
  | z :: l, nd, a, ha, b, hb, e => by
    rw [List.map_cons, List.nodup_cons] at nd
    rcases List.mem_cons.mp ha with ha | ha
    · rcases List.mem_cons.mp hb with hb | hb
      · rw [ha, hb]
      · exact absurd (show (He.cT K z).2 ∈ l.map (fun p => (He.cT K p).2) from List.mem_map.mpr ⟨b, hb, by rw [← e, ha]⟩) nd.1
    · rcases List.mem_cons.mp hb with hb | hb
      · exact absurd (show (He.cT K z).2 ∈ l.map (fun p => (He.cT K p).2) from List.mem_map.mpr ⟨a, ha, by rw [e, hb]⟩) nd.1
      · exact tab_inj K l nd.2 a ha b hb e
theorem text_of (O : LawOk L) (c : He.SaysX L.fa L.dds [] L.tf L.ex w h K) (KX : K.In base) (G : base.Ns mainGlobals mg) (TB : ∀ p ∈ L.tf.map (He.cT K), LamX.TabB base mg p.1 p.2) : TextOk (pgOf L P w K mg base) L.tx := by
  have cd := c.t.d
  have hex := c.more
  unfold Law.ex at hex
  simp only [Bool.and_eq_true, decide_eq_true_eq] at hex
  obtain ⟨hx1, hx2, hx3⟩ := hex
  have mem_fa : ∀ {f : He.Fa}, f ∈ L.fa → f.ok K = true := fun m => cd.facts m
  have hfree : ∀ x ∈ bltNames, mg x = none := fun x m => He.free_ok KX G (mem_fa (List.mem_append_right _ (List.mem_append_left _ (List.mem_map_of_mem m))))
  have hex3 : ∀ x ∈ EXN.take 18, ∀ f ∈ [He.Fa.glo x, .exc x, .exm x "ShallowError" true], f.ok K = true := fun x m f hf => mem_fa (List.mem_append_right _ (List.mem_append_right _ (List.mem_append_right _ (List.mem_append_left _ (List.mem_flatMap.mpr ⟨x, m, hf⟩)))))
  have hlast : ∀ f ∈ (He.Fa.glo "TooMany" :: He.Fa.free "ValueError" :: (match L.names with
    | some _ => [He.Fa.glo "_law_names"]
    | none => [])), f.ok K = true := fun f m => mem_fa (List.mem_append_right _ (List.mem_append_right _ (List.mem_append_right _ (List.mem_append_right _ m))))
  have hve : mg "ValueError" = none := He.free_ok KX G (hlast _ (List.mem_cons_of_mem _ List.mem_cons_self))
  have htm : mg "TooMany" = some (.ref (He.ga K "TooMany")) := He.glo_ok KX G (hlast _ List.mem_cons_self)
  have hcls : ∀ y ∈ YS, (y ≠ "ValueError" → mg y = some (.ref (He.ga K y))) ∧ y ≠ "__debug__" := by
    intro y hy
    refine ⟨fun ne => ?_, by revert y; decide⟩
    by_cases e : y = "TooMany"
    · rw [e]; exact htm
    · have m : y ∈ EXN.take 18 := by revert y; decide
      exact He.glo_ok KX G (hex3 y m _ List.mem_cons_self)
  have mrow : ∀ {r : Row}, r ∈ L.rows → mg r.nm = some (.ref (He.ga K r.nm)) := fun m => He.glo_ok KX G (mem_fa (List.mem_append_left _ (List.mem_map_of_mem (f := fun r : Row => He.Fa.glo r.nm) m)))
  have hrow : ∀ f x, L.fn[f]? = some (some x) → ∃ r ∈ L.rows, r.id = f ∧ r.nm = x := by
    intro f x hf
    have := all_ba O.fn (List.mem_range.mpr (List.getElem?_eq_some_iff.mp hf).1)
    rw [hf] at this
    obtain ⟨r, m, q⟩ := List.any_eq_true.mp this
    simp only [Bool.and_eq_true, decide_eq_true_eq] at q
    exact ⟨r, m, q.1, q.2⟩
  have hfa : ∀ f x, L.fn[f]? = some (some x) → (pgOf L P w K mg base).fa f = He.ga K x := by
    intro f x hf
    show He.ga K ((L.fn.getD f none).getD "") = _
    rw [List.getD_eq_getElem?_getD, hf]; rfl
  have hhs : ∀ f : Nat, (pgOf L P w K mg base).hs f = true ↔ ∃ x : Str, L.fn[f]? = some (some x) := by
    intro f
    show (L.fn.getD f none).isSome = true ↔ _
    rw [List.getD_eq_getElem?_getD]
    cases q : L.fn[f]? with
    | none => simp
    | some o => cases o <;> simp
  have hdd : ∀ {d : He.DefD}, d ∈ L.dds → ∃ fd, FunD K d.name d.qual d.params d.body d.scope (d.dvs K) (d.kws K) (He.fAd K d.at_) fd := fun m => cd.defs m
  refine ⟨⟨?_, ?_, ?_, hfree, hhs⟩, ?_, fun l params body scope N => Iff.rfl, ?_⟩
  · -- exceptions
    intro i x hi
    have hi : (EXN.take 18)[i]? = some x := hi
    have m : x ∈ EXN.take 18 := List.mem_of_getElem? hi
    have f3 := hex3 x m
    have e1 := He.exc_ok (f3 (.exc x) (by simp))
    have ea : (pgOf L P w K mg base).exA i = He.ga K x := by
      show He.ga K (EXN.getD i "InvalidFormula") = _
      have : EXN[i]? = some x := by
        rw [List.getElem?_take] at hi
        split at hi
        · exact hi
        · cases hi
      rw [List.getD_eq_getElem?_getD, this]; rfl
    have nd : ∀ y ∈ EXN.take 18, y ≠ "__debug__" := by decide
    refine ⟨nd x m, _, _, _, He.veBase, PySem.F.excBase_ValueError, ?_⟩
    rw [ea]
    exact ⟨e1.1, He.glo_ok KX G (f3 _ List.mem_cons_self), e1.2.1, fun M hh k => ⟨PySem.W.looks_subIn k e1.2.2.1, PySem.W.looks_typeIn k e1.2.2.2⟩⟩
  · -- defs' names
    intro f x hf
    have hf : L.fn[f]? = some (some x) := hf
    obtain ⟨r, m, rfl, rfl⟩ := hrow f x hf
    have hb := O.rows r m
    unfold rowB at hb
    split at hb
    · simp only [Bool.and_eq_true, decide_eq_true_eq] at hb
      rw [hfa _ _ hf]
      exact ⟨mrow m, hb.2.1, hb.2.2.1⟩
    · cases hb
  · -- constants
    intro i x hi
    have hi : (L.gls.map (Option.map (·.1)))[i]? = some (some x) := hi
    rw [List.getElem?_map] at hi
    obtain ⟨o, ho, q⟩ := Option.map_eq_some_iff.mp hi
    cases o with
    | none => cases q
    | some p =>
      obtain ⟨y, v⟩ := p
      have q : y = x := Option.some.inj q
      subst q
      have m := List.mem_of_getElem? ho
      have g1 := all_ba O.gls m
      have hG := O.G i _ v ho
      have fct : ∀ f ∈ glFa (some (y, v)), f.ok K = true := fun f hf => mem_fa (List.mem_append_right _ (List.mem_append_right _ (List.mem_append_left _ (List.mem_flatMap.mpr ⟨_, m, hf⟩))))
      cases v with
      | int j =>
        simp only [glOk1, decide_eq_true_eq] at g1
        obtain ⟨t, ht⟩ := He.int_ok KX G (fct (.int y j) (by simp [glFa]))
        refine ⟨g1, _, .int j, ht, ⟨t, rfl⟩, fun z _ => ?_⟩
        show Rep _ z (L.T.G i) _
        rw [hG]; simp only [gvD, Rep]
      | str t =>
        simp only [glOk1, Bool.and_eq_true, decide_eq_true_eq] at g1
        obtain ⟨tk, ht⟩ := He.str_ok KX G (fct (.str y (SX.S t)) (by simp [glFa]))
        refine ⟨g1.1, _, .str (SX.S t), ht, ⟨tk, rfl⟩, fun z _ => ?_⟩
        show Rep _ z (L.T.G i) _
        rw [hG]; simp only [gvD, Rep]
        exact ⟨trivial, okTxt_ok g1.2⟩
      | tup is =>
        simp only [glOk1, Bool.and_eq_true, decide_eq_true_eq] at g1
        have ht := He.glo_ok KX G (fct (.glo y) (by simp [glFa]))
        have hb := all_ba hx2 m
        refine ⟨g1.1, _, .ref (He.ga K y), ht, rfl, fun z _ => ?_⟩
        show Rep _ z (L.T.G i) _
        rw [hG]; simp only [gvD, Rep]
        exact ⟨_, _, rfl, He.tupB_ok hb z.h, repsInts (g := pgOf L P w K mg base) is⟩
  · -- defs
    intro f hs
    obtain ⟨x, hf⟩ := (hhs f).mp hs
    obtain ⟨r, m, rfl, rfl⟩ := hrow f x hf
    have hb := O.rows r m
    unfold rowB at hb
    split at hb
    case h_2 => cases hb
    rename_i d hd
    simp only [Bool.and_eq_true, decide_eq_true_eq] at hb
    obtain ⟨fd, FD⟩ := hdd (d := r.dd) (List.mem_append_left _ (List.mem_map_of_mem m))
    obtain ⟨oc, od, dV, kV, doc, pm, an, cdv, ct, osl, rfl, lk, hcd, hdv, hkv⟩ := FD.ex
    have hdV : dV = .none := by
      rcases hdv with ⟨_, q⟩ | ⟨q, _⟩
      · exact q
      · exact absurd rfl q
    subst hdV
    have ef : (pgOf L P w K mg base).fa r.id = He.fAd K r.dd.at_ := hfa _ _ hf
    refine ⟨d, hd, ⟨oc, od, osl, r.nm, r.nm, defArgs r.st, defBody r.st, defScope r.st, kV, doc, pm, an, cdv, ct, r.N, r.lm, by rw [ef]; exact lk, hcd, hb.2.2.2, fun hlm => ?_⟩, by rw [ef]; exact FD.kp⟩
    obtain ⟨c0, rfl⟩ := He.codeIn_ref hcd
    have ec : He.codeOf K (r.nm, none) = c0 := He.codeOf_eq (p := (r.nm, none)) lk rfl
    have mt : (r.nm, (none : Option Str)) ∈ L.tf := List.mem_map.mpr ⟨r, List.mem_filter.mpr ⟨m, hlm⟩, rfl⟩
    refine ⟨c0, (He.cT K (r.nm, none)).2, ?_, rfl, List.mem_map.mpr ⟨_, mt, rfl⟩, ?_⟩
    · have := TB _ (List.mem_map_of_mem (f := He.cT K) mt)
      have e2 : (He.cT K (r.nm, none)).1 = c0 := ec
      rw [e2] at this
      exact this
    · intro p hp e
      obtain ⟨q, mq, rfl⟩ := List.mem_map.mp hp
      have := tab_inj K L.tf hx3 q mq _ mt e
      subst this
      rfl
  · -- the names of the errors
    intro hn
    obtain ⟨st, hst⟩ := Option.isSome_iff_exists.mp (show L.names.isSome = true from hn)
    have hb := O.nm st hst
    unfold namesB at hb
    simp only [Bool.and_eq_true, decide_eq_true_eq] at hb
    obtain ⟨b1, b2, b3, b4, b5, b6⟩ := hb
    have hnm : mg "_law_names" = some (.ref (He.ga K "_law_names")) := He.glo_ok KX G (hlast _ (by rw [hst]; simp))
    obtain ⟨fd, FD⟩ := hdd (d := (nmRow st).dd) (List.mem_append_right _ (by rw [hst]; simp))
    obtain ⟨oc, od, dV, kV, doc, pm, an, cdv, ct, osl, rfl, lk, hcd, hdv, hkv⟩ := FD.ex
    have hdV : dV = .none := by
      rcases hdv with ⟨_, q⟩ | ⟨q, _⟩
      · exact q
      · exact absurd rfl q
    subst hdV
    have en : (nmRow st).nm = "_law_names" := b1
    refine ⟨fun e he => ?_, He.glo_ok KX G (hex3 "ShallowError" (by decide) _ List.mem_cons_self), hfree _ (by decide), hfree _ (by decide), He.ga K "_law_names", oc, od, osl, (nmRow st).nm, (nmRow st).nm, defArgs st, defBody st, defScope st, kV, doc, pm, an, cdv, ct, hnm, ?_, ?_, hcd, b2, b3, b4, b5, b6⟩
    · -- a class
      have key : ∀ e0, e0 < 18 → exAddr K e = exAddr K e0 → bsOf e = bsOf e0 → NmAt (pgOf L P w K mg base) e := by
        intro e0 h0 ea eb
        have hh := all_ba hx1 (List.mem_range.mpr h0)
        simp only [Bool.and_eq_true] at hh
        have dm : ∀ e1 : Fin 18, EXN.getD e1.val "InvalidFormula" ∈ EXN.take 18 := by decide
        have m : EXN.getD e0 "InvalidFormula" ∈ EXN.take 18 := dm ⟨e0, h0⟩
        refine ⟨?_, ?_, bsOf e, by simp [bsOf], O.nms e he, ?_⟩
        · show ExcC K (exAddr K e)
          rw [ea]; exact excCB_ok hh.1
        · show PySem.W.exmOne K (.ref (exAddr K e)) (.ref (exAddr K 0)) = some true
          rw [ea]
          exact He.exm_ok (hex3 _ m (.exm (EXN.getD e0 "InvalidFormula") "ShallowError" true) (by simp))
        · show ClsOk _ (exAddr K e) YS (bsOf e)
          rw [ea, eb]
          exact kitB_ok hve hcls hh.2
      by_cases h0 : e < 18
      · exact key e h0 rfl rfl
      · refine key 1 (by decide) ?_ ?_
        · unfold exAddr
          rw [List.getD_eq_getElem?_getD, List.getElem?_eq_none (by show 19 ≤ e; omega)]; rfl
        · unfold bsOf
          rw [if_neg (by omega)]; rfl
    · have := FD.kp
      have e3 : He.fAd K (nmRow st).dd.at_ = He.ga K "_law_names" := by
        show He.ga K (nmRow st).nm = _
        rw [en]
      rw [e3] at this
      exact this
    · have e3 : He.fAd K (nmRow st).dd.at_ = He.ga K "_law_names" := by
        show He.ga K (nmRow st).nm = _
        rw [en]
      rw [e3] at lk
      exact lk
/-- the law's own def, called with the script -/
theorem law_at {l : PySem.W.OpenLaw} {w : World} {fa : Addr} {n k f : Nat} (O : LawOk L) (c : He.SaysX L.fa L.dds [] L.tf L.ex w h K) (KX : K.In h) (G : h.Ns mainGlobals mg) (hm : mg "law" = some (.ref fa)) (hf : L.fn[f]? = some (some ("law" : Str)))
    {r : Row} (hr : r ∈ L.rows) (hid : r.id = f) (hps : (defArgs r.st).args.map (·.arg) = [("script" : Str)]) (hargs : argsB (defArgs r.st) = true)
    (H : ∀ ns : List Int, ns.length ≤ n → ∃ s, callF L.T k (.fn f) [.scr ns] [] = .ok (.bl true) s) : LamX.LawAtS l w K (L2N.CX l.prog w) (k + 1) n "script" mg fa h := by
  have hb := O.rows r hr
  unfold rowB at hb
  split at hb
  case h_2 => cases hb
  rename_i d hd
  simp only [Bool.and_eq_true, decide_eq_true_eq] at hb
  rw [hid, hf] at hb
  have hnm : r.nm = ("law" : Str) := by have := hb.1; simpa using this.symm
  obtain ⟨fd, FD⟩ := c.t.d.defs (d := r.dd) (List.mem_append_left _ (List.mem_map_of_mem hr))
  obtain ⟨oc, od, dV, kV, doc, pm, an, cdv, ct, osl, rfl, lk, hcd, hdv, hkv⟩ := FD.ex
  have hdV : dV = .none := by
    rcases hdv with ⟨_, q⟩ | ⟨q, _⟩
    · exact q
    · exact absurd rfl q
  subst hdV
  have hfaK : He.fAd K r.dd.at_ = fa := by
    have e1 : mg r.nm = some (.ref (He.ga K r.nm)) := He.glo_ok KX G (c.t.d.facts (List.mem_append_left _ (List.mem_map_of_mem (f := fun r : Row => He.Fa.glo r.nm) hr)))
    rw [hnm] at e1
    have e2 := hm.symm.trans e1
    cases e2
    show He.ga K r.nm = _
    rw [hnm]
  rw [hfaK] at lk
  have bd : ∀ (s : Shared) (u : Value), BindsTo s (PySem.W.fnOf r.nm r.nm (defArgs r.st) (defBody r.st) (defScope r.st) .none kV doc pm an cdv ct) ⟨[u], []⟩ [("script", u)] := by
    intro s u
    have ha := hargs
    unfold argsB at ha
    simp only [Bool.and_eq_true, List.isEmpty_iff, Option.isNone_iff_eq_none] at ha
    have hl : (defArgs r.st).args.length = 1 := by have := congrArg List.length hps; simpa using this
    have := bind_plain (fd := PySem.W.fnOf r.nm r.nm (defArgs r.st) (defBody r.st) (defScope r.st) .none kV doc pm an cdv ct) (us := [u]) ha.1.1 ha.1.2 ha.2.1 ha.2.2 rfl (by show ((defArgs r.st).args.map (·.arg)).Nodup; rw [hps]; exact List.nodup_cons.mpr ⟨by simp, .nil⟩) (by show 1 = _; exact hl.symm)
    refine .of_eq (this.trans ?_)
    show pure (((defArgs r.st).args.map (·.arg)).zip [u]) = _
    rw [hps]; rfl
  let sp : Sp := fun vs H Q _ => ∃ (ns : List Int) (a : Addr), vs = [.ref a] ∧ ns.length ≤ n ∧ (∀ p ∈ L.tf.map (He.cT K), H p.2 = some (.tbl #[])) ∧ SqL K H a (ns.map V.int) ∧ ∀ H', Q (.bl true) H'
  refine ⟨_, L.tf.map (He.cT K), sp, ?_, ?_, ?_, bd, ?_, ?_⟩
  · intro p hp
    obtain ⟨q, mq, rfl⟩ := List.mem_map.mp hp
    exact c.empty q mq
  · intro p hp
    obtain ⟨q, mq, rfl⟩ := List.mem_map.mp hp
    exact c.out q mq
  · intro p hp
    obtain ⟨q, mq, rfl⟩ := List.mem_map.mp hp
    exact PySem.W.codeHd_of_K KX (c.hd q mq)
  · intro H0 a ns hl _ hT hS
    exact ⟨ns, a, rfl, hl, hT, hS, fun _ => rfl⟩
  · intro base KB GB TB
    have X := text_of (P := l.prog) O c KB GB TB
    have A := (all_ok X k).1 f (by
      show (L.fn.getD f none).isSome = true
      rw [List.getD_eq_getElem?_getD, hf]; rfl)
    obtain ⟨fd', ps', oc', od', osl', FO, lk', hps'⟩ := A.lk
    have efa : (pgOf L l.prog w K mg base).fa f = fa := by
      show He.ga K ((L.fn.getD f none).getD "") = _
      rw [List.getD_eq_getElem?_getD, hf]
      show He.ga K ("law" : Str) = fa
      rw [← hfaK]
      show _ = He.ga K r.nm
      rw [hnm]
    rw [efa] at FO lk'
    have lk' : K.lookup fa = some ⟨oc', od', .func fd', osl'⟩ := lk'
    rw [lk] at lk'
    cases lk'
    have hps' : ps' = [("script" : Str)] := hps'.trans hps
    subst hps'
    have hi : ∀ vs H0 (Q : VK) (E : XK), sp vs H0 Q E → spOf (pgOf L l.prog w K mg base) k f vs H0 Q E := by
      rintro vs H0 Q E ⟨ns, a, rfl, hl, hT, hS, hQ⟩
      obtain ⟨s, hs⟩ := H ns hl
      refine ⟨⟨[], [], H0, []⟩, [.scr ns], rfl, ⟨rfl, .nil, fun n a c h => by simp at h, ?_, fun a h => by simp at h, fun c h => by simp at h, fun a h => by simp at h, fun a h => by simp at h⟩, ?_, ?_⟩
      · intro p hp
        obtain ⟨q, mq, rfl⟩ := List.mem_map.mp (show p ∈ L.tf.map (fun p => ((He.cT K p).2, (p.1 ++ ".<locals>.") ++ "<lambda>")) from hp)
        exact LamX.TabS.nil (hT _ (List.mem_map_of_mem (f := He.cT K) mq))
      · simp only [Reps]
        refine ⟨_, _, rfl, ?_, rfl⟩
        simp only [Rep]
        refine ⟨a, rfl, ?_⟩
        rcases hS with (hS | ⟨o, hS⟩) | hS
        · refine .inr (.inl ⟨hS, ?_⟩)
          rintro (q | ⟨n, c, q, _⟩)
          · simp at q
          · simp at q
        · exact .inl ⟨o, hS⟩
        · exact .inr (.inr fun H => .inr hS)
      · show PostG _ _ _ _ _ (callF L.T k (.fn f) [.scr ns] []) Q
        rw [hs]
        intro y ey oky es v rv
        simp only [Rep] at rv
        subst rv
        exact hQ _
    exact ⟨fun vs H0 Q E h => FO.len _ _ _ _ (hi vs H0 Q E h), fun A outer s H0 args us vs Q E hr e0 hb r h => FO.run A outer s H0 args us vs Q E hr e0 hb r (hi vs H0 Q E h)⟩
end
theorem cx_no {P : Program} (w : World) (H : Hp) (s : Shared) (e : Value) (s' : Shared) (h : L2N.CX P w [] H s (fun _ _ _ => False) e s') : False := by
  obtain ⟨_, _, _, _, _, _, _, _, _, _, _, _, h⟩ := h
  exact h
end Fv
end

section
set_option Elab.async false
set_option linter.all false
set_option maxRecDepth 100000
set_option maxHeartbeats 4000000
set_option autoImplicit false
namespace Fv.Fw
open PySem
section
variable {α β : Type}
theorem bind_ok (a : α) (s : Sto) (f : α → Sto → R β) : (R.ok a s).bind f = f a s := rfl
theorem bind_err (x : Nat) (s : Sto) (f : α → Sto → R β) : (R.err x s : R α).bind f = .err x s := rfl
theorem bind_bad (f : α → Sto → R β) : (R.bad : R α).bind f = .bad := rfl
theorem noErr_ok (a : α) (s : Sto) : (R.ok a s).noErr = .ok a s := rfl
/-- what holds at a good end -/
def wp (r : R α) (Q : α → Sto → Prop) : Prop := match r with
  | .ok a s => Q a s
  | _ => False
theorem wp_ok (a : α) (s : Sto) (Q : α → Sto → Prop) : wp (.ok a s) Q = Q a s := rfl
theorem wp_bind (r : R α) (f : α → Sto → R β) (Q : β → Sto → Prop) : wp (r.bind f) Q = wp r fun a s => wp (f a s) Q := by cases r <;> rfl
theorem wp_noErr (r : R α) (Q : α → Sto → Prop) : wp r.noErr Q = wp r Q := by cases r <;> rfl
theorem wp_mono {r : R α} {P Q : α → Sto → Prop} (h : wp r P) (hi : ∀ a s, P a s → Q a s) : wp r Q := by
  cases r with
  | ok a s => exact hi a s h
  | err => exact h
  | bad => exact h
theorem wp_use {r : R α} {Q : α → Sto → Prop} {P : α → Sto → Prop} (h : wp r P) (hi : ∀ a s, P a s → Q a s) : wp r Q := wp_mono h hi
theorem wp_eq {r : R α} {a : α} {s : Sto} {Q : α → Sto → Prop} (h : r = .ok a s) (q : Q a s) : wp r Q := by rw [h]; exact q
theorem wp_get {r : R α} {Q : α → Sto → Prop} (h : wp r Q) : ∃ a s, r = .ok a s ∧ Q a s := by
  cases r with
  | ok a s => exact ⟨a, s, rfl, h⟩
  | err => exact h.elim
  | bad => exact h.elim
theorem wp_and {r : R α} {P Q : α → Sto → Prop} (h : wp r P) (h2 : wp r Q) : wp r fun a s => P a s ∧ Q a s := by
  cases r with
  | ok a s => exact ⟨h, h2⟩
  | err => exact h
  | bad => exact h
end
def retD (d : D) (s : Sto) : R D := match d with
  | .unset => .bad
  | d => .ok d s
def getV : Envd → Nat → Sto → R D
  | [], _, _ => .bad
  | d :: _, 0, s => retD d s
  | _ :: r, i + 1, s => getV r i s
theorem retD_ok {d : D} (h : d ≠ .unset) (s : Sto) : retD d s = .ok d s := by
  cases d <;> first | rfl | exact absurd rfl h
section
variable (s : Sto)
theorem retD_non : retD .non s = .ok .non s := rfl
theorem retD_bl (b : Bool) : retD (.bl b) s = .ok (.bl b) s := rfl
theorem retD_int (b : Int) : retD (.int b) s = .ok (.int b) s := rfl
theorem retD_str (b : Txt) : retD (.str b) s = .ok (.str b) s := rfl
theorem retD_tup (b : List D) : retD (.tup b) s = .ok (.tup b) s := rfl
theorem retD_lst (b : List D) : retD (.lst b) s = .ok (.lst b) s := rfl
theorem retD_dic (a : List Txt) (b : List D) : retD (.dic a b) s = .ok (.dic a b) s := rfl
theorem retD_scr (b : List Int) : retD (.scr b) s = .ok (.scr b) s := rfl
theorem retD_fn (b : Nat) : retD (.fn b) s = .ok (.fn b) s := rfl
theorem retD_obj (b : Nat) : retD (.obj b) s = .ok (.obj b) s := rfl
theorem retD_clo (b : Nat) (c : List D) : retD (.clo b c) s = .ok (.clo b c) s := rfl
theorem getV_z (d : D) (r : Envd) : getV (d :: r) 0 s = retD d s := rfl
theorem getV_s (d : D) (r : Envd) (i : Nat) : getV (d :: r) (i + 1) s = getV r i s := rfl
end
theorem getV_get : ∀ {env : Envd} {i : Nat} {s : Sto}, getV env i s = match env[i]? with
    | some .unset => .bad
    | some d => .ok d s
    | none => .bad
  | [], i, s => by simp [getV]
  | d :: r, 0, s => by simp only [getV, List.getElem?_cons_zero]; cases d <;> rfl
  | d :: r, i + 1, s => by simp only [getV, List.getElem?_cons_succ]; exact getV_get
/-- a name set -/
def consO (d : D) (o : Option Envd) : Option Envd := match o with
  | some e => some (d :: e)
  | none => none
def putV : Envd → Nat → D → Option Envd
  | [], _, _ => none
  | _ :: r, 0, x => some (x :: r)
  | d :: r, i + 1, x => consO d (putV r i x)
theorem putV_z (d : D) (r : Envd) (x : D) : putV (d :: r) 0 x = some (x :: r) := rfl
theorem putV_s (d : D) (r : Envd) (i : Nat) (x : D) : putV (d :: r) (i + 1) x = consO d (putV r i x) := rfl
theorem consO_some (d : D) (e : Envd) : consO d (some e) = some (d :: e) := rfl
theorem putV_if : ∀ (env : Envd) (i : Nat) (x : D), (if i < env.length then some (env.set i x) else none) = putV env i x
  | [], i, x => by simp [putV]
  | d :: r, 0, x => by simp [putV]
  | d :: r, i + 1, x => by
    rw [putV_s, ← putV_if r i x]
    by_cases h : i < r.length
    · simp [h, consO]
    · simp [h, consO]
theorem bt_v (i : Nat) (d : D) (env : Envd) : bindTg (.v i) d env = putV env i d := by rw [← putV_if]; simp only [bindTg]
theorem bt_tt (ts : List Tg) (xs : List D) (env : Envd) : bindTg (.t ts) (.tup xs) env = bindTgs ts xs env := by simp only [bindTg]
theorem bt_tl (ts : List Tg) (xs : List D) (env : Envd) : bindTg (.t ts) (.lst xs) env = bindTgs ts xs env := by simp only [bindTg]
theorem bts_nil (env : Envd) : bindTgs [] [] env = some env := by simp only [bindTgs]
theorem bts_cons (t : Tg) (ts : List Tg) (x : D) (xs : List D) (env : Envd) : bindTgs (t :: ts) (x :: xs) env = (bindTg t x env).bind fun e => bindTgs ts xs e := by simp only [bindTgs]
theorem aa_nil (env : Envd) : asgAll [] [] env = some env := rfl
theorem aa_cons (i : Nat) (is : List Nat) (d : D) (ds : List D) (env : Envd) : asgAll (i :: is) (d :: ds) env = (putV env i d).bind (asgAll is ds) := by
  rw [← putV_if]; simp only [asgAll]; split <;> rfl
theorem wipeD_nil (env : Envd) : wipeD env [] = env := rfl
theorem wipeD_cons (env : Envd) (v : Nat) (vs : List Nat) : wipeD env (v :: vs) = (wipeD env vs).set v .unset := rfl
section
variable (G : Nat → D) (cl : Call) (env : Envd) (s : Sto) (a b c : CE) (es : List CE)
theorem e_var (i : Nat) : evE G cl (.var i) env s = getV env i s := by
  rw [getV_get]; simp only [evE]
  all_goals (split <;> rename_i h <;> simp only [h])
theorem e_non : evE G cl .non env s = .ok .non s := by simp only [evE]
theorem e_bl (b : Bool) : evE G cl (.bl b) env s = .ok (.bl b) s := by simp only [evE]
theorem e_int (b : Int) : evE G cl (.int b) env s = .ok (.int b) s := by simp only [evE]
theorem e_str (b : Txt) : evE G cl (.str b) env s = .ok (.str b) s := by simp only [evE]
theorem e_glob (g : Nat) : evE G cl (.glob g) env s = .ok (G g) s := by simp only [evE]
theorem e_fnv (g : Nat) : evE G cl (.fnv g) env s = .ok (.fn g) s := by simp only [evE]
theorem e_tup : evE G cl (.tup es) env s = (evEs G cl es env s).bind fun ds s1 => if ds.length ≤ LIM then .ok (.tup ds) s1 else .bad := by simp only [evE]
theorem e_lst : evE G cl (.lst es) env s = (evEs G cl es env s).bind fun ds s1 => if ds.length ≤ LIM then .ok (.lst ds) s1 else .bad := by simp only [evE]
theorem e_lstN : evE G cl (.lstN es) env s = (evEs G cl es env s).bind fun ds s1 => if ds.length ≤ LIM ∧ noClos ds = true then .ok (.obj s1.length) (s1 ++ [.lst ds]) else .bad := by simp only [evE]
theorem e_bin (op : Operator) : evE G cl (.bin op a b) env s = (evE G cl a env s).bind fun x s1 => (evE G cl b env s1).bind fun y s2 => opBin op x y s2 := by simp only [evE]
def negD : D → Sto → R D
  | .int i, s => .ok (.int (-i)) s
  | _, _ => .bad
def notD : D → Sto → R D
  | .bl i, s => .ok (.bl (!i)) s
  | _, _ => .bad
def iteD {α : Type} (x : D) (t e : R α) : R α := match x with
  | .bl true => t
  | .bl false => e
  | _ => .bad
theorem iteD_t {α : Type} (t e : R α) : iteD (.bl true) t e = t := rfl
theorem iteD_f {α : Type} (t e : R α) : iteD (.bl false) t e = e := rfl
theorem iteD_if {α : Type} (b : Bool) (t e : R α) : iteD (.bl b) t e = if b = true then t else e := by cases b <;> rfl
theorem e_neg : evE G cl (.neg a) env s = (evE G cl a env s).bind negD := by
  simp only [evE]; congr 1; funext x s; cases x <;> rfl
theorem e_not : evE G cl (.not a) env s = (evE G cl a env s).bind notD := by
  simp only [evE]; congr 1; funext x s; cases x <;> rfl
theorem e_and : evE G cl (.and a b) env s = (evE G cl a env s).bind fun x s1 => iteD x (evE G cl b env s1) (.ok (.bl false) s1) := by
  simp only [evE]; congr 1
theorem e_or : evE G cl (.or a b) env s = (evE G cl a env s).bind fun x s1 => iteD x (.ok (.bl true) s1) (evE G cl b env s1) := by
  simp only [evE]; congr 1; funext x s; cases x <;> first | rfl | (rename_i b; cases b <;> rfl)
theorem e_cmp (op : CmpOp) : evE G cl (.cmp op a b) env s = (evE G cl a env s).bind fun x s1 => (evE G cl b env s1).bind fun y s2 => opCmp op x y s2 := by simp only [evE]
theorem e_chain (o1 o2 : CmpOp) : evE G cl (.chain o1 o2 a b c) env s = (evE G cl a env s).bind fun x s1 => (evE G cl b env s1).bind fun y s2 => (opCmp o1 x y s2).bind fun z s3 => iteD z ((evE G cl c env s3).bind fun w s4 => opCmp o2 y w s4) (.ok (.bl false) s3) := by
  simp only [evE]; congr 1
theorem e_ite : evE G cl (.ite c a b) env s = (evE G cl c env s).bind fun x s1 => iteD x (evE G cl a env s1) (evE G cl b env s1) := by
  simp only [evE]; congr 1
theorem e_call (f : Nat) : evE G cl (.call f es) env s = (evEs G cl es env s).bind fun ds s1 => cl (.fn f) ds s1 := by simp only [evE]
def callD (cl : Call) (d : D) (r : R (List D)) : R D := if callable d then r.bind fun ds s1 => cl d ds s1 else .bad
theorem callD_fn (cl : Call) (f : Nat) (r : R (List D)) : callD cl (.fn f) r = r.bind fun ds s1 => cl (.fn f) ds s1 := rfl
theorem callD_clo (cl : Call) (f : Nat) (e : Envd) (r : R (List D)) : callD cl (.clo f e) r = r.bind fun ds s1 => cl (.clo f e) ds s1 := rfl
theorem e_callV (i : Nat) : evE G cl (.callV i es) env s = (getV env i s).bind fun d _ => callD cl d (evEs G cl es env s) := by
  simp only [evE, getV_get]
  split
  · rename_i d h
    rw [h]
    cases d <;> rfl
  · rename_i h
    rw [h]; rfl
theorem e_f1 (f : F1) : evE G cl (.f1 f a) env s = (evE G cl a env s).bind fun x s1 => opF1 f x s1 := by simp only [evE]
theorem e_f2 (f : F2) : evE G cl (.f2 f a b) env s = (evE G cl a env s).bind fun x s1 => (evE G cl b env s1).bind fun y s2 => opF2 f x y s2 := by simp only [evE]
def isD (t : Ty) (x : D) (s : Sto) : R D := match isTy t x with
  | some b => .ok (.bl b) s
  | none => .bad
theorem e_isin (t : Ty) : evE G cl (.isin a t) env s = (evE G cl a env s).bind fun x s1 => isD t x s1 := by
  simp only [evE]; congr 1
theorem e_idx : evE G cl (.idx a b) env s = (evE G cl a env s).bind fun x s1 => (evE G cl b env s1).bind fun y s2 => opAt x y s2 := by simp only [evE]
theorem e_dget : evE G cl (.dget a b) env s = (evE G cl a env s).bind fun x s1 => (evE G cl b env s1).bind fun y s2 => opDg x y s2 := by simp only [evE]
theorem e_m1 (m : M1) : evE G cl (.m1 m a b) env s = (evE G cl a env s).bind fun x s1 => if isStr x then (evE G cl b env s1).bind fun y s2 => opM1 m x y s2 else .bad := by simp only [evE]
theorem e_sl (lo hi : Option CE) : evE G cl (.sl a lo hi) env s = (evE G cl a env s).bind fun x s1 => (evO G cl lo env s1).bind fun l s2 => (evO G cl hi env s2).bind fun h s3 => opSl x l h s3 := by simp only [evE]
/-- with a name set, or not at all -/
def withE {α : Type} (o : Option Envd) (f : Envd → R α) : R α := match o with
  | some e => f e
  | none => .bad
theorem withE_some {α : Type} (e : Envd) (f : Envd → R α) : withE (some e) f = f e := rfl
def ifB {α : Type} (b : Bool) (x y : R α) : R α := match b with
  | true => x
  | false => y
theorem ifB_t {α : Type} (x y : R α) : ifB true x y = x := rfl
theorem ifB_f {α : Type} (x y : R α) : ifB false x y = y := rfl
/-- one turn of a comprehension -/
def compF (G : Nat → D) (cl : Call) (e : CE) (tg : Tg) (own : List Nat) (c : Option CE) (env : Envd) (x : D) (s : Sto) : R (Option D) := withE (bindTg tg x (wipeD env own)) fun env1 => (evC G cl c env1 s).bind fun b s3 => ifB b ((evE G cl e env1 s3).bind fun y s4 => .ok (some y) s4) (.ok none s3)
theorem e_comp (e : CE) (tg : Tg) (own : List Nat) (it : CI) (c : Option CE) : evE G cl (.comp e tg own it c) env s = (evI G cl it env s).bind fun xs s1 => ((filterMapL (compF G cl e tg own c env) xs s1).noErr).bind fun ys s2 => .ok (.lst ys) s2 := by
  simp only [evE]; congr 1; funext xs s1; congr 3; funext x s2; unfold compF
  cases bindTg tg x (wipeD env own) with
  | none => rfl
  | some e1 =>
    simp only [withE_some]; congr 1; funext b s3; cases b <;> rfl
def dcompF (G : Nat → D) (cl : Call) (k e : CE) (tg : Tg) (own : List Nat) (env : Envd) (x : D) (s : Sto) : R (D × D) := withE (bindTg tg x (wipeD env own)) fun env1 => (evE G cl k env1 s).bind fun y s3 => (evE G cl e env1 s3).bind fun z s4 => .ok (y, z) s4
theorem e_dcomp (k e : CE) (tg : Tg) (own : List Nat) (it : CI) : evE G cl (.dcomp k e tg own it) env s = (evI G cl it env s).bind fun xs s1 => (dcL (dcompF G cl k e tg own env) xs [] [] s1).noErr := by
  simp only [evE]; congr 1
theorem e_callL (f l : Nat) : evE G cl (.callL f l es) env s = ((evEs G cl es env s).bind fun ds s1 => (cl (.fn f) (.clo l env :: ds) s1).noErr).bind fun d s2 => ifB (noClo d) (.ok d s2) .bad := by
  simp only [evE]
  congr 1; funext d s2; cases noClo d <;> rfl
theorem es_nil : evEs G cl [] env s = .ok [] s := by simp only [evEs]
theorem es_cons : evEs G cl (a :: es) env s = (evE G cl a env s).bind fun x s1 => (evEs G cl es env s1).bind fun xs s2 => .ok (x :: xs) s2 := by simp only [evEs]
def intO (x : D) (s : Sto) : R (Option Int) := match x with
  | .int i => .ok (some i) s
  | _ => .bad
theorem o_none : evO G cl none env s = .ok none s := by simp only [evO]
theorem o_some : evO G cl (some a) env s = (evE G cl a env s).bind intO := by
  simp only [evO]; congr 1
def blC (x : D) (s : Sto) : R Bool := match x with
  | .bl b => .ok b s
  | _ => .bad
theorem c_none : evC G cl none env s = .ok true s := by simp only [evC]
theorem c_some : evC G cl (some a) env s = (evE G cl a env s).bind blC := by
  simp only [evC]; congr 1
def itsR (x : D) (s : Sto) : R (List D) := match itemsOf x with
  | some xs => .ok xs s
  | none => .bad
theorem i_seq : evI G cl (.seq a) env s = (evE G cl a env s).bind itsR := by
  simp only [evI]; congr 1
def rng1R (x : D) (s : Sto) : R (List D) := match x with
  | .int j => if okRng j then .ok (rngL 0 j.toNat) s else .bad
  | _ => .bad
theorem i_rng1 : evI G cl (.rng1 a) env s = (evE G cl a env s).bind rng1R := by
  simp only [evI]; congr 1
def rng2R (x y : D) (s : Sto) : R (List D) := match x, y with
  | .int i, .int j => if okRng i && okRng j then .ok (rngL i (j - i).toNat) s else .bad
  | _, _ => .bad
theorem i_rng2 : evI G cl (.rng2 a b) env s = (evE G cl a env s).bind fun x s1 => (evE G cl b env s1).bind fun y s2 => rng2R x y s2 := by
  simp only [evI]; congr 1
def zipR (x y : D) (s : Sto) : R (List D) := match itemsOf x, itemsOf y with
  | some xs, some ys => .ok (zipL xs ys) s
  | _, _ => .bad
theorem i_zip : evI G cl (.zip a b) env s = (evE G cl a env s).bind fun x s1 => (evE G cl b env s1).bind fun y s2 => zipR x y s2 := by
  simp only [evI]; rfl
def zip3R (x y z : D) (s : Sto) : R (List D) := match itemsOf x, itemsOf y, itemsOf z with
  | some xs, some ys, some zs => .ok (zipL3 xs ys zs) s
  | _, _, _ => .bad
theorem i_zip3 : evI G cl (.zip3 a b c) env s = (evE G cl a env s).bind fun x s1 => (evE G cl b env s1).bind fun y s2 => (evE G cl c env s2).bind fun z s3 => zip3R x y z s3 := by
  simp only [evI]; rfl
def enumR (x : D) (s : Sto) : R (List D) := match itemsE x with
  | some xs => .ok (enumL 0 xs) s
  | none => .bad
theorem i_enum : evI G cl (.enum a) env s = (evE G cl a env s).bind enumR := by
  simp only [evI]; congr 1
end
section
variable (N : Nat → Txt) (G : Nat → D) (cl : Call) (env : Envd) (s : Sto) (e c : CE) (b t : List CS)
def optN (o : Option Envd) (s : Sto) : R Fl := match o with
  | some env1 => .ok (.nx env1) s
  | none => .bad
theorem s_asg (i : Nat) : exS N G cl (.asg i e) env s = (evE G cl e env s).bind fun x s1 => optN (putV env i x) s1 := by
  simp only [exS]; congr 1; funext x s; rw [← putV_if]; split <;> rfl
theorem s_asgC (i : Nat) : exS N G cl (.asgC i e) env s = (evE G cl e env s).bind fun x s1 => optN (putV env i x) s1 := by
  simp only [exS]; congr 1; funext x s; rw [← putV_if]; split <;> rfl
theorem s_unp (ts : List Tg) : exS N G cl (.unp ts e) env s = (evE G cl e env s).bind fun x s1 => optN (bindTg (.t ts) x env) s1 := by
  simp only [exS]; congr 1
theorem s_par (is : List Nat) (es : List CE) : exS N G cl (.par is es) env s = (evEs G cl es env s).bind fun xs s1 => optN (asgAll is xs env) s1 := by
  simp only [exS]; congr 1
def setR (ce : Envd → Sto → R D) (env : Envd) (x : D) (s1 : Sto) (o : D) : R Fl := match o with
  | .obj n => (ce env s1).bind fun y s2 => match s2[n]?, y with
      | some (.lst a), .int j => match L2.ixN a.length j with
        | some p => if noClo x then .ok (.nx env) (s2.set n (.lst (a.set p x))) else .bad
        | none => .bad
      | _, _ => .bad
  | _ => .bad
theorem s_setIdx (i : Nat) (ix : CE) : exS N G cl (.setIdx i ix e) env s = (evE G cl e env s).bind fun x s1 => (getV env i s1).bind fun o _ => setR (evE G cl ix) env x s1 o := by
  simp only [exS]; congr 1; funext x s; rw [getV_get]
  split
  · rename_i n h
    rw [h]; rfl
  · rename_i h
    cases q : env[i]? with
    | none => rfl
    | some d => cases d <;> first | rfl | exact absurd q (h _)
theorem s_expr : exS N G cl (.expr e) env s = (evE G cl e env s).bind fun _ s1 => .ok (.nx env) s1 := by simp only [exS]
theorem s_iff : exS N G cl (.iff c t b) env s = (evE G cl c env s).bind fun x s1 => iteD x (exSs N G cl t env s1) (exSs N G cl b env s1) := by
  simp only [exS]; congr 1
/-- one turn of a for -/
def forB (N : Nat → Txt) (G : Nat → D) (cl : Call) (tg : Tg) (b : List CS) (d : D) (env : Envd) (s : Sto) : R Fl := withE (bindTg tg d env) fun env2 => exSs N G cl b env2 s
theorem s_forr (tg : Tg) (it : CI) : exS N G cl (.forr tg it b) env s = (evI G cl it env s).bind fun xs s1 => forL (forB N G cl tg b) xs env s1 := by
  simp only [exS]; congr 1
theorem s_whil : exS N G cl (.whil c b) env s = whileL (fun env1 s1 => evC G cl (some c) env1 s1) (exSs N G cl b) TURNS env s := by
  simp only [exS, evC]
theorem s_ret : exS N G cl (.ret e) env s = (evE G cl e env s).bind fun x s1 => .ok (.ret x) s1 := by simp only [exS]
theorem s_retN : exS N G cl .retN env s = .ok (.ret .non) s := by simp only [exS]
theorem s_pass : exS N G cl .pass env s = .ok (.nx env) s := by simp only [exS]
theorem s_cont : exS N G cl .cont env s = .ok (.ct env) s := by simp only [exS]
theorem s_brk : exS N G cl .brk env s = .ok (.bk env) s := by simp only [exS]
theorem s_raise (x : Nat) : exS N G cl (.raise x) env s = .err x s := by simp only [exS]
def tryR (f : Nat → D) (r : R Fl) : R Fl := match r with
  | .ok fl s1 => .ok fl s1
  | .err x s1 => if x = 18 then .bad else .ok (.ret (f x)) s1
  | .bad => .bad
theorem tryR_ok (f : Nat → D) (fl : Fl) (s : Sto) : tryR f (.ok fl s) = .ok fl s := rfl
theorem s_tryN : exS N G cl (.tryN b) env s = tryR (fun x => .str (N x)) (exSs N G cl b env s) := by
  simp only [exS, tryR]; all_goals (split <;> rename_i h <;> rw [h])
theorem s_tryT : exS N G cl (.tryT b) env s = tryR (fun x => .tup [.non, .str (N x)]) (exSs N G cl b env s) := by
  simp only [exS, tryR]; all_goals (split <;> rename_i h <;> rw [h])
theorem ss_nil : exSs N G cl [] env s = .ok (.nx env) s := by simp only [exSs]
/-- what follows a statement -/
def seqK (N : Nat → Txt) (G : Nat → D) (cl : Call) (cs : List CS) (fl : Fl) (s : Sto) : R Fl := match fl with
  | .nx env1 => exSs N G cl cs env1 s
  | o => .ok o s
theorem ss_cons (x : CS) : exSs N G cl (x :: b) env s = (exS N G cl x env s).bind (seqK N G cl b) := by
  simp only [exSs]; congr 1
theorem seqK_nx (cs : List CS) (e : Envd) : seqK N G cl cs (.nx e) s = exSs N G cl cs e s := rfl
theorem seqK_ret (cs : List CS) (d : D) : seqK N G cl cs (.ret d) s = .ok (.ret d) s := rfl
theorem seqK_bk (cs : List CS) (e : Envd) : seqK N G cl cs (.bk e) s = .ok (.bk e) s := rfl
theorem seqK_ct (cs : List CS) (e : Envd) : seqK N G cl cs (.ct e) s = .ok (.ct e) s := rfl
end
theorem endF_nx (e : Envd) (s : Sto) : endF (.ok (.nx e) s) = .ok .non s := rfl
theorem endF_ret (d : D) (s : Sto) : endF (.ok (.ret d) s) = ifB (noClo d) (.ok d s) .bad := by
  show (if noClo d then R.ok d s else .bad) = _
  cases noClo d <;> rfl
theorem endF_err (x : Nat) (s : Sto) : endF (.err x s) = .err x s := rfl
def forK (f : D → Envd → Sto → R Fl) (r : List D) (fl : Fl) (s1 : Sto) : R Fl := match fl with
    | .nx env1 => forL f r env1 s1
    | .ct env1 => forL f r env1 s1
    | .bk env1 => .ok (.nx env1) s1
    | .ret v => .ok (.ret v) s1
theorem forL_cons (f : D → Envd → Sto → R Fl) (d : D) (r : List D) (env : Envd) (s : Sto) : forL f (d :: r) env s = (f d env s).bind (forK f r) := by
  rw [forL]; congr 1
section
variable (f : D → Envd → Sto → R Fl) (r : List D) (s : Sto)
theorem forK_nx (e : Envd) : forK f r (.nx e) s = forL f r e s := rfl
theorem forK_ct (e : Envd) : forK f r (.ct e) s = forL f r e s := rfl
theorem forK_bk (e : Envd) : forK f r (.bk e) s = .ok (.nx e) s := rfl
theorem forK_ret (v : D) : forK f r (.ret v) s = .ok (.ret v) s := rfl
end
theorem forL_nil (f : D → Envd → Sto → R Fl) (env : Envd) (s : Sto) : forL f [] env s = .ok (.nx env) s := rfl
theorem fm_nil (f : D → Sto → R (Option D)) (s : Sto) : filterMapL f [] s = .ok [] s := rfl
def optC (o : Option D) (ds : List D) : List D := match o with
  | some x => x :: ds
  | none => ds
theorem optC_some (d : D) (ds : List D) : optC (some d) ds = d :: ds := rfl
theorem optC_none (ds : List D) : optC none ds = ds := rfl
theorem fm_cons (f : D → Sto → R (Option D)) (d : D) (r : List D) (s : Sto) : filterMapL f (d :: r) s = (f d s).bind fun o s1 => (filterMapL f r s1).bind fun ds s2 => .ok (optC o ds) s2 := rfl
section
variable (s : Sto)
theorem isD_tuple_non  : isD .tuple (.non) s = .ok (.bl false) s := rfl
theorem isD_tuple_bl (b : Bool) : isD .tuple (.bl b) s = .ok (.bl false) s := rfl
theorem isD_tuple_int (b : Int) : isD .tuple (.int b) s = .ok (.bl false) s := rfl
theorem isD_tuple_str (b : Txt) : isD .tuple (.str b) s = .ok (.bl false) s := rfl
theorem isD_tuple_tup (b : List D) : isD .tuple (.tup b) s = .ok (.bl true) s := rfl
theorem isD_tuple_lst (b : List D) : isD .tuple (.lst b) s = .ok (.bl false) s := rfl
theorem isD_str_non  : isD .str (.non) s = .ok (.bl false) s := rfl
theorem isD_str_bl (b : Bool) : isD .str (.bl b) s = .ok (.bl false) s := rfl
theorem isD_str_int (b : Int) : isD .str (.int b) s = .ok (.bl false) s := rfl
theorem isD_str_str (b : Txt) : isD .str (.str b) s = .ok (.bl true) s := rfl
theorem isD_str_tup (b : List D) : isD .str (.tup b) s = .ok (.bl false) s := rfl
theorem isD_str_lst (b : List D) : isD .str (.lst b) s = .ok (.bl false) s := rfl
theorem isD_int_non  : isD .int (.non) s = .ok (.bl false) s := rfl
theorem isD_int_bl (b : Bool) : isD .int (.bl b) s = .ok (.bl true) s := rfl
theorem isD_int_int (b : Int) : isD .int (.int b) s = .ok (.bl true) s := rfl
theorem isD_int_str (b : Txt) : isD .int (.str b) s = .ok (.bl false) s := rfl
theorem isD_int_tup (b : List D) : isD .int (.tup b) s = .ok (.bl false) s := rfl
theorem isD_int_lst (b : List D) : isD .int (.lst b) s = .ok (.bl false) s := rfl
theorem isD_bool_non  : isD .bool (.non) s = .ok (.bl false) s := rfl
theorem isD_bool_bl (b : Bool) : isD .bool (.bl b) s = .ok (.bl true) s := rfl
theorem isD_bool_int (b : Int) : isD .bool (.int b) s = .ok (.bl false) s := rfl
theorem isD_bool_str (b : Txt) : isD .bool (.str b) s = .ok (.bl false) s := rfl
theorem isD_bool_tup (b : List D) : isD .bool (.tup b) s = .ok (.bl false) s := rfl
theorem isD_bool_lst (b : List D) : isD .bool (.lst b) s = .ok (.bl false) s := rfl
theorem opB_Add (i j : Int) : opBin .Add (.int i) (.int j) s = .ok (.int (i + j)) s := rfl
theorem opB_Sub (i j : Int) : opBin .Sub (.int i) (.int j) s = .ok (.int (i - j)) s := rfl
theorem opB_BitAnd (i j : Int) : opBin .BitAnd (.int i) (.int j) s = .ok (.int (Builtin.bitAnd i j)) s := rfl
theorem opB_BitOr (i j : Int) : opBin .BitOr (.int i) (.int j) s = .ok (.int (Builtin.bitOr i j)) s := rfl
theorem opB_BitXor (i j : Int) : opBin .BitXor (.int i) (.int j) s = .ok (.int (Builtin.bitXor i j)) s := rfl
theorem opB_AddB (b : Bool) (j : Int) : opBin .Add (.bl b) (.int j) s = .ok (.int ((if b then 1 else 0) + j)) s := rfl
theorem opB_SubB (b : Bool) (j : Int) : opBin .Sub (.bl b) (.int j) s = .ok (.int ((if b then 1 else 0) - j)) s := rfl
theorem opB_AddS (a b : Txt) : opBin .Add (.str a) (.str b) s = if a.length + b.length ≤ LIM then .ok (.str (a ++ b)) s else .bad := rfl
theorem opB_AddL (a b : List D) : opBin .Add (.lst a) (.lst b) s = if a.length + b.length ≤ LIM then .ok (.lst (a ++ b)) s else .bad := rfl
theorem opB_AddT (a b : List D) : opBin .Add (.tup a) (.tup b) s = if a.length + b.length ≤ LIM then .ok (.tup (a ++ b)) s else .bad := rfl
def mulR (i j : Int) (s : Sto) : R D := if small i || small j then .ok (.int (i * j)) s else .bad
theorem opB_Mul (i j : Int) : opBin .Mult (.int i) (.int j) s = mulR i j s := rfl
def mulL (a : List D) (k : Int) (s : Sto) : R D := if decide (0 ≤ k) && (decide (k ≤ 1000) && decide (a.length ≤ 1000)) then .ok (.lst (List.replicate k.toNat a).flatten) s else .bad
theorem opB_MulL (a : List D) (j : Int) : opBin .Mult (.lst a) (.int j) s = mulL a j s := rfl
def mulT (a : List D) (k : Int) (s : Sto) : R D := if decide (2 ≤ k) && (decide (k ≤ 1000) && (decide (a.length ≤ 1000) && !a.isEmpty)) then .ok (.tup (List.replicate k.toNat a).flatten) s else .bad
theorem opB_MulT (a : List D) (j : Int) : opBin .Mult (.tup a) (.int j) s = mulT a j s := rfl
def fdivR (i j : Int) (s : Sto) : R D := if decide (0 < j) && decide (j < 1073741824) then .ok (.int (i / j)) s else .bad
theorem opB_FloorDiv (i j : Int) : opBin .FloorDiv (.int i) (.int j) s = fdivR i j s := rfl
def modR (i j : Int) (s : Sto) : R D := if decide (0 < j) then .ok (.int (i % j)) s else .bad
theorem opB_Mod (i j : Int) : opBin .Mod (.int i) (.int j) s = modR i j s := rfl
def powR (i j : Int) (s : Sto) : R D := if powOk i j then .ok (.int (i ^ j.toNat)) s else .bad
theorem opB_Pow (i j : Int) : opBin .Pow (.int i) (.int j) s = powR i j s := rfl
def shlR (i j : Int) (s : Sto) : R D := if powOk i j then .ok (.int (i * 2 ^ j.toNat)) s else .bad
theorem opB_LShift (i j : Int) : opBin .LShift (.int i) (.int j) s = shlR i j s := rfl
def shrR (i j : Int) (s : Sto) : R D := if decide (0 ≤ j) then .ok (.int (i / 2 ^ j.toNat)) s else .bad
theorem opB_RShift (i j : Int) : opBin .RShift (.int i) (.int j) s = shrR i j s := rfl
theorem opC_Lt (i j : Int) : opCmp .Lt (.int i) (.int j) s = .ok (.bl (decide (i < j))) s := rfl
theorem opC_LtE (i j : Int) : opCmp .LtE (.int i) (.int j) s = .ok (.bl (decide (i ≤ j))) s := rfl
theorem opC_Gt (i j : Int) : opCmp .Gt (.int i) (.int j) s = .ok (.bl (decide (j < i))) s := rfl
theorem opC_GtE (i j : Int) : opCmp .GtE (.int i) (.int j) s = .ok (.bl (decide (j ≤ i))) s := rfl
theorem opC_LtS (a b : Txt) : opCmp .Lt (.str a) (.str b) s = .ok (.bl (decide (a < b))) s := rfl
theorem opC_IsB (a b : Bool) : opCmp .Is (.bl a) (.bl b) s = .ok (.bl (decide (a = b))) s := rfl
theorem opC_IsNotB (a b : Bool) : opCmp .IsNot (.bl a) (.bl b) s = .ok (.bl (!decide (a = b))) s := rfl
theorem opC_IsN_non  : opCmp .Is (.non) .non s = .ok (.bl true) s := rfl
theorem opC_IsNotN_non  : opCmp .IsNot (.non) .non s = .ok (.bl false) s := rfl
theorem opC_IsN_bl (b : Bool) : opCmp .Is (.bl b) .non s = .ok (.bl false) s := rfl
theorem opC_IsNotN_bl (b : Bool) : opCmp .IsNot (.bl b) .non s = .ok (.bl true) s := rfl
theorem opC_IsN_int (b : Int) : opCmp .Is (.int b) .non s = .ok (.bl false) s := rfl
theorem opC_IsNotN_int (b : Int) : opCmp .IsNot (.int b) .non s = .ok (.bl true) s := rfl
theorem opC_IsN_str (b : Txt) : opCmp .Is (.str b) .non s = .ok (.bl false) s := rfl
theorem opC_IsNotN_str (b : Txt) : opCmp .IsNot (.str b) .non s = .ok (.bl true) s := rfl
theorem opC_IsN_tup (b : List D) : opCmp .Is (.tup b) .non s = .ok (.bl false) s := rfl
theorem opC_IsNotN_tup (b : List D) : opCmp .IsNot (.tup b) .non s = .ok (.bl true) s := rfl
theorem opC_IsN_lst (b : List D) : opCmp .Is (.lst b) .non s = .ok (.bl false) s := rfl
theorem opC_IsNotN_lst (b : List D) : opCmp .IsNot (.lst b) .non s = .ok (.bl true) s := rfl
theorem opC_EqS (a b : Txt) : opCmp .Eq (.str a) (.str b) s = .ok (.bl (decide (a = b))) s := rfl
theorem opC_NeS (a b : Txt) : opCmp .NotEq (.str a) (.str b) s = .ok (.bl (!decide (a = b))) s := rfl
theorem opC_EqI (a b : Int) : opCmp .Eq (.int a) (.int b) s = .ok (.bl (a == b)) s := rfl
theorem opC_NeI (a b : Int) : opCmp .NotEq (.int a) (.int b) s = .ok (.bl (!(a == b))) s := rfl
theorem opC_EqB (a b : Bool) : opCmp .Eq (.bl a) (.bl b) s = .ok (.bl (a == b)) s := rfl
theorem opC_NeB (a b : Bool) : opCmp .NotEq (.bl a) (.bl b) s = .ok (.bl (!(a == b))) s := rfl
def inR (x : D) (ys : List D) (s : Sto) (k : Bool → R D) : R D := if inOk x ys then k (ys.any fun z => eqD z x) else .bad
theorem opC_InL (x : D) (ys : List D) : opCmp .In x (.lst ys) s = inR x ys s fun b => .ok (.bl b) s := by
  cases x <;> first | rfl | (rename_i t; rcases t with _ | ⟨c, _ | ⟨d, t⟩⟩ <;> rfl)
theorem opC_NotInL (x : D) (ys : List D) : opCmp .NotIn x (.lst ys) s = inR x ys s fun b => .ok (.bl (!b)) s := by
  cases x <;> first | rfl | (rename_i t; rcases t with _ | ⟨c, _ | ⟨d, t⟩⟩ <;> rfl)
theorem opC_InT (x : D) (ys : List D) : opCmp .In x (.tup ys) s = inR x ys s fun b => .ok (.bl b) s := by
  cases x <;> first | rfl | (rename_i t; rcases t with _ | ⟨c, _ | ⟨d, t⟩⟩ <;> rfl)
theorem opC_NotInT (x : D) (ys : List D) : opCmp .NotIn x (.tup ys) s = inR x ys s fun b => .ok (.bl (!b)) s := by
  cases x <;> first | rfl | (rename_i t; rcases t with _ | ⟨c, _ | ⟨d, t⟩⟩ <;> rfl)
theorem opC_InS (c : Nat) (b : Txt) : opCmp .In (.str [c]) (.str b) s = .ok (.bl (decide (c ∈ b))) s := rfl
theorem opC_NotInS (c : Nat) (b : Txt) : opCmp .NotIn (.str [c]) (.str b) s = .ok (.bl (!decide (c ∈ b))) s := rfl
theorem opF_lenS (a : Txt) : opF1 .len (.str a) s = .ok (.int (a.length : Nat)) s := rfl
theorem opF_lenL (a : List D) : opF1 .len (.lst a) s = .ok (.int (a.length : Nat)) s := rfl
theorem opF_lenT (a : List D) : opF1 .len (.tup a) s = .ok (.int (a.length : Nat)) s := rfl
theorem opF_lenC (a : List Int) : opF1 .len (.scr a) s = .ok (.int (a.length : Nat)) s := rfl
def sumR (o : Option (List Int)) (s : Sto) : R D := match o with
  | some ns => .ok (.int ns.sum) s
  | none => .bad
def maxR (o : Option (List Int)) (s : Sto) : R D := match o with
  | some (n :: ns) => .ok (.int (maxL n ns)) s
  | _ => .bad
def allR (o : Option (List Bool)) (s : Sto) : R D := match o with
  | some ns => .ok (.bl (ns.all id)) s
  | none => .bad
def anyR (o : Option (List Bool)) (s : Sto) : R D := match o with
  | some ns => .ok (.bl (ns.any id)) s
  | none => .bad
def srtR (a : List D) (s : Sto) : R D := match ints? a with
    | some ns => .ok (.lst ((sortI ns).map D.int)) s
    | none => match strs? a with
      | some xs => .ok (.lst ((sortT xs).map D.str)) s
      | none => .bad
theorem opF_sum (a : List D) : opF1 .sum (.lst a) s = sumR (ints? a) s := rfl
theorem opF_max (a : List D) : opF1 .max (.lst a) s = maxR (ints? a) s := rfl
theorem opF_all (a : List D) : opF1 .all (.lst a) s = allR (bls? a) s := rfl
theorem opF_any (a : List D) : opF1 .any (.lst a) s = anyR (bls? a) s := rfl
theorem opF_abs (i : Int) : opF1 .abs (.int i) s = .ok (.int (if i < 0 then -i else i)) s := rfl
theorem opF_int (i : Int) : opF1 .int (.int i) s = .ok (.int i) s := rfl
theorem opF_intB (b : Bool) : opF1 .int (.bl b) s = .ok (.int (if b then 1 else 0)) s := rfl
theorem opF_listL (a : List D) : opF1 .list (.lst a) s = .ok (.lst a) s := rfl
theorem opF_listT (a : List D) : opF1 .list (.tup a) s = .ok (.lst a) s := rfl
theorem opF_listS (a : Txt) : opF1 .list (.str a) s = .ok (.lst (a.map fun c => .str [c])) s := rfl
theorem opF_tupL (a : List D) : opF1 .tuple (.lst a) s = .ok (.tup a) s := rfl
theorem opF_tupT (a : List D) : opF1 .tuple (.tup a) s = .ok (.tup a) s := rfl
theorem opF_sorted (a : List D) : opF1 .sorted (.lst a) s = srtR a s := rfl
theorem opF_max2 (i j : Int) : opF2 .max (.int i) (.int j) s = .ok (.int (if j > i then j else i)) s := rfl
theorem opF_min2 (i j : Int) : opF2 .min (.int i) (.int j) s = .ok (.int (if j < i then j else i)) s := rfl
def optR (o : Option D) (s : Sto) : R D := match o with
  | some d => .ok d s
  | none => .bad
theorem optR_some (d : D) : optR (some d) s = .ok d s := rfl
theorem opA_L (a : List D) (i : Int) : opAt (.lst a) (.int i) s = optR (L2.atI a i) s := by show (match L2.atI a i with | some d => R.ok d s | none => .bad) = _; unfold optR; cases L2.atI a i <;> rfl
theorem opA_T (a : List D) (i : Int) : opAt (.tup a) (.int i) s = optR (L2.atI a i) s := by show (match L2.atI a i with | some d => R.ok d s | none => .bad) = _; unfold optR; cases L2.atI a i <;> rfl
theorem opA_S (a : Txt) (i : Int) : opAt (.str a) (.int i) s = optR ((L2.atI a i).map fun c => D.str [c]) s := by show (match L2.atI a i with | some c => R.ok (D.str [c]) s | none => .bad) = _; unfold optR; cases L2.atI a i <;> rfl
theorem opA_C (a : List Int) (i : Int) : opAt (.scr a) (.int i) s = optR ((L2.atI a i).map D.int) s := by show (match L2.atI a i with | some c => R.ok (D.int c) s | none => .bad) = _; unfold optR; cases L2.atI a i <;> rfl
theorem opD_D (ks : List Txt) (vs : List D) (t : Txt) : opDg (.dic ks vs) (.str t) s = optR (lookK ks vs t) s := by show (match lookK ks vs t with | some d => R.ok d s | none => .bad) = _; unfold optR; cases lookK ks vs t <;> rfl
theorem opS_L (a : List D) (lo hi : Option Int) : opSl (.lst a) lo hi s = .ok (.lst (cutL a lo hi)) s := rfl
theorem opS_T (a : List D) (lo hi : Option Int) : opSl (.tup a) lo hi s = .ok (.tup (cutL a lo hi)) s := rfl
theorem opS_S (a : Txt) (lo hi : Option Int) : opSl (.str a) lo hi s = .ok (.str (cutL a lo hi)) s := rfl
def joinR (a : Txt) (o : Option (List Txt)) (s : Sto) : R D := match o with
    | some ts => if (ts.map (·.length)).sum + ts.length * a.length ≤ LIM then .ok (.str (TL.joinL a ts)) s else .bad
    | none => .bad
theorem opM_join (a : Txt) (ds : List D) : opM1 .join (.str a) (.lst ds) s = joinR a (strs? ds) s := rfl
def indexR (l : List Nat) (s : Sto) : R D := match l with
    | i :: _ => .ok (.int (i : Nat)) s
    | [] => .bad
theorem opM_index (a b : Txt) : opM1 .index (.str a) (.str b) s = indexR (Builtin.Str.occurrences (SX.S a) (SX.S b) 0 a.length 1) s := rfl
theorem its_non  : itsR (.non) s = .bad := rfl
theorem its_bl (b : Bool) : itsR (.bl b) s = .bad := rfl
theorem its_int (b : Int) : itsR (.int b) s = .bad := rfl
theorem its_tup (b : List D) : itsR (.tup b) s = .ok b s := rfl
theorem its_lst (b : List D) : itsR (.lst b) s = .ok b s := rfl
theorem its_scr (b : List Int) : itsR (.scr b) s = .bad := rfl
theorem its_fn (b : Nat) : itsR (.fn b) s = .bad := rfl
theorem its_str (b : Txt) : itsR (.str b) s = .ok (b.map fun c => .str [c]) s := rfl
theorem enu_lst (b : List D) : enumR (.lst b) s = .ok (enumL 0 b) s := rfl
theorem enu_str (b : Txt) : enumR (.str b) s = .ok (enumL 0 (b.map fun c => D.str [c])) s := rfl
theorem zip_lst_lst (x : List D) (y : List D) : zipR (.lst x) (.lst y) s = .ok (zipL x y) s := rfl
theorem zip3_lst_lst_lst (x : List D) (y : List D) (z : List D) : zip3R (.lst x) (.lst y) (.lst z) s = .ok (zipL3 x y z) s := rfl
theorem zip3_lst_lst_tup (x : List D) (y : List D) (z : List D) : zip3R (.lst x) (.lst y) (.tup z) s = .ok (zipL3 x y z) s := rfl
theorem zip3_lst_lst_str (x : List D) (y : List D) (z : Txt) : zip3R (.lst x) (.lst y) (.str z) s = .ok (zipL3 x y (z.map fun c => D.str [c])) s := rfl
theorem zip_lst_tup (x : List D) (y : List D) : zipR (.lst x) (.tup y) s = .ok (zipL x y) s := rfl
theorem zip3_lst_tup_lst (x : List D) (y : List D) (z : List D) : zip3R (.lst x) (.tup y) (.lst z) s = .ok (zipL3 x y z) s := rfl
theorem zip3_lst_tup_tup (x : List D) (y : List D) (z : List D) : zip3R (.lst x) (.tup y) (.tup z) s = .ok (zipL3 x y z) s := rfl
theorem zip3_lst_tup_str (x : List D) (y : List D) (z : Txt) : zip3R (.lst x) (.tup y) (.str z) s = .ok (zipL3 x y (z.map fun c => D.str [c])) s := rfl
theorem zip_lst_str (x : List D) (y : Txt) : zipR (.lst x) (.str y) s = .ok (zipL x (y.map fun c => D.str [c])) s := rfl
theorem zip3_lst_str_lst (x : List D) (y : Txt) (z : List D) : zip3R (.lst x) (.str y) (.lst z) s = .ok (zipL3 x (y.map fun c => D.str [c]) z) s := rfl
theorem zip3_lst_str_tup (x : List D) (y : Txt) (z : List D) : zip3R (.lst x) (.str y) (.tup z) s = .ok (zipL3 x (y.map fun c => D.str [c]) z) s := rfl
theorem zip3_lst_str_str (x : List D) (y : Txt) (z : Txt) : zip3R (.lst x) (.str y) (.str z) s = .ok (zipL3 x (y.map fun c => D.str [c]) (z.map fun c => D.str [c])) s := rfl
theorem zip_tup_lst (x : List D) (y : List D) : zipR (.tup x) (.lst y) s = .ok (zipL x y) s := rfl
theorem zip3_tup_lst_lst (x : List D) (y : List D) (z : List D) : zip3R (.tup x) (.lst y) (.lst z) s = .ok (zipL3 x y z) s := rfl
theorem zip3_tup_lst_tup (x : List D) (y : List D) (z : List D) : zip3R (.tup x) (.lst y) (.tup z) s = .ok (zipL3 x y z) s := rfl
theorem zip3_tup_lst_str (x : List D) (y : List D) (z : Txt) : zip3R (.tup x) (.lst y) (.str z) s = .ok (zipL3 x y (z.map fun c => D.str [c])) s := rfl
theorem zip_tup_tup (x : List D) (y : List D) : zipR (.tup x) (.tup y) s = .ok (zipL x y) s := rfl
theorem zip3_tup_tup_lst (x : List D) (y : List D) (z : List D) : zip3R (.tup x) (.tup y) (.lst z) s = .ok (zipL3 x y z) s := rfl
theorem zip3_tup_tup_tup (x : List D) (y : List D) (z : List D) : zip3R (.tup x) (.tup y) (.tup z) s = .ok (zipL3 x y z) s := rfl
theorem zip3_tup_tup_str (x : List D) (y : List D) (z : Txt) : zip3R (.tup x) (.tup y) (.str z) s = .ok (zipL3 x y (z.map fun c => D.str [c])) s := rfl
theorem zip_tup_str (x : List D) (y : Txt) : zipR (.tup x) (.str y) s = .ok (zipL x (y.map fun c => D.str [c])) s := rfl
theorem zip3_tup_str_lst (x : List D) (y : Txt) (z : List D) : zip3R (.tup x) (.str y) (.lst z) s = .ok (zipL3 x (y.map fun c => D.str [c]) z) s := rfl
theorem zip3_tup_str_tup (x : List D) (y : Txt) (z : List D) : zip3R (.tup x) (.str y) (.tup z) s = .ok (zipL3 x (y.map fun c => D.str [c]) z) s := rfl
theorem zip3_tup_str_str (x : List D) (y : Txt) (z : Txt) : zip3R (.tup x) (.str y) (.str z) s = .ok (zipL3 x (y.map fun c => D.str [c]) (z.map fun c => D.str [c])) s := rfl
theorem zip_str_lst (x : Txt) (y : List D) : zipR (.str x) (.lst y) s = .ok (zipL (x.map fun c => D.str [c]) y) s := rfl
theorem zip3_str_lst_lst (x : Txt) (y : List D) (z : List D) : zip3R (.str x) (.lst y) (.lst z) s = .ok (zipL3 (x.map fun c => D.str [c]) y z) s := rfl
theorem zip3_str_lst_tup (x : Txt) (y : List D) (z : List D) : zip3R (.str x) (.lst y) (.tup z) s = .ok (zipL3 (x.map fun c => D.str [c]) y z) s := rfl
theorem zip3_str_lst_str (x : Txt) (y : List D) (z : Txt) : zip3R (.str x) (.lst y) (.str z) s = .ok (zipL3 (x.map fun c => D.str [c]) y (z.map fun c => D.str [c])) s := rfl
theorem zip_str_tup (x : Txt) (y : List D) : zipR (.str x) (.tup y) s = .ok (zipL (x.map fun c => D.str [c]) y) s := rfl
theorem zip3_str_tup_lst (x : Txt) (y : List D) (z : List D) : zip3R (.str x) (.tup y) (.lst z) s = .ok (zipL3 (x.map fun c => D.str [c]) y z) s := rfl
theorem zip3_str_tup_tup (x : Txt) (y : List D) (z : List D) : zip3R (.str x) (.tup y) (.tup z) s = .ok (zipL3 (x.map fun c => D.str [c]) y z) s := rfl
theorem zip3_str_tup_str (x : Txt) (y : List D) (z : Txt) : zip3R (.str x) (.tup y) (.str z) s = .ok (zipL3 (x.map fun c => D.str [c]) y (z.map fun c => D.str [c])) s := rfl
theorem zip_str_str (x : Txt) (y : Txt) : zipR (.str x) (.str y) s = .ok (zipL (x.map fun c => D.str [c]) (y.map fun c => D.str [c])) s := rfl
theorem zip3_str_str_lst (x : Txt) (y : Txt) (z : List D) : zip3R (.str x) (.str y) (.lst z) s = .ok (zipL3 (x.map fun c => D.str [c]) (y.map fun c => D.str [c]) z) s := rfl
theorem zip3_str_str_tup (x : Txt) (y : Txt) (z : List D) : zip3R (.str x) (.str y) (.tup z) s = .ok (zipL3 (x.map fun c => D.str [c]) (y.map fun c => D.str [c]) z) s := rfl
theorem zip3_str_str_str (x : Txt) (y : Txt) (z : Txt) : zip3R (.str x) (.str y) (.str z) s = .ok (zipL3 (x.map fun c => D.str [c]) (y.map fun c => D.str [c]) (z.map fun c => D.str [c])) s := rfl
theorem rng1_int (j : Int) : rng1R (.int j) s = if okRng j then .ok (rngL 0 j.toNat) s else .bad := rfl
theorem rng2_int (i j : Int) : rng2R (.int i) (.int j) s = if okRng i && okRng j then .ok (rngL i (j - i).toNat) s else .bad := rfl
theorem intO_int (j : Int) : intO (.int j) s = .ok (some j) s := rfl
theorem blC_bl (j : Bool) : blC (.bl j) s = .ok j s := rfl
theorem notD_bl (j : Bool) : notD (.bl j) s = .ok (.bl (!j)) s := rfl
theorem negD_int (j : Int) : negD (.int j) s = .ok (.int (-j)) s := rfl
theorem optN_some (e : Envd) : optN (some e) s = .ok (.nx e) s := rfl
theorem isStr_str (a : Txt) : isStr (.str a) = true := rfl
end
section
variable {s : Sto} {n : Nat} {xs : List D}
theorem opF_obj (h : s[n]? = some (.lst xs)) (f : F1) : opF1 f (.obj n) s = opF1 f (.lst xs) s := by
  unfold opF1
  simp only [deref, h]
theorem opA_obj (h : s[n]? = some (.lst xs)) (i : D) : opAt (.obj n) i s = opAt (.lst xs) i s := by
  unfold opAt
  simp only [deref, h]
theorem opC_EqO (h : s[n]? = some (.lst xs)) (y : D) : opCmp .Eq (.obj n) y s = opCmp .Eq (.lst xs) y s := by
  have e : deref s (.obj n) = deref s (.lst xs) := by simp only [deref, h]
  simp only [opCmp]
  rw [e]
theorem opC_NeO (h : s[n]? = some (.lst xs)) (y : D) : opCmp .NotEq (.obj n) y s = opCmp .NotEq (.lst xs) y s := by
  have e : deref s (.obj n) = deref s (.lst xs) := by simp only [deref, h]
  simp only [opCmp]
  rw [e]
end
mutual
theorem deref_plain (s : Sto) : ∀ {d : D}, plain d = true → deref s d = d
  | .non, _ => rfl
  | .bl _, _ => rfl
  | .int _, _ => rfl
  | .str _, _ => rfl
  | .tup _, _ => rfl
  | .lst _, _ => rfl
  | .unset, h => rfl
  | .dic _ _, h => rfl
  | .scr _, h => rfl
  | .fn _, h => rfl
  | .clo _ _, h => rfl
  | .obj _, h => by simp [plain] at h
end
theorem opC_EqP {x y : D} (hx : plain x = true) (hy : plain y = true) (hd : min (dep x) (dep y) ≤ 63) (s : Sto) : opCmp .Eq x y s = .ok (.bl (eqD x y)) s := by
  simp only [opCmp, deref_plain s hx, deref_plain s hy, eqOk, hx, hy, Bool.true_and, decide_eq_true hd, if_true]
theorem opC_NeP {x y : D} (hx : plain x = true) (hy : plain y = true) (hd : min (dep x) (dep y) ≤ 63) (s : Sto) : opCmp .NotEq x y s = .ok (.bl (!eqD x y)) s := by
  simp only [opCmp, deref_plain s hx, deref_plain s hy, eqOk, hx, hy, Bool.true_and, decide_eq_true hd, if_true]
theorem inR_ok {x : D} {ys : List D} (hx : plain x = true) (hy : plains ys = true) (hd : dep x ≤ 63) (s : Sto) (k : Bool → R D) : inR x ys s k = k (ys.any fun z => eqD z x) := by
  simp only [inR, inOk, hx, hy, Bool.true_and, decide_eq_true hd, if_true]
theorem plain_set {d : D} (h : plain d = true) : d ≠ .unset := by rintro rfl; cases h
theorem retD_plain {d : D} (h : plain d = true) (s : Sto) : retD d s = .ok d s := retD_ok (plain_set h) s
mutual
theorem plain_noClo : ∀ {d : D}, plain d = true → noClo d = true
  | .tup xs, h => by simp only [plain] at h; simp only [noClo]; exact plains_noClos h
  | .lst xs, h => by simp only [plain] at h; simp only [noClo]; exact plains_noClos h
  | .non, _ => rfl
  | .bl _, _ => rfl
  | .int _, _ => rfl
  | .str _, _ => rfl
theorem plains_noClos : ∀ {ds : List D}, plains ds = true → noClos ds = true
  | [], _ => rfl
  | d :: r, h => by
    simp only [plains, Bool.and_eq_true] at h
    simp only [noClos, Bool.and_eq_true]
    exact ⟨plain_noClo h.1, plains_noClos h.2⟩
end
theorem at_0 {α : Type} (x : α) (xs : List α) : L2.atI (x :: xs) 0 = some x := by
  simp [L2.atI, L2.ixN]
theorem at_1 {α : Type} (x y : α) (xs : List α) : L2.atI (x :: y :: xs) 1 = some y := by
  unfold L2.atI L2.ixN; rw [if_pos (by omega), if_pos (by simp only [List.length_cons]; omega)]; rfl
theorem at_2 {α : Type} (x y z : α) (xs : List α) : L2.atI (x :: y :: z :: xs) 2 = some z := by
  unfold L2.atI L2.ixN; rw [if_pos (by omega), if_pos (by simp only [List.length_cons]; omega)]; rfl
theorem at_3 {α : Type} (x y z w : α) (xs : List α) : L2.atI (x :: y :: z :: w :: xs) 3 = some w := by
  unfold L2.atI L2.ixN; rw [if_pos (by omega), if_pos (by simp only [List.length_cons]; omega)]; rfl
theorem at_nat {α : Type} (xs : List α) (i : Nat) : L2.atI xs (i : Int) = xs[i]? := by
  unfold L2.atI L2.ixN
  by_cases h : i < xs.length
  · simp [h]
  · rw [List.getElem?_eq_none (by omega)]; simp [h]
theorem cut_1 {α : Type} (x : α) (xs : List α) : cutL (x :: xs) (some 1) none = xs := by
  unfold cutL HT.sIx
  simp
theorem cut_1n {α : Type} : cutL ([] : List α) (some 1) none = [] := by
  unfold cutL HT.sIx
  simp
theorem cut_hd {α : Type} (x : α) (xs : List α) : cutL (x :: xs) none (some 1) = [x] := by
  unfold cutL HT.sIx
  simp
theorem cut_drop {α : Type} (xs : List α) (k : Nat) : cutL xs (some (k : Int)) none = xs.drop k := by
  unfold cutL HT.sIx
  have h0 : ¬ ((k : Int) < 0) := by omega
  simp only [h0, if_false, Int.toNat_natCast]
  by_cases h : k ≤ xs.length
  · rw [Nat.min_eq_left h, List.take_of_length_le (by simp)]
  · rw [Nat.min_eq_right (by omega), List.drop_of_length_le (Nat.le_refl _), List.drop_of_length_le (by omega), List.take_nil]
theorem cut_take {α : Type} (xs : List α) (k : Nat) : cutL xs none (some (k : Int)) = xs.take k := by
  unfold cutL HT.sIx
  have h0 : ¬ ((k : Int) < 0) := by omega
  simp only [h0, if_false, Int.toNat_natCast, List.drop_zero, Nat.sub_zero]
  by_cases h : k ≤ xs.length
  · rw [Nat.min_eq_left h]
  · rw [Nat.min_eq_right (by omega), List.take_of_length_le (Nat.le_refl _), List.take_of_length_le (by omega)]
theorem ints_nil : ints? [] = some [] := rfl
theorem ints_cons (i : Int) (r : List D) : ints? (.int i :: r) = (ints? r).map (i :: ·) := rfl
theorem bls_nil : bls? [] = some [] := rfl
theorem bls_cons (i : Bool) (r : List D) : bls? (.bl i :: r) = (bls? r).map (i :: ·) := rfl
theorem strs_nil : strs? [] = some [] := rfl
theorem strs_cons (i : Txt) (r : List D) : strs? (.str i :: r) = (strs? r).map (i :: ·) := rfl
theorem ints_map {α : Type} (f : α → Int) : ∀ xs : List α, ints? (xs.map fun x => .int (f x)) = some (xs.map f)
  | [] => rfl
  | x :: xs => by simp only [List.map_cons, ints?, ints_map f xs, Option.map_some]
theorem bls_map {α : Type} (f : α → Bool) : ∀ xs : List α, bls? (xs.map fun x => .bl (f x)) = some (xs.map f)
  | [] => rfl
  | x :: xs => by simp only [List.map_cons, bls?, bls_map f xs, Option.map_some]
theorem strs_map {α : Type} (f : α → Txt) : ∀ xs : List α, strs? (xs.map fun x => .str (f x)) = some (xs.map f)
  | [] => rfl
  | x :: xs => by simp only [List.map_cons, strs?, strs_map f xs, Option.map_some]
theorem strs_map' (xs : List Txt) : strs? (xs.map D.str) = some xs := by have := strs_map id xs; simpa using this
theorem ints_map' (xs : List Int) : ints? (xs.map D.int) = some xs := by have := ints_map id xs; simpa using this
theorem bls_map' (xs : List Bool) : bls? (xs.map D.bl) = some xs := by have := bls_map id xs; simpa using this
theorem sumR_some (ns : List Int) (s : Sto) : sumR (some ns) s = .ok (.int ns.sum) s := rfl
theorem maxR_some (n : Int) (ns : List Int) (s : Sto) : maxR (some (n :: ns)) s = .ok (.int (maxL n ns)) s := rfl
theorem allR_some (ns : List Bool) (s : Sto) : allR (some ns) s = .ok (.bl (ns.all id)) s := rfl
theorem anyR_some (ns : List Bool) (s : Sto) : anyR (some ns) s = .ok (.bl (ns.any id)) s := rfl
theorem joinR_some (a : Txt) (ts : List Txt) (s : Sto) : joinR a (some ts) s = if (ts.map (·.length)).sum + ts.length * a.length ≤ LIM then .ok (.str (TL.joinL a ts)) s else .bad := rfl
theorem mulR_l {i j : Int} (h : small i = true) (s : Sto) : mulR i j s = .ok (.int (i * j)) s := by simp only [mulR, h, Bool.true_or, if_true]
theorem mulR_r {i j : Int} (h : small j = true) (s : Sto) : mulR i j s = .ok (.int (i * j)) s := by simp only [mulR, h, Bool.or_true, if_true]
theorem fdivR_ok {i j : Int} (h : 0 < j) (h2 : j < 1073741824) (s : Sto) : fdivR i j s = .ok (.int (i / j)) s := by simp only [fdivR, decide_eq_true h, decide_eq_true h2, Bool.and_self, if_true]
theorem modR_ok {i j : Int} (h : 0 < j) (s : Sto) : modR i j s = .ok (.int (i % j)) s := by simp only [modR, decide_eq_true h, if_true]
theorem shrR_ok (i : Int) (j : Nat) (s : Sto) : shrR i (j : Int) s = .ok (.int (i / 2 ^ j)) s := by
  unfold shrR
  rw [decide_eq_true (by omega), if_pos rfl, Int.toNat_natCast]
theorem shlR_ok (i : Int) (j : Nat) (h : j ≤ 1000000) (hi : i.natAbs < 2 ^ 64) (s : Sto) : shlR i (j : Int) s = .ok (.int (i * 2 ^ j)) s := by
  unfold shlR powOk
  rw [decide_eq_true (show (0 : Int) ≤ j by omega), decide_eq_true (show (j : Int) ≤ 1000000 by omega), decide_eq_true hi]
  rfl
theorem fm_map {α : Type} (f : D → Sto → R (Option D)) (emb : α → D) (g : α → D) (s : Sto) : ∀ xs : List α, (∀ x ∈ xs, f (emb x) s = .ok (some (g x)) s) → filterMapL f (xs.map emb) s = .ok (xs.map g) s
  | [], _ => rfl
  | x :: xs, h => by
    rw [List.map_cons, fm_cons, h x List.mem_cons_self, bind_ok, fm_map f emb g s xs fun y m => h y (List.mem_cons_of_mem _ m), bind_ok]; rfl
theorem fm_filter {α : Type} (f : D → Sto → R (Option D)) (emb : α → D) (p : α → Bool) (g : α → D) (s : Sto) : ∀ xs : List α, (∀ x ∈ xs, f (emb x) s = .ok (if p x then some (g x) else none) s) → filterMapL f (xs.map emb) s = .ok ((xs.filter p).map g) s
  | [], _ => rfl
  | x :: xs, h => by
    rw [List.map_cons, fm_cons, h x List.mem_cons_self, bind_ok, fm_filter f emb p g s xs fun y m => h y (List.mem_cons_of_mem _ m), bind_ok, List.filter_cons]
    cases p x <;> rfl
/-- a comprehension whose turns may change the store -/
theorem fm_wp {f : D → Sto → R (Option D)} {I : Sto → Prop} {P : D → Option D → Prop} : ∀ {xs : List D} {s : Sto}, I s → (∀ x ∈ xs, ∀ s, I s → wp (f x s) fun o s' => I s' ∧ P x o) →
    wp (filterMapL f xs s) fun ys s' => I s' ∧ ∃ os : List (Option D), os.length = xs.length ∧ ys = os.filterMap id ∧ ∀ (i : Nat) (x : D) (o : Option D), xs[i]? = some x → os[i]? = some o → P x o
  | [], s, hI, _ => ⟨hI, [], rfl, rfl, fun i x o h => by simp at h⟩
  | x :: xs, s, hI, h => by
    rw [fm_cons, wp_bind]
    refine wp_mono (h x List.mem_cons_self s hI) fun o s1 ⟨h1, p⟩ => ?_
    rw [wp_bind]
    refine wp_mono (fm_wp h1 fun y m => h y (List.mem_cons_of_mem _ m)) fun ys s2 ⟨h2, os, e1, e2, e3⟩ => ⟨h2, o :: os, by simp [e1], ?_, fun i y q a b => ?_⟩
    · rw [e2]; cases o <;> rfl
    · cases i with
      | zero => simp at a b; subst a b; exact p
      | succ i => exact e3 i y q (by simpa using a) (by simpa using b)
/-- a for loop by what holds between its turns; no way out but the end -/
theorem forL_inv {f : D → Envd → Sto → R Fl} {I : Nat → Envd → Sto → Prop} {Q : Fl → Sto → Prop} {xs : List D} (h : ∀ (i : Nat) (x : D) (env : Envd) (s : Sto), xs[i]? = some x → I i env s → wp (f x env s) fun fl s' => (∃ e, (fl = .nx e ∨ fl = .ct e) ∧ I (i + 1) e s'))
    (hq : ∀ env s, I xs.length env s → Q (.nx env) s) : ∀ {env : Envd} {s : Sto}, I 0 env s → wp (forL f xs env s) Q := by
  have key : ∀ (ys : List D) (i : Nat) (env : Envd) (s : Sto), ys = xs.drop i → i ≤ xs.length → I i env s → wp (forL f ys env s) Q := by
    intro ys
    induction ys with
    | nil =>
      intro i env s e hi q
      have : i = xs.length := by
        have := congrArg List.length e
        simp at this; omega
      subst this
      exact hq env s q
    | cons y ys ih =>
      intro i env s e hi q
      have hlt : i < xs.length := by
        have := congrArg List.length e
        simp at this; omega
      rw [List.drop_eq_getElem_cons hlt] at e
      cases e
      show wp ((f xs[i] env s).bind _) Q
      rw [wp_bind]
      refine wp_mono (h i _ env s (List.getElem?_eq_getElem hlt) q) fun fl s' ⟨e, h1, h2⟩ => ?_
      rcases h1 with rfl | rfl
      · exact ih (i + 1) e s' rfl hlt h2
      · exact ih (i + 1) e s' rfl hlt h2
  intro env s q
  exact key xs 0 env s rfl (Nat.zero_le _) q
/-- a for loop that may hand back -/
theorem forL_ret {f : D → Envd → Sto → R Fl} {I : Nat → Envd → Sto → Prop} {P : D → Sto → Prop} {Q : Fl → Sto → Prop} {xs : List D} (h : ∀ (i : Nat) (x : D) (env : Envd) (s : Sto), xs[i]? = some x → I i env s → wp (f x env s) fun fl s' => match fl with
      | .nx e => I (i + 1) e s'
      | .ct e => I (i + 1) e s'
      | .bk e => Q (.nx e) s'
      | .ret d => P d s')
    (hq : ∀ env s, I xs.length env s → Q (.nx env) s) (hp : ∀ d s, P d s → Q (.ret d) s) : ∀ {env : Envd} {s : Sto}, I 0 env s → wp (forL f xs env s) Q := by
  have key : ∀ (ys : List D) (i : Nat) (env : Envd) (s : Sto), ys = xs.drop i → i ≤ xs.length → I i env s → wp (forL f ys env s) Q := by
    intro ys
    induction ys with
    | nil =>
      intro i env s e hi q
      have : i = xs.length := by
        have := congrArg List.length e
        simp at this; omega
      subst this
      exact hq env s q
    | cons y ys ih =>
      intro i env s e hi q
      have hlt : i < xs.length := by
        have := congrArg List.length e
        simp at this; omega
      rw [List.drop_eq_getElem_cons hlt] at e
      cases e
      show wp ((f xs[i] env s).bind _) Q
      rw [wp_bind]
      refine wp_mono (h i _ env s (List.getElem?_eq_getElem hlt) q) fun fl s' h1 => ?_
      cases fl with
      | nx e => exact ih (i + 1) e s' rfl hlt h1
      | ct e => exact ih (i + 1) e s' rfl hlt h1
      | bk e => exact h1
      | ret d => exact hp d s' h1
  intro env s q
  exact key xs 0 env s rfl (Nat.zero_le _) q
theorem noClos_map {α : Type} (f : α → D) (h : ∀ x, noClo (f x) = true) : ∀ xs : List α, noClos (xs.map f) = true
  | [] => rfl
  | x :: xs => by simp only [List.map_cons, noClos, h x, noClos_map f h xs, Bool.and_self]
theorem noClos_strs (xs : List Txt) : noClos (xs.map D.str) = true := noClos_map _ (fun _ => rfl) xs
theorem noClos_ints (xs : List Int) : noClos (xs.map D.int) = true := noClos_map _ (fun _ => rfl) xs
theorem noClos_bls (xs : List Bool) : noClos (xs.map D.bl) = true := noClos_map _ (fun _ => rfl) xs
theorem plains_map {α : Type} (f : α → D) (h : ∀ x, plain (f x) = true) : ∀ xs : List α, plains (xs.map f) = true
  | [] => rfl
  | x :: xs => by simp only [List.map_cons, plains, h x, plains_map f h xs, Bool.and_self]
theorem dcL_str {f : D → Sto → R (D × D)} {d : D} {k : Txt} {v : D} {s s1 : Sto} (h : f d s = .ok (.str k, v) s1) {ks : List Txt} (hk : ¬ (k ∈ ks ∨ LIM ≤ ks.length)) (r vs : List D) : dcL f (d :: r) ks vs s = dcL f r (ks ++ [k]) (vs ++ [v]) s1 := by
  simp only [dcL, h, R.bind]
  rw [if_neg hk]
theorem wp_endF {α : Type} (r : R α) (f : α → Sto → R Fl) (Q : D → Sto → Prop) : wp (endF (r.bind f)) Q = wp r fun a s => wp (endF (f a s)) Q := by cases r <;> rfl
end Fv.Fw
end

section
set_option Elab.async false
set_option linter.all false
set_option maxRecDepth 100000
set_option maxHeartbeats 4000000
set_option autoImplicit false
namespace Fv.Fw
open PySem
def B0 : List CS := [.ret (.and (.isin (.var 0) .str) (.and (.cmp .Eq (.f1 .len (.var 0)) (.int 1)) (.cmp .In (.var 0) (.glob 0))))]
abbrev F_is_letter : D := .fn 0
def B1 : List CS := [.iff (.not (.isin (.var 0) .tuple)) [.ret (.call 0 [.var 0])] [], .iff (.or (.cmp .Eq (.var 1) (.int 0)) (.or (.cmp .Lt (.f1 .len (.var 0)) (.int 2)) (.not (.isin (.idx (.var 0) (.int 0)) .str)))) [.ret (.bl false)] [], .asg 2 (.ite (.cmp .Eq (.idx (.var 0) (.int 0)) (.str [110, 111, 116])) (.cmp .Eq (.f1 .len (.var 0)) (.int 2)) (.and (.cmp .Eq (.f1 .len (.var 0)) (.int 3)) (.cmp .In (.idx (.var 0) (.int 0)) (.lst [.str [97, 110, 100], .str [111, 114]])))), .ret (.and (.var 2) (.f1 .all (.comp (.call 1 [.var 3, .bin .Sub (.var 1) (.int 1)]) (.v 3) [3] (.seq (.sl (.var 0) (some (.int 1)) none)) none)))]
abbrev F_is_shape : D := .fn 1
def B2 : List CS := [.ret (.ite (.isin (.var 0) .tuple) (.f1 .sum (.comp (.call 2 [.var 1]) (.v 1) [1] (.seq (.sl (.var 0) (some (.int 1)) none)) none)) (.int 1))]
abbrev F_leaves_of : D := .fn 2
def B3 : List CS := [.ret (.ite (.isin (.var 0) .tuple) (.bin .Add (.int 1) (.f1 .sum (.comp (.call 3 [.var 1]) (.v 1) [1] (.seq (.sl (.var 0) (some (.int 1)) none)) none))) (.int 0))]
abbrev F_tuples_of : D := .fn 3
def B4 : List CS := [.iff (.not (.isin (.var 0) .tuple)) [.ret (.int 0)] [], .ret (.bin .Add (.f1 .max (.comp (.call 4 [.var 1]) (.v 1) [1] (.seq (.sl (.var 0) (some (.int 1)) none)) none)) (.ite (.cmp .Eq (.idx (.var 0) (.int 0)) (.str [110, 111, 116])) (.int 0) (.int 1)))]
abbrev F_depth_of : D := .fn 4
def B5 : List CS := [.ret (.and (.call 1 [.var 0, .glob 2]) (.and (.cmp .LtE (.call 2 [.var 0]) (.glob 1)) (.cmp .LtE (.call 3 [.var 0]) (.glob 2))))]
abbrev F_is_good : D := .fn 5
def B6 : List CS := [.iff (.or (.not (.isin (.var 0) .str)) (.not (.f1 .all (.comp (.cmp .In (.var 3) (.glob 0)) (.v 3) [3] (.seq (.var 0)) none)))) [.ret (.bl false)] [], .ret (.f1 .all (.comp (.cmp .Lt (.var 1) (.var 2)) (.t [.v 1, .v 2]) [1, 2] (.zip (.var 0) (.sl (.var 0) (some (.int 1)) none)) none))]
abbrev F_are_inputs : D := .fn 6
def B7 : List CS := [.iff (.not (.call 5 [.var 0])) [.raise 1] []]
abbrev F_need_formula : D := .fn 7
def B8 : List CS := [.iff (.not (.call 6 [.var 0])) [.raise 2] []]
abbrev F_need_inputs : D := .fn 8
def B9 : List CS := [.ret (.m1 .join (.str []) (.comp (.var 2) (.t [.v 1, .v 2]) [1, 2] (.enum (.glob 0)) (some (.cmp .Eq (.bin .Mod (.bin .RShift (.var 0) (.var 1)) (.int 2)) (.int 1)))))]
abbrev F_lot_of : D := .fn 9
def B10 : List CS := [.ret (.f1 .sum (.comp (.bin .LShift (.int 1) (.m1 .index (.glob 0) (.var 1))) (.v 1) [1] (.seq (.var 0)) none))]
abbrev F_number_of : D := .fn 10
def B11 : List CS := [.ret (.f1 .sorted (.comp (.call 9 [.var 0]) (.v 0) [0] (.rng1 (.glob 3)) none))]
abbrev F_all_inputs : D := .fn 11
def B12 : List CS := [.ret (.f1 .sum (.comp (.bin .LShift (.int 1) (.var 1)) (.v 1) [1] (.rng1 (.glob 3)) (some (.cmp .In (.var 0) (.call 9 [.var 1])))))]
abbrev F_letter_table : D := .fn 12
def B13 : List CS := [.iff (.not (.isin (.var 0) .tuple)) [.ret (.dget (.var 1) (.var 0))] [], .asgC 2 (.comp (.call 13 [.var 3, .var 1]) (.v 3) [3] (.seq (.sl (.var 0) (some (.int 1)) none)) none), .iff (.cmp .Eq (.idx (.var 0) (.int 0)) (.str [110, 111, 116])) [.ret (.bin .BitXor (.glob 4) (.idx (.var 2) (.int 0)))] [], .ret (.ite (.cmp .Eq (.idx (.var 0) (.int 0)) (.str [97, 110, 100])) (.bin .BitAnd (.idx (.var 2) (.int 0)) (.idx (.var 2) (.int 1))) (.bin .BitOr (.idx (.var 2) (.int 0)) (.idx (.var 2) (.int 1))))]
abbrev F_table_by : D := .fn 13
def B14 : List CS := [.ret (.call 13 [.var 0, .dcomp (.var 1) (.call 12 [.var 1]) (.v 1) [1] (.seq (.glob 0))])]
abbrev F_table_of : D := .fn 14
def B15 : List CS := [.iff (.not (.isin (.var 0) .tuple)) [.ret (.cmp .In (.var 0) (.var 1))] [], .asgC 2 (.comp (.call 15 [.var 3, .var 1]) (.v 3) [3] (.seq (.sl (.var 0) (some (.int 1)) none)) none), .iff (.cmp .Eq (.idx (.var 0) (.int 0)) (.str [110, 111, 116])) [.ret (.not (.idx (.var 2) (.int 0)))] [], .ret (.ite (.cmp .Eq (.idx (.var 0) (.int 0)) (.str [97, 110, 100])) (.f1 .all (.var 2)) (.f1 .any (.var 2)))]
abbrev F_is_true : D := .fn 15
def B16 : List CS := [.asgC 1 (.comp (.var 2) (.v 2) [2] (.seq (.call 11 [])) (some (.cmp .Eq (.bin .Mod (.bin .RShift (.var 0) (.call 10 [.var 2])) (.int 2)) (.int 1)))), .ret (.ite (.cmp .NotEq (.var 1) (.lst [])) (.idx (.var 1) (.int 0)) (.non))]
abbrev F_first_of : D := .fn 16
def B17 : List CS := [.ret (.call 5 [.var 0])]
abbrev F_is_formula : D := .fn 17
def B18 : List CS := [.expr (.call 7 [.var 0]), .ret (.call 2 [.var 0])]
abbrev F_leaves : D := .fn 18
def B19 : List CS := [.expr (.call 7 [.var 0]), .ret (.call 4 [.var 0])]
abbrev F_depth : D := .fn 19
def B20 : List CS := [.expr (.call 7 [.var 0]), .expr (.call 8 [.var 1]), .ret (.call 15 [.var 0, .var 1])]
abbrev F_truth : D := .fn 20
def B21 : List CS := [.expr (.call 7 [.var 0]), .expr (.call 7 [.var 1]), .ret (.cmp .Eq (.call 14 [.var 0]) (.call 14 [.var 1]))]
abbrev F_alike : D := .fn 21
def B22 : List CS := [.expr (.call 7 [.var 0]), .expr (.call 7 [.var 1]), .ret (.call 16 [.bin .BitXor (.call 14 [.var 0]) (.call 14 [.var 1])])]
abbrev F_parting : D := .fn 22
def B23 : List CS := [.asg 2 (.bin .Add (.bin .Mult (.int 7919) (.var 1)) (.int 43)), .iff (.cmp .Lt (.var 1) (.f1 .len (.var 0))) [.asg 2 (.f1 .abs (.f1 .int (.idx (.var 0) (.var 1))))] [], .ret (.lstN [.ite (.cmp .GtE (.var 2) (.bin .Pow (.int 10) (.int 18))) (.var 2) (.int 0), .bin .Add (.bin .Mod (.f1 .int (.bin .Add (.bin .Add (.bin .Mult (.var 2) (.int 131071)) (.bin .Mult (.int 8191) (.var 1))) (.int 5))) (.int 2147483629)) (.int 1)])]
abbrev F_law_vat : D := .fn 23
def B24 : List CS := [.iff (.cmp .Gt (.idx (.var 0) (.int 0)) (.int 0)) [.asg 3 (.bin .Mod (.f1 .int (.idx (.var 0) (.int 0))) (.var 1)), .setIdx 0 (.int 0) (.bin .FloorDiv (.idx (.var 0) (.int 0)) (.var 1)), .ret (.var 3)] [], .setIdx 0 (.int 1) (.bin .Mod (.f1 .int (.bin .Add (.bin .Mult (.idx (.var 0) (.int 1)) (.int 39373)) (.int 101))) (.int 2147483629)), .asg 2 (.bin .Mod (.f1 .int (.bin .Mult (.idx (.var 0) (.int 1)) (.bin .Add (.bin .FloorDiv (.idx (.var 0) (.int 1)) (.int 5)) (.int 9)))) (.int 2147483587)), .ret (.bin .Mod (.f1 .int (.bin .FloorDiv (.var 2) (.int 32))) (.var 1))]
abbrev F_law_under : D := .fn 24
def B25 : List CS := [.ret (.idx (.var 1) (.call 24 [.var 0, .f1 .len (.var 1)]))]
abbrev F_law_some : D := .fn 25
def B26 : List CS := [.ret (.and (.isin (.var 0) .bool) (.cmp .Eq (.var 0) (.var 1)))]
abbrev F_law_truly : D := .fn 26
def B27 : List CS := [.ret (.and (.isin (.var 0) .str) (.cmp .In (.var 0) (.f1 .list (.str [97, 98, 99, 100, 101, 102]))))]
abbrev F_law_is_letter : D := .fn 27
def B28 : List CS := [.iff (.not (.isin (.var 0) .tuple)) [.ret (.call 27 [.var 0])] [], .iff (.or (.cmp .Lt (.f1 .len (.var 0)) (.int 2)) (.not (.isin (.idx (.var 0) (.int 0)) .str))) [.ret (.bl false)] [], .iff (.not (.or (.and (.cmp .Eq (.idx (.var 0) (.int 0)) (.str [110, 111, 116])) (.cmp .Eq (.f1 .len (.var 0)) (.int 2))) (.and (.cmp .In (.idx (.var 0) (.int 0)) (.lst [.str [97, 110, 100], .str [111, 114]])) (.cmp .Eq (.f1 .len (.var 0)) (.int 3))))) [.ret (.bl false)] [], .ret (.cmp .Eq (.comp (.var 1) (.v 1) [1] (.seq (.sl (.var 0) (some (.int 1)) none)) (some (.not (.call 28 [.var 1])))) (.lst []))]
abbrev F_law_shaped : D := .fn 28
def B29 : List CS := [.iff (.not (.isin (.var 0) .tuple)) [.ret (.lst [.var 0])] [], .asg 1 (.lst []), .forr (.v 2) (.seq (.sl (.var 0) (some (.int 1)) none)) [.asg 1 (.bin .Add (.var 1) (.call 29 [.var 2]))], .ret (.var 1)]
abbrev F_law_letters : D := .fn 29
def B30 : List CS := [.ret (.ite (.isin (.var 0) .tuple) (.bin .Add (.int 1) (.f1 .sum (.comp (.call 30 [.var 1]) (.v 1) [1] (.seq (.sl (.var 0) (some (.int 1)) none)) none))) (.int 0))]
abbrev F_law_tuples : D := .fn 30
def B31 : List CS := [.iff (.not (.isin (.var 0) .tuple)) [.ret (.int 0)] [], .ret (.bin .Add (.f1 .max (.comp (.call 31 [.var 1]) (.v 1) [1] (.seq (.sl (.var 0) (some (.int 1)) none)) none)) (.f1 .int (.cmp .NotEq (.idx (.var 0) (.int 0)) (.str [110, 111, 116]))))]
abbrev F_law_depth : D := .fn 31
def B32 : List CS := [.ret (.and (.call 28 [.var 0]) (.and (.cmp .LtE (.f1 .len (.call 29 [.var 0])) (.int 40)) (.cmp .LtE (.call 30 [.var 0]) (.int 60))))]
abbrev F_law_is_formula : D := .fn 32
def B33 : List CS := [.iff (.not (.isin (.var 0) .tuple)) [.ret (.cmp .In (.var 0) (.f1 .list (.var 1)))] [], .asg 2 (.call 33 [.idx (.var 0) (.int 1), .var 1]), .iff (.cmp .Eq (.idx (.var 0) (.int 0)) (.str [110, 111, 116])) [.ret (.not (.var 2))] [], .asg 3 (.call 33 [.idx (.var 0) (.int 2), .var 1]), .ret (.ite (.cmp .Eq (.idx (.var 0) (.int 0)) (.str [97, 110, 100])) (.and (.var 2) (.var 3)) (.or (.var 2) (.var 3)))]
abbrev F_law_truth : D := .fn 33
def B34 : List CS := [.asg 0 (.lst [.str []]), .forr (.v 1) (.seq (.str [97, 98, 99, 100, 101, 102])) [.asg 0 (.bin .Add (.var 0) (.comp (.bin .Add (.var 2) (.var 1)) (.v 2) [2] (.seq (.var 0)) none))], .ret (.f1 .sorted (.var 0))]
abbrev F_law_inputs : D := .fn 34
def B35 : List CS := [.ret (.comp (.call 33 [.var 0, .var 1]) (.v 1) [1] (.seq (.call 34 [])) none)]
abbrev F_law_column : D := .fn 35
def B36 : List CS := [.iff (.cmp .Eq (.var 1) (.int 1)) [.asg 2 (.call 25 [.var 0, .lst [.str [97], .str [98], .str [99], .str [100], .str [101], .str [102], .str [97], .str [98], .str [99]]])] [.asg 3 (.call 25 [.var 0, .lst [.int 1, .int 1, .bin .Sub (.var 1) (.int 1), .bin .Add (.int 1) (.call 24 [.var 0, .bin .Sub (.var 1) (.int 1)])]]), .asg 2 (.tup [.call 25 [.var 0, .lst [.str [97, 110, 100], .str [111, 114]]], .call 36 [.var 0, .var 3], .call 36 [.var 0, .bin .Sub (.var 1) (.var 3)]])], .ret (.ite (.cmp .Eq (.call 24 [.var 0, .int 5]) (.int 0)) (.tup [.str [110, 111, 116], .var 2]) (.var 2))]
abbrev F_law_tree : D := .fn 36
def B37 : List CS := [.forr (.v 2) (.rng1 (.int 4)) [.asg 3 (.call 36 [.var 0, .bin .Add (.int 1) (.call 24 [.var 0, .var 1])]), .iff (.and (.call 32 [.var 3]) (.cmp .Lt (.call 30 [.var 3]) (.int 53))) [.ret (.var 3)] []], .ret (.tup [.str [111, 114], .tup [.str [97, 110, 100], .str [97], .str [98]], .str [99]])]
abbrev F_law_formula : D := .fn 37
def B38 : List CS := [.iff (.and (.isin (.var 1) .tuple) (.and (.cmp .NotEq (.var 1) (.tup [])) (.cmp .Gt (.call 24 [.var 0, .int 4]) (.int 0)))) [.asg 3 (.call 24 [.var 0, .f1 .len (.var 1)]), .ret (.bin .Add (.bin .Add (.sl (.var 1) none (some (.var 3))) (.tup [.call 38 [.var 0, .idx (.var 1) (.var 3)]])) (.sl (.var 1) (some (.bin .Add (.var 3) (.int 1))) none))] [], .asg 2 (.call 24 [.var 0, .int 6]), .iff (.isin (.var 1) .tuple) [.ret (.idx (.lst [.f1 .list (.var 1), .sl (.var 1) (some (.int 1)) none, .bin .Add (.var 1) (.sl (.var 1) (some (.neg (.int 1))) none), .sl (.var 1) none (some (.neg (.int 1))), .non, .tup [.str [110, 111, 116], .var 1]]) (.var 2))] [], .iff (.isin (.var 1) .str) [.ret (.idx (.lst [.str [97], .str [103], .str [97, 110, 100], .str [], .int 3, .str [110, 111, 116]]) (.var 2))] [], .iff (.isin (.var 1) .int) [.ret (.idx (.lst [.bin .Add (.var 1) (.int 1), .bin .Sub (.var 1) (.int 1), .int 4, .bl true, .non, .str [97]]) (.var 2))] [], .ret (.non)]
abbrev F_law_spoilt : D := .fn 38
def B40 : List CS := [.tryN [.expr (.callV 0 [])], .ret (.str [])]
abbrev F_law_error : D := .fn 40
def B41 : List CS := [.ret (.cmp .Eq (.comp (.var 3) (.v 3) [3] (.seq (.var 1)) (some (.cmp .NotEq (.callL 40 0 []) (.var 2)))) (.lst []))]
abbrev F_law_all_refused : D := .fn 41
def B42 : List CS := [.unp [.v 0, .v 1] (.tup [.tup [.str [111, 114], .tup [.str [97, 110, 100], .str [97], .str [98]], .str [99]], .tup [.str [97, 110, 100], .tup [.str [111, 114], .str [97], .str [99]], .tup [.str [111, 114], .str [98], .str [99]]]]), .ret (.lst [.var 0, .var 1, .tup [.str [97, 110, 100], .str [97], .tup [.str [111, 114], .str [98], .tup [.str [97, 110, 100], .str [99], .tup [.str [111, 114], .str [100], .tup [.str [110, 111, 116], .str [101]]]]]]])]
abbrev F_law_known : D := .fn 42
def B43 : List CS := [.asg 1 (.str [97]), .forr (.v 2) (.rng2 (.int 1) (.var 0)) [.asg 1 (.tup [.ite (.cmp .Eq (.bin .Mod (.var 2) (.int 2)) (.int 1)) (.str [97, 110, 100]) (.str [111, 114]), .idx (.str [97, 98, 99, 100, 101, 102]) (.bin .Mod (.var 2) (.int 6)), .var 1])], .ret (.var 1)]
abbrev F_law_chain : D := .fn 43
def B44 : List CS := [.asg 0 (.lst [.non, .str [], .str [103], .str [65], .str [97, 98], .tup [], .tup [.str [110, 111, 116]], .tup [.str [110, 111, 116], .str [97], .str [98]], .tup [.str [97, 110, 100], .str [97]], .tup [.str [111, 114], .str [97], .str [98], .str [99]], .lst [.str [110, 111, 116], .str [97]], .tup [.str [120, 111, 114], .str [97], .str [98]]]), .asg 0 (.bin .Add (.var 0) (.lst [.tup [.str [97, 110, 100], .str [97], .bl true], .tup [.str [97, 110, 100], .str [97], .non], .tup [.tup [.str [97, 110, 100]], .str [97], .str [98]], .int 1, .bl true, .tup [.str [97], .str [97, 110, 100], .str [98]], .tup [.str [97, 110, 100], .str [97], .str [103]], .call 43 [.int 41]])), .asg 1 (.str [97]), .forr (.v 2) (.rng1 (.int 58)) [.asg 1 (.tup [.str [110, 111, 116], .var 1])], .ret (.bin .Add (.var 0) (.lst [.tup [.str [97, 110, 100], .var 1, .tup [.str [97, 110, 100], .str [97], .tup [.str [110, 111, 116], .str [98]]]]]))]
abbrev F_law_bad_formulas : D := .fn 44
def B45 : List CS := [.ret (.lst [.non, .str [103], .str [98, 97], .str [97, 97], .lst [.str [97]], .int 0, .str [97, 32, 98], .str [65], .tup [.str [97]]])]
abbrev F_law_bad_inputs : D := .fn 45
def B46 : List CS := [.forr (.v 1) (.rng1 (.f2 .max (.int 5) (.f2 .min (.int 11) (.f1 .len (.var 0))))) [.asg 2 (.call 23 [.var 0, .var 1]), .forr (.v 3) (.rng1 (.int 3)) [.asg 8 (.call 37 [.var 2, .call 25 [.var 2, .lst [.int 5, .int 12, .int 40]]]), .asg 9 (.var 8), .forr (.v 10) (.rng1 (.int 8)) [.iff (.not (.call 26 [.call 17 [.var 9], .call 32 [.var 9]])) [.ret (.bl false)] [], .asg 9 (.call 38 [.var 2, .ite (.cmp .Eq (.bin .Mod (.var 10) (.int 2)) (.int 0)) (.var 8) (.var 9)])], .iff (.or (.cmp .NotEq (.call 18 [.var 8]) (.f1 .len (.call 29 [.var 8]))) (.cmp .NotEq (.call 19 [.var 8]) (.call 31 [.var 8]))) [.ret (.bl false)] [], .asg 11 (.call 25 [.var 2, .call 34 []]), .iff (.not (.call 26 [.call 20 [.var 8, .var 11], .call 33 [.var 8, .var 11]])) [.ret (.bl false)] [], .asg 12 (.call 25 [.var 2, .lst [.ite (.cmp .Lt (.call 30 [.var 8]) (.int 59)) (.tup [.str [110, 111, 116], .tup [.str [110, 111, 116], .var 8]]) (.var 8), .call 37 [.var 2, .int 6], .call 37 [.var 2, .int 20]]]), .par [14, 15] [.call 35 [.var 8], .call 35 [.var 12]], .asgC 13 (.comp (.var 11) (.t [.v 11, .v 17, .v 18]) [11, 17, 18] (.zip3 (.call 34 []) (.var 14) (.var 15)) (some (.cmp .NotEq (.var 17) (.var 18)))), .iff (.or (.not (.call 26 [.call 21 [.var 8, .var 12], .cmp .Eq (.var 13) (.lst [])])) (.cmp .NotEq (.call 22 [.var 8, .var 12]) (.ite (.cmp .NotEq (.var 13) (.lst [])) (.idx (.var 13) (.int 0)) (.non)))) [.ret (.bl false)] []], .forr (.v 4) (.seq (.tup [.fnv 18, .fnv 19])) [.iff (.not (.call 41 [.var 4, .call 44 [], .str [102, 111, 114, 109, 117, 108, 97, 32, 118, 97, 108, 117, 101]])) [.ret (.bl false)] []], .forr (.v 4) (.seq (.tup [.fnv 20, .fnv 21, .fnv 22])) [.iff (.not (.callL 41 1 [.call 44 [], .str [102, 111, 114, 109, 117, 108, 97, 32, 118, 97, 108, 117, 101]])) [.ret (.bl false)] []], .forr (.v 4) (.seq (.tup [.fnv 21, .fnv 22])) [.iff (.not (.callL 41 2 [.call 44 [], .str [102, 111, 114, 109, 117, 108, 97, 32, 118, 97, 108, 117, 101]])) [.ret (.bl false)] []], .iff (.not (.callL 41 3 [.call 45 [], .str [105, 110, 112, 117, 116, 115, 32, 118, 97, 108, 117, 101]])) [.ret (.bl false)] []], .unp [.v 5, .v 6, .v 7] (.call 42 []), .iff (.cmp .NotEq (.comp (.var 9) (.v 9) [9] (.seq (.call 44 [])) (some (.cmp .IsNot (.call 17 [.var 9]) (.bl false)))) (.lst [])) [.ret (.bl false)] [], .iff (.cmp .NotEq (.comp (.var 9) (.v 9) [9] (.seq (.tup [.var 5, .var 6, .var 7, .str [97], .tup [.str [110, 111, 116], .str [102]], .call 43 [.int 40]])) (some (.cmp .IsNot (.call 17 [.var 9]) (.bl true)))) (.lst [])) [.ret (.bl false)] [], .iff (.cmp .NotEq (.lst [.call 18 [.var 7], .call 19 [.var 5], .call 19 [.var 7], .call 19 [.tup [.str [110, 111, 116], .str [97]]], .call 18 [.call 43 [.int 40]], .call 19 [.call 43 [.int 40]]]) (.lst [.int 5, .int 2, .int 4, .int 0, .int 40, .int 39])) [.ret (.bl false)] [], .iff (.cmp .NotEq (.lst [.call 20 [.var 5, .str [99]], .call 20 [.var 5, .str [97]], .call 20 [.var 7, .str [97, 98]], .call 20 [.tup [.str [110, 111, 116], .str [97]], .str []]]) (.lst [.bl true, .bl false, .bl true, .bl true])) [.ret (.bl false)] [], .iff (.cmp .NotEq (.lst [.call 21 [.var 5, .var 6], .call 21 [.var 5, .str [99]]]) (.lst [.bl true, .bl false])) [.ret (.bl false)] [], .ret (.cmp .Eq (.lst [.call 22 [.var 5, .str [99]], .call 22 [.var 5, .var 6], .call 22 [.str [97], .tup [.str [110, 111, 116], .str [97]]], .call 22 [.var 7, .str [97]]]) (.lst [.str [97, 98], .non, .str [], .str [97]]))]
abbrev F_law : D := .fn 46
def L0 : LamC := ⟨[], .callV 0 [.var 3]⟩
def L1 : LamC := ⟨[16], .callV 4 [.var 16, .non]⟩
def L2 : LamC := ⟨[16], .callV 4 [.var 8, .var 16]⟩
def L3 : LamC := ⟨[16], .call 20 [.var 8, .var 16]⟩
def GT : Nat → D
  | 0 => .str [97, 98, 99, 100, 101, 102]
  | 1 => .int 40
  | 2 => .int 60
  | 3 => .int 64
  | 4 => .int 18446744073709551615
  | _ => .non
def NT : Nat → Txt
  | 0 => [118, 97, 108, 117, 101]
  | 1 => [102, 111, 114, 109, 117, 108, 97, 32, 118, 97, 108, 117, 101]
  | 2 => [105, 110, 112, 117, 116, 115, 32, 118, 97, 108, 117, 101]
  | 3 => [110, 117, 109, 98, 101, 114, 32, 118, 97, 108, 117, 101]
  | 4 => [112, 114, 111, 103, 114, 97, 109, 32, 118, 97, 108, 117, 101]
  | 5 => [115, 104, 117, 102, 102, 108, 101, 32, 118, 97, 108, 117, 101]
  | 6 => [115, 104, 117, 102, 102, 108, 101, 115, 32, 118, 97, 108, 117, 101]
  | 7 => [115, 117, 109, 115, 32, 118, 97, 108, 117, 101]
  | 8 => [110, 117, 109, 98, 101, 114, 115, 32, 118, 97, 108, 117, 101]
  | 9 => [115, 116, 101, 112, 115, 32, 118, 97, 108, 117, 101]
  | 10 => [114, 101, 103, 105, 115, 116, 101, 114, 115, 32, 118, 97, 108, 117, 101]
  | 11 => [108, 101, 116, 116, 101, 114, 32, 118, 97, 108, 117, 101]
  | 12 => [112, 108, 97, 99, 101, 32, 118, 97, 108, 117, 101]
  | 13 => [116, 101, 120, 116, 32, 118, 97, 108, 117, 101]
  | 14 => [100, 101, 101, 112, 32, 118, 97, 108, 117, 101]
  | 15 => [117, 110, 108, 105, 107, 101, 32, 118, 97, 108, 117, 101]
  | 16 => [101, 110, 100, 101, 100, 32, 118, 97, 108, 117, 101]
  | 17 => [117, 110, 100, 111, 32, 118, 97, 108, 117, 101]
  | 18 => [109, 97, 110, 121, 32, 118, 97, 108, 117, 101]
  | _ => [102, 111, 114, 109, 117, 108, 97, 32, 118, 97, 108, 117, 101]
def TT : Tab := ⟨GT, NT, [⟨1, 1, B0⟩, ⟨2, 4, B1⟩, ⟨1, 2, B2⟩, ⟨1, 2, B3⟩, ⟨1, 2, B4⟩, ⟨1, 1, B5⟩, ⟨1, 4, B6⟩, ⟨1, 1, B7⟩, ⟨1, 1, B8⟩, ⟨1, 3, B9⟩, ⟨1, 2, B10⟩, ⟨0, 1, B11⟩, ⟨1, 2, B12⟩, ⟨2, 4, B13⟩, ⟨1, 2, B14⟩, ⟨2, 4, B15⟩, ⟨1, 3, B16⟩, ⟨1, 1, B17⟩, ⟨1, 1, B18⟩, ⟨1, 1, B19⟩, ⟨2, 2, B20⟩, ⟨2, 2, B21⟩, ⟨2, 2, B22⟩, ⟨2, 3, B23⟩, ⟨2, 4, B24⟩, ⟨2, 2, B25⟩, ⟨2, 2, B26⟩, ⟨1, 1, B27⟩, ⟨1, 2, B28⟩, ⟨1, 3, B29⟩, ⟨1, 2, B30⟩, ⟨1, 2, B31⟩, ⟨1, 1, B32⟩, ⟨2, 4, B33⟩, ⟨0, 3, B34⟩, ⟨1, 2, B35⟩, ⟨2, 4, B36⟩, ⟨2, 4, B37⟩, ⟨2, 4, B38⟩, ⟨0, 0, []⟩, ⟨1, 2, B40⟩, ⟨3, 4, B41⟩, ⟨0, 2, B42⟩, ⟨1, 3, B43⟩, ⟨0, 3, B44⟩, ⟨0, 0, B45⟩, ⟨1, 19, B46⟩], [L0, L1, L2, L3]⟩
theorem callF_fn (T : Tab) (k f : Nat) (ds : List D) (s : Sto) (d : DefC) (h : T.defs[f]? = some d) (hl : ds.length = d.np) : callF T (k + 1) (.fn f) ds s = endF (exSs T.nms T.G (callF T k) d.body (startE d.nn ds) s) := by
  simp only [callF_f, h, hl, if_true]
theorem callT (k f : Nat) (ds env : List D) (s : Sto) (np nn : Nat) (b : List CS) (h : TT.defs[f]? = some ⟨np, nn, b⟩) (hl : ds.length = np) (he : startE nn ds = env) : callF TT (k + 1) (.fn f) ds s = endF (exSs NT GT (callF TT k) b env s) := by
  rw [callF_fn TT k f ds s _ h hl, he]; rfl
theorem c0 (k : Nat) (x0 : D) (s : Sto) : callF TT (k + 1) (.fn 0) [x0] s = endF (exSs NT GT (callF TT k) B0 [x0] s) := callT k 0 _ _ s 1 1 _ rfl rfl rfl
theorem c1 (k : Nat) (x0 x1 : D) (s : Sto) : callF TT (k + 1) (.fn 1) [x0, x1] s = endF (exSs NT GT (callF TT k) B1 [x0, x1, .unset, .unset] s) := callT k 1 _ _ s 2 4 _ rfl rfl rfl
theorem c2 (k : Nat) (x0 : D) (s : Sto) : callF TT (k + 1) (.fn 2) [x0] s = endF (exSs NT GT (callF TT k) B2 [x0, .unset] s) := callT k 2 _ _ s 1 2 _ rfl rfl rfl
theorem c3 (k : Nat) (x0 : D) (s : Sto) : callF TT (k + 1) (.fn 3) [x0] s = endF (exSs NT GT (callF TT k) B3 [x0, .unset] s) := callT k 3 _ _ s 1 2 _ rfl rfl rfl
theorem c4 (k : Nat) (x0 : D) (s : Sto) : callF TT (k + 1) (.fn 4) [x0] s = endF (exSs NT GT (callF TT k) B4 [x0, .unset] s) := callT k 4 _ _ s 1 2 _ rfl rfl rfl
theorem c5 (k : Nat) (x0 : D) (s : Sto) : callF TT (k + 1) (.fn 5) [x0] s = endF (exSs NT GT (callF TT k) B5 [x0] s) := callT k 5 _ _ s 1 1 _ rfl rfl rfl
theorem c6 (k : Nat) (x0 : D) (s : Sto) : callF TT (k + 1) (.fn 6) [x0] s = endF (exSs NT GT (callF TT k) B6 [x0, .unset, .unset, .unset] s) := callT k 6 _ _ s 1 4 _ rfl rfl rfl
theorem c7 (k : Nat) (x0 : D) (s : Sto) : callF TT (k + 1) (.fn 7) [x0] s = endF (exSs NT GT (callF TT k) B7 [x0] s) := callT k 7 _ _ s 1 1 _ rfl rfl rfl
theorem c8 (k : Nat) (x0 : D) (s : Sto) : callF TT (k + 1) (.fn 8) [x0] s = endF (exSs NT GT (callF TT k) B8 [x0] s) := callT k 8 _ _ s 1 1 _ rfl rfl rfl
theorem c9 (k : Nat) (x0 : D) (s : Sto) : callF TT (k + 1) (.fn 9) [x0] s = endF (exSs NT GT (callF TT k) B9 [x0, .unset, .unset] s) := callT k 9 _ _ s 1 3 _ rfl rfl rfl
theorem c10 (k : Nat) (x0 : D) (s : Sto) : callF TT (k + 1) (.fn 10) [x0] s = endF (exSs NT GT (callF TT k) B10 [x0, .unset] s) := callT k 10 _ _ s 1 2 _ rfl rfl rfl
theorem c11 (k : Nat) (s : Sto) : callF TT (k + 1) (.fn 11) [] s = endF (exSs NT GT (callF TT k) B11 [.unset] s) := callT k 11 _ _ s 0 1 _ rfl rfl rfl
theorem c12 (k : Nat) (x0 : D) (s : Sto) : callF TT (k + 1) (.fn 12) [x0] s = endF (exSs NT GT (callF TT k) B12 [x0, .unset] s) := callT k 12 _ _ s 1 2 _ rfl rfl rfl
theorem c13 (k : Nat) (x0 x1 : D) (s : Sto) : callF TT (k + 1) (.fn 13) [x0, x1] s = endF (exSs NT GT (callF TT k) B13 [x0, x1, .unset, .unset] s) := callT k 13 _ _ s 2 4 _ rfl rfl rfl
theorem c14 (k : Nat) (x0 : D) (s : Sto) : callF TT (k + 1) (.fn 14) [x0] s = endF (exSs NT GT (callF TT k) B14 [x0, .unset] s) := callT k 14 _ _ s 1 2 _ rfl rfl rfl
theorem c15 (k : Nat) (x0 x1 : D) (s : Sto) : callF TT (k + 1) (.fn 15) [x0, x1] s = endF (exSs NT GT (callF TT k) B15 [x0, x1, .unset, .unset] s) := callT k 15 _ _ s 2 4 _ rfl rfl rfl
theorem c16 (k : Nat) (x0 : D) (s : Sto) : callF TT (k + 1) (.fn 16) [x0] s = endF (exSs NT GT (callF TT k) B16 [x0, .unset, .unset] s) := callT k 16 _ _ s 1 3 _ rfl rfl rfl
theorem c17 (k : Nat) (x0 : D) (s : Sto) : callF TT (k + 1) (.fn 17) [x0] s = endF (exSs NT GT (callF TT k) B17 [x0] s) := callT k 17 _ _ s 1 1 _ rfl rfl rfl
theorem c18 (k : Nat) (x0 : D) (s : Sto) : callF TT (k + 1) (.fn 18) [x0] s = endF (exSs NT GT (callF TT k) B18 [x0] s) := callT k 18 _ _ s 1 1 _ rfl rfl rfl
theorem c19 (k : Nat) (x0 : D) (s : Sto) : callF TT (k + 1) (.fn 19) [x0] s = endF (exSs NT GT (callF TT k) B19 [x0] s) := callT k 19 _ _ s 1 1 _ rfl rfl rfl
theorem c20 (k : Nat) (x0 x1 : D) (s : Sto) : callF TT (k + 1) (.fn 20) [x0, x1] s = endF (exSs NT GT (callF TT k) B20 [x0, x1] s) := callT k 20 _ _ s 2 2 _ rfl rfl rfl
theorem c21 (k : Nat) (x0 x1 : D) (s : Sto) : callF TT (k + 1) (.fn 21) [x0, x1] s = endF (exSs NT GT (callF TT k) B21 [x0, x1] s) := callT k 21 _ _ s 2 2 _ rfl rfl rfl
theorem c22 (k : Nat) (x0 x1 : D) (s : Sto) : callF TT (k + 1) (.fn 22) [x0, x1] s = endF (exSs NT GT (callF TT k) B22 [x0, x1] s) := callT k 22 _ _ s 2 2 _ rfl rfl rfl
theorem c23 (k : Nat) (x0 x1 : D) (s : Sto) : callF TT (k + 1) (.fn 23) [x0, x1] s = endF (exSs NT GT (callF TT k) B23 [x0, x1, .unset] s) := callT k 23 _ _ s 2 3 _ rfl rfl rfl
theorem c24 (k : Nat) (x0 x1 : D) (s : Sto) : callF TT (k + 1) (.fn 24) [x0, x1] s = endF (exSs NT GT (callF TT k) B24 [x0, x1, .unset, .unset] s) := callT k 24 _ _ s 2 4 _ rfl rfl rfl
theorem c25 (k : Nat) (x0 x1 : D) (s : Sto) : callF TT (k + 1) (.fn 25) [x0, x1] s = endF (exSs NT GT (callF TT k) B25 [x0, x1] s) := callT k 25 _ _ s 2 2 _ rfl rfl rfl
theorem c26 (k : Nat) (x0 x1 : D) (s : Sto) : callF TT (k + 1) (.fn 26) [x0, x1] s = endF (exSs NT GT (callF TT k) B26 [x0, x1] s) := callT k 26 _ _ s 2 2 _ rfl rfl rfl
theorem c27 (k : Nat) (x0 : D) (s : Sto) : callF TT (k + 1) (.fn 27) [x0] s = endF (exSs NT GT (callF TT k) B27 [x0] s) := callT k 27 _ _ s 1 1 _ rfl rfl rfl
theorem c28 (k : Nat) (x0 : D) (s : Sto) : callF TT (k + 1) (.fn 28) [x0] s = endF (exSs NT GT (callF TT k) B28 [x0, .unset] s) := callT k 28 _ _ s 1 2 _ rfl rfl rfl
theorem c29 (k : Nat) (x0 : D) (s : Sto) : callF TT (k + 1) (.fn 29) [x0] s = endF (exSs NT GT (callF TT k) B29 [x0, .unset, .unset] s) := callT k 29 _ _ s 1 3 _ rfl rfl rfl
theorem c30 (k : Nat) (x0 : D) (s : Sto) : callF TT (k + 1) (.fn 30) [x0] s = endF (exSs NT GT (callF TT k) B30 [x0, .unset] s) := callT k 30 _ _ s 1 2 _ rfl rfl rfl
theorem c31 (k : Nat) (x0 : D) (s : Sto) : callF TT (k + 1) (.fn 31) [x0] s = endF (exSs NT GT (callF TT k) B31 [x0, .unset] s) := callT k 31 _ _ s 1 2 _ rfl rfl rfl
theorem c32 (k : Nat) (x0 : D) (s : Sto) : callF TT (k + 1) (.fn 32) [x0] s = endF (exSs NT GT (callF TT k) B32 [x0] s) := callT k 32 _ _ s 1 1 _ rfl rfl rfl
theorem c33 (k : Nat) (x0 x1 : D) (s : Sto) : callF TT (k + 1) (.fn 33) [x0, x1] s = endF (exSs NT GT (callF TT k) B33 [x0, x1, .unset, .unset] s) := callT k 33 _ _ s 2 4 _ rfl rfl rfl
theorem c34 (k : Nat) (s : Sto) : callF TT (k + 1) (.fn 34) [] s = endF (exSs NT GT (callF TT k) B34 [.unset, .unset, .unset] s) := callT k 34 _ _ s 0 3 _ rfl rfl rfl
theorem c35 (k : Nat) (x0 : D) (s : Sto) : callF TT (k + 1) (.fn 35) [x0] s = endF (exSs NT GT (callF TT k) B35 [x0, .unset] s) := callT k 35 _ _ s 1 2 _ rfl rfl rfl
theorem c36 (k : Nat) (x0 x1 : D) (s : Sto) : callF TT (k + 1) (.fn 36) [x0, x1] s = endF (exSs NT GT (callF TT k) B36 [x0, x1, .unset, .unset] s) := callT k 36 _ _ s 2 4 _ rfl rfl rfl
theorem c37 (k : Nat) (x0 x1 : D) (s : Sto) : callF TT (k + 1) (.fn 37) [x0, x1] s = endF (exSs NT GT (callF TT k) B37 [x0, x1, .unset, .unset] s) := callT k 37 _ _ s 2 4 _ rfl rfl rfl
theorem c38 (k : Nat) (x0 x1 : D) (s : Sto) : callF TT (k + 1) (.fn 38) [x0, x1] s = endF (exSs NT GT (callF TT k) B38 [x0, x1, .unset, .unset] s) := callT k 38 _ _ s 2 4 _ rfl rfl rfl
theorem c40 (k : Nat) (x0 : D) (s : Sto) : callF TT (k + 1) (.fn 40) [x0] s = endF (exSs NT GT (callF TT k) B40 [x0, .unset] s) := callT k 40 _ _ s 1 2 _ rfl rfl rfl
theorem c41 (k : Nat) (x0 x1 x2 : D) (s : Sto) : callF TT (k + 1) (.fn 41) [x0, x1, x2] s = endF (exSs NT GT (callF TT k) B41 [x0, x1, x2, .unset] s) := callT k 41 _ _ s 3 4 _ rfl rfl rfl
theorem c42 (k : Nat) (s : Sto) : callF TT (k + 1) (.fn 42) [] s = endF (exSs NT GT (callF TT k) B42 [.unset, .unset] s) := callT k 42 _ _ s 0 2 _ rfl rfl rfl
theorem c43 (k : Nat) (x0 : D) (s : Sto) : callF TT (k + 1) (.fn 43) [x0] s = endF (exSs NT GT (callF TT k) B43 [x0, .unset, .unset] s) := callT k 43 _ _ s 1 3 _ rfl rfl rfl
theorem c44 (k : Nat) (s : Sto) : callF TT (k + 1) (.fn 44) [] s = endF (exSs NT GT (callF TT k) B44 [.unset, .unset, .unset] s) := callT k 44 _ _ s 0 3 _ rfl rfl rfl
theorem c45 (k : Nat) (s : Sto) : callF TT (k + 1) (.fn 45) [] s = endF (exSs NT GT (callF TT k) B45 [] s) := callT k 45 _ _ s 0 0 _ rfl rfl rfl
theorem c46 (k : Nat) (x0 : D) (s : Sto) : callF TT (k + 1) (.fn 46) [x0] s = endF (exSs NT GT (callF TT k) B46 [x0, .unset, .unset, .unset, .unset, .unset, .unset, .unset, .unset, .unset, .unset, .unset, .unset, .unset, .unset, .unset, .unset, .unset, .unset] s) := callT k 46 _ _ s 1 19 _ rfl rfl rfl
theorem callT_clo (k l : Nat) (caps ds env : List D) (s : Sto) (ps : List Nat) (b : CE) (h : TT.lams[l]? = some ⟨ps, b⟩) (hp : asgAll ps ds caps = some env) (hn : noClos ds = true) : callF TT (k + 1) (.clo l caps) ds s = (evE GT (callF TT k) b env s).bind fun d s1 => ifB (noClo d) (.ok d s1) .bad := by
  simp only [callF_c, h, hp, hn, if_true]
  congr 1; funext d s1; cases noClo d <;> rfl
end Fv.Fw
end

section
set_option Elab.async false
set_option linter.all false
set_option maxRecDepth 100000
set_option maxHeartbeats 4000000
set_option autoImplicit false
namespace Fv.Fw
open PySem
local macro_rules | `(tactic| walk_at "ev") => `(tactic| simp -implicitDefEqProofs only [wp_ok, wp_bind, wp_noErr, wp_endF, bind_ok, bind_err, bind_bad, noErr_ok, getV_z, getV_s, retD_non, retD_bl, retD_int, retD_str, retD_tup, retD_lst, retD_dic, retD_scr, retD_fn, retD_obj, retD_clo, e_var, e_non, e_bl, e_int, e_str, e_glob, e_fnv, e_tup, e_lst, e_lstN, e_bin, iteD_t, iteD_f, e_neg, e_not, e_and, e_or, e_cmp, e_chain, e_ite, e_call, callD_fn, callD_clo, e_callV, e_f1, e_f2, e_isin, e_idx, e_dget, e_m1, e_sl, e_comp, e_dcomp, e_callL, es_nil, es_cons, o_none, o_some, c_none, c_some, i_seq, i_rng1, i_rng2, i_zip, i_zip3, i_enum, s_asg, s_asgC, s_unp, s_par, s_setIdx, s_expr, s_iff, s_forr, s_whil, s_ret, s_retN, s_pass, s_cont, s_brk, s_raise, ss_nil, ss_cons, seqK_nx, seqK_ret, seqK_bk, seqK_ct, endF_nx, endF_ret, endF_err, forL_nil, fm_nil, fm_cons, compF, dcompF, bt_v, bt_tt, bt_tl, bts_nil, bts_cons, aa_nil, aa_cons, putV_z, putV_s, consO_some, withE_some, ifB_t, ifB_f, wipeD_nil, wipeD_cons, List.set_cons_zero, List.set_cons_succ, GT, noClo, noClos, noClos_strs, noClos_ints, noClos_bls, Bool.not_true, Bool.not_false, if_true, if_false, ite_true, ite_false, Bool.and_true, Bool.false_and, Bool.and_false, Bool.true_or, Bool.false_or, Bool.or_true, Bool.or_false, Bool.true_and, Bool.and_self, Option.bind_some, Bool.false_eq_true, List.length_cons, List.length_nil, eq_self, decide_true, decide_false, Nat.zero_add, Nat.reduceAdd, Int.cast_ofNat_Int, BEq.rfl, Int.reduceBEq, Int.reduceLT, Int.reduceLE, Int.lt_irrefl, Int.reduceAdd, Int.reduceSub, Int.reduceMul, Int.reduceNeg, Nat.reduceEqDiff, List.cons.injEq, reduceCtorEq, and_self, and_true, true_and, and_false, false_and, Nat.succ_ne_self, optC_some, optC_none, Nat.reduceSub, Nat.reduceMul, Nat.reduceLeDiff, LIM, isD_tuple_non, isD_tuple_bl, isD_tuple_int, isD_tuple_str, isD_tuple_tup, isD_tuple_lst, isD_str_non, isD_str_bl, isD_str_int, isD_str_str, isD_str_tup, isD_str_lst, isD_int_non, isD_int_bl, isD_int_int, isD_int_str, isD_int_tup, isD_int_lst, isD_bool_non, isD_bool_bl, isD_bool_int, isD_bool_str, isD_bool_tup, isD_bool_lst, opB_Add, opB_Sub, opB_BitAnd, opB_BitOr, opB_BitXor, opB_AddB, opB_SubB, opB_AddS, tryR_ok, s_tryN, s_tryT, opB_AddL, opB_AddT, opB_Mul, opB_MulL, opB_MulT, opB_FloorDiv, opB_Mod, opB_Pow, opB_LShift, opB_RShift, opC_Lt, opC_LtE, opC_Gt, opC_GtE, opC_LtS, opC_IsB, opC_IsNotB, opC_IsN_non, opC_IsNotN_non, opC_IsN_bl, opC_IsNotN_bl, opC_IsN_int, opC_IsNotN_int, opC_IsN_str, opC_IsNotN_str, opC_IsN_tup, opC_IsNotN_tup, opC_IsN_lst, opC_IsNotN_lst, opC_EqS, opC_NeS, opC_EqI, opC_NeI, opC_EqB, opC_NeB, opC_InL, opC_NotInL, opC_InT, opC_NotInT, opC_InS, opC_NotInS, opF_lenS, opF_lenL, opF_lenT, opF_lenC, opF_sum, opF_max, opF_all, opF_any, opF_abs, opF_int, opF_intB, opF_listL, opF_listT, opF_listS, opF_tupL, opF_tupT, opF_sorted, opF_max2, opF_min2, opA_L, opA_T, opA_S, opA_C, opD_D, opS_L, opS_T, opS_S, opM_join, opM_index, its_non, its_bl, its_int, its_tup, its_lst, its_scr, its_fn, its_str, enu_lst, enu_str, zip_lst_lst, zip3_lst_lst_lst, zip3_lst_lst_tup, zip3_lst_lst_str, zip_lst_tup, zip3_lst_tup_lst, zip3_lst_tup_tup, zip3_lst_tup_str, zip_lst_str, zip3_lst_str_lst, zip3_lst_str_tup, zip3_lst_str_str, zip_tup_lst, zip3_tup_lst_lst, zip3_tup_lst_tup, zip3_tup_lst_str, zip_tup_tup, zip3_tup_tup_lst, zip3_tup_tup_tup, zip3_tup_tup_str, zip_tup_str, zip3_tup_str_lst, zip3_tup_str_tup, zip3_tup_str_str, zip_str_lst, zip3_str_lst_lst, zip3_str_lst_tup, zip3_str_lst_str, zip_str_tup, zip3_str_tup_lst, zip3_str_tup_tup, zip3_str_tup_str, zip_str_str, zip3_str_str_lst, zip3_str_str_tup, zip3_str_str_str, rng1_int, rng2_int, intO_int, blC_bl, notD_bl, negD_int, optN_some, isStr_str, optR_some, ints_nil, ints_cons, bls_nil, bls_cons, strs_nil, strs_cons, sumR_some, maxR_some, allR_some, anyR_some, joinR_some, optR_some, at_0, at_1, at_2, at_3, cut_1, cut_1n, cut_hd, Option.map_some])
abbrev tNot : Txt := [110, 111, 116]
abbrev tAnd : Txt := [97, 110, 100]
abbrev tOr : Txt := [111, 114]
inductive Fm where
  | lt (i : Fin 6) | nt (f : Fm) | bn (o : Bool) (f g : Fm)
  deriving DecidableEq, Inhabited
namespace Fm
def toD : Fm → D
  | lt i => .str [97 + i.val]
  | nt f => .tup [.str tNot, f.toD]
  | bn o f g => .tup [.str (if o then tAnd else tOr), f.toD, g.toD]
def leaves : Fm → Nat
  | lt _ => 1
  | nt f => f.leaves
  | bn _ f g => f.leaves + g.leaves
def tuples : Fm → Nat
  | lt _ => 0
  | nt f => f.tuples + 1
  | bn _ f g => f.tuples + g.tuples + 1
def depth : Fm → Nat
  | lt _ => 0
  | nt f => f.depth
  | bn _ f g => max f.depth g.depth + 1
/-- how deep tuples are nested -/
def ht : Fm → Nat
  | lt _ => 0
  | nt f => f.ht + 1
  | bn _ f g => max f.ht g.ht + 1
/-- the letters, as often as they stand in it -/
def lets : Fm → List (Fin 6)
  | lt i => [i]
  | nt f => f.lets
  | bn _ f g => f.lets ++ g.lets
/-- the value for inputs -/
def ev : Fm → Txt → Bool
  | lt i, t => decide ((97 + i.val) ∈ t)
  | nt f, t => !f.ev t
  | bn o f g, t => if o then f.ev t && g.ev t else f.ev t || g.ev t
end Fm
open Fm
theorem ex1 {a k : Nat} (h : a < k) : ∃ j, k = j + 1 := ⟨k - 1, by omega⟩
theorem ht_tuples : ∀ f : Fm, f.ht ≤ f.tuples
  | lt _ => Nat.le_refl _
  | nt f => Nat.succ_le_succ (ht_tuples f)
  | bn _ f g => by
    have := ht_tuples f
    have := ht_tuples g
    simp only [ht, tuples]; omega
theorem lets_len : ∀ f : Fm, f.lets.length = f.leaves
  | lt _ => rfl
  | nt f => lets_len f
  | bn _ f g => by simp only [lets, leaves, List.length_append, lets_len f, lets_len g]
theorem leaves_pos : ∀ f : Fm, 0 < f.leaves
  | lt _ => by simp [leaves]
  | nt f => leaves_pos f
  | bn _ f g => by have := leaves_pos f; simp only [leaves]; omega
theorem toD_plain : ∀ f : Fm, plain f.toD = true
  | lt _ => rfl
  | nt f => by simp only [toD, plain, plains, toD_plain f, Bool.and_self]
  | bn _ f g => by simp only [toD, plain, plains, toD_plain f, toD_plain g, Bool.and_self]
theorem toD_dep : ∀ f : Fm, dep f.toD = f.ht
  | lt _ => rfl
  | nt f => by simp only [toD, dep, deps, toD_dep f, ht]; omega
  | bn _ f g => by simp only [toD, dep, deps, toD_dep f, toD_dep g, ht]; omega
theorem toD_set (f : Fm) : f.toD ≠ .unset := plain_set (toD_plain f)
theorem retD_toD (f : Fm) (s : Sto) : retD f.toD s = .ok f.toD s := retD_ok (toD_set f) s
theorem noClo_toD (f : Fm) : noClo f.toD = true := plain_noClo (toD_plain f)
theorem word_ne (o : Bool) : (if o then tAnd else tOr) ≠ tNot := by cases o <;> decide
local macro_rules | `(tactic| walk_at "fm") => `(tactic| (walk_at "ev"; try simp only [retD_toD, noClo_toD, bind_ok]))
theorem leaves_ok : ∀ (f : Fm) (k : Nat) (s : Sto), f.ht < k → callF TT k F_leaves_of [f.toD] s = .ok (.int f.leaves) s := by
  intro f
  induction f with
  | lt i =>
    intro k s h
    obtain ⟨k, rfl⟩ := ex1 h
    rw [c2, B2, toD]
    walk_at "ev"
    rfl
  | nt f ih =>
    intro k s h
    simp only [ht] at h
    obtain ⟨k, rfl⟩ := ex1 h
    rw [c2, B2, toD]
    walk_at "fm"
    rw [ih k s (by omega)]
    walk_at "ev"
    simp [leaves]
  | bn o f g ih1 ih2 =>
    intro k s h
    simp only [ht] at h
    obtain ⟨k, rfl⟩ := ex1 h
    rw [c2, B2, toD]
    walk_at "fm"
    rw [ih1 k s (by omega)]
    walk_at "fm"
    rw [ih2 k s (by omega)]
    walk_at "ev"
    simp [leaves]
theorem tuples_ok : ∀ (f : Fm) (k : Nat) (s : Sto), f.ht < k → callF TT k F_tuples_of [f.toD] s = .ok (.int f.tuples) s := by
  intro f
  induction f with
  | lt i =>
    intro k s h
    obtain ⟨k, rfl⟩ := ex1 h
    rw [c3, B3, toD]
    walk_at "ev"
    rfl
  | nt f ih =>
    intro k s h
    simp only [ht] at h
    obtain ⟨k, rfl⟩ := ex1 h
    rw [c3, B3, toD]
    walk_at "fm"
    rw [ih k s (by omega)]
    walk_at "ev"
    simp [tuples]; omega
  | bn o f g ih1 ih2 =>
    intro k s h
    simp only [ht] at h
    obtain ⟨k, rfl⟩ := ex1 h
    rw [c3, B3, toD]
    walk_at "fm"
    rw [ih1 k s (by omega)]
    walk_at "fm"
    rw [ih2 k s (by omega)]
    walk_at "ev"
    simp [tuples]; omega
theorem depth_ok : ∀ (f : Fm) (k : Nat) (s : Sto), f.ht < k → callF TT k F_depth_of [f.toD] s = .ok (.int f.depth) s := by
  intro f
  induction f with
  | lt i =>
    intro k s h
    obtain ⟨k, rfl⟩ := ex1 h
    rw [c4, B4, toD]
    walk_at "ev"
    rfl
  | nt f ih =>
    intro k s h
    simp only [ht] at h
    obtain ⟨k, rfl⟩ := ex1 h
    rw [c4, B4, toD]
    walk_at "fm"
    rw [ih k s (by omega)]
    walk_at "ev"
    simp [depth, maxL]
  | bn o f g ih1 ih2 =>
    intro k s h
    simp only [ht] at h
    obtain ⟨k, rfl⟩ := ex1 h
    rw [c4, B4, toD]
    walk_at "fm"
    rw [ih1 k s (by omega)]
    walk_at "fm"
    rw [ih2 k s (by omega)]
    walk_at "ev"
    simp only [decide_eq_false (word_ne o)]
    walk_at "ev"
    congr 2
    simp only [depth, maxL]
    split <;> omega
mutual
/-- the formula that a value is like -/
def ofD : D → Option Fm
  | .str [c] => if h : 97 ≤ c ∧ c < 103 then some (.lt ⟨c - 97, by omega⟩) else none
  | .tup xs => ofT xs
  | _ => none
def ofT : List D → Option Fm
  | [.str w, x] => if w = tNot then (ofD x).map .nt else none
  | [.str w, x, y] => if w = tAnd then (ofD x).bind fun f => (ofD y).map fun g => .bn true f g else if w = tOr then (ofD x).bind fun f => (ofD y).map fun g => .bn false f g else none
  | _ => none
end
theorem ofD_toD : ∀ f : Fm, ofD f.toD = some f
  | lt i => by
    have : 97 ≤ 97 + i.val ∧ 97 + i.val < 103 := by omega
    simp only [toD, ofD, dif_pos this]
    congr 2
    exact Fin.ext (by simp)
  | nt f => by simp [toD, ofD, ofT, ofD_toD f]
  | bn o f g => by cases o <;> simp [toD, ofD, ofT, ofD_toD f, ofD_toD g]
theorem toD_ofN : ∀ (n : Nat) (d : D) (f : Fm), sizeOf d < n → ofD d = some f → d = f.toD := by
  intro n
  induction n with
  | zero => intro d f h; omega
  | succ n ih =>
    intro d f hn h
    unfold ofD at h
    split at h
    · split at h
      · rename_i c hc
        cases h
        simp only [toD]
        congr 2
        show c = 97 + (c - 97)
        omega
      · cases h
    · rename_i xs
      unfold ofT at h
      split at h
      · rename_i w x
        split at h
        · rename_i hw
          obtain ⟨f1, h1, rfl⟩ := Option.map_eq_some_iff.mp h
          rw [ih x f1 (by simp at hn; omega) h1, hw, toD]
        · cases h
      · rename_i w x y
        split at h
        · rename_i hw
          obtain ⟨f1, h1, h2⟩ := Option.bind_eq_some_iff.mp h
          obtain ⟨f2, h3, rfl⟩ := Option.map_eq_some_iff.mp h2
          rw [ih x f1 (by simp at hn; omega) h1, ih y f2 (by simp at hn; omega) h3, hw, toD]; rfl
        · split at h
          · rename_i hw
            obtain ⟨f1, h1, h2⟩ := Option.bind_eq_some_iff.mp h
            obtain ⟨f2, h3, rfl⟩ := Option.map_eq_some_iff.mp h2
            rw [ih x f1 (by simp at hn; omega) h1, ih y f2 (by simp at hn; omega) h3, hw, toD]; rfl
          · cases h
      · cases h
    · cases h
theorem toD_ofD {d : D} {f : Fm} (h : ofD d = some f) : d = f.toD := toD_ofN _ d f (Nat.lt_succ_self _) h
/-- a value is like a formula, nested at most so deep -/
def shp (d : D) : Bool := (ofD d).isSome
def shpN (d : D) (n : Nat) : Bool := match ofD d with
  | some f => decide (f.ht ≤ n)
  | none => false
def isF (d : D) : Bool := match ofD d with
  | some f => decide (f.leaves ≤ 40) && decide (f.tuples ≤ 60)
  | none => false
def isLet : D → Bool
  | .str [c] => decide (97 ≤ c) && decide (c < 103)
  | _ => false
theorem letT (c : Nat) : decide (c ∈ ([97, 98, 99, 100, 101, 102] : List Nat)) = (decide (97 ≤ c) && decide (c < 103)) := by
  by_cases h : 97 ≤ c ∧ c < 103
  · obtain ⟨h1, h2⟩ := h
    rw [decide_eq_true h1, decide_eq_true h2]
    have : c = 97 ∨ c = 98 ∨ c = 99 ∨ c = 100 ∨ c = 101 ∨ c = 102 := by omega
    rcases this with rfl | rfl | rfl | rfl | rfl | rfl <;> decide
  · have h1 : decide (c ∈ ([97, 98, 99, 100, 101, 102] : List Nat)) = false := by
      apply decide_eq_false
      simp only [List.mem_cons, List.not_mem_nil, or_false]
      omega
    rw [h1]
    by_cases q : 97 ≤ c
    · have r : ¬ c < 103 := fun r => h ⟨q, r⟩
      rw [decide_eq_false r, Bool.and_false]
    · rw [decide_eq_false q, Bool.false_and]
theorem isLetter_ok (d : D) (hp : plain d = true) (k : Nat) (s : Sto) : callF TT (k + 1) F_is_letter [d] s = .ok (.bl (isLet d)) s := by
  rw [c0, B0]
  cases d <;> first | (cases hp; done) | skip
  all_goals (walk_at "ev"; try rfl)
  rename_i t
  rcases t with _ | ⟨c, _ | ⟨d, t⟩⟩
  · rfl
  · walk_at "ev"
    rw [letT]; rfl
  · have e : ((((d :: t).length + 1 : Nat) : Int) == 1) = false := by
      apply beq_eq_false_iff_ne.mpr
      simp only [List.length_cons]; omega
    simp only [List.length_cons] at e ⊢
    rw [e]; rfl
theorem ofD_tup (xs : List D) : ofD (.tup xs) = ofT xs := by rw [ofD]
theorem ofD_let (c : Nat) : ofD (.str [c]) = if h : 97 ≤ c ∧ c < 103 then some (.lt ⟨c - 97, by omega⟩) else none := by rw [ofD]
theorem ofD_no {d : D} (h1 : ∀ c, d ≠ .str [c]) (h2 : ∀ xs, d ≠ .tup xs) : ofD d = none := by
  unfold ofD
  split
  · exact absurd rfl (h1 _)
  · exact absurd rfl (h2 _)
  · rfl
theorem ofT_not (x : D) : ofT [.str tNot, x] = (ofD x).map .nt := by
  rw [ofT]; exact if_pos rfl
theorem ofT_bin (o : Bool) (x y : D) : ofT [.str (if o then tAnd else tOr), x, y] = (ofD x).bind fun f => (ofD y).map fun g => .bn o f g := by
  rw [ofT]
  cases o <;> rfl
theorem ofT_no {xs : List D} (h1 : ∀ x, xs ≠ [.str tNot, x]) (h2 : ∀ x y (o : Bool), xs ≠ [.str (if o then tAnd else tOr), x, y]) : ofT xs = none := by
  unfold ofT
  split
  · split
    · rename_i w x hw
      exact absurd (by rw [hw]) (h1 x)
    · rfl
  · split
    · rename_i w x y hw
      exact absurd (by rw [hw]; rfl) (h2 x y true)
    · split
      · rename_i w x y _ hw
        exact absurd (by rw [hw]; rfl) (h2 x y false)
      · rfl
  · rfl
theorem shpN_none {d : D} (h : ofD d = none) (n : Nat) : shpN d n = false := by unfold shpN; rw [h]
theorem isLet_shp {d : D} (h : ∀ xs, d ≠ .tup xs) (n : Nat) : isLet d = shpN d n := by
  by_cases h1 : ∃ c, d = .str [c]
  · obtain ⟨c, rfl⟩ := h1
    unfold shpN
    rw [ofD_let]
    by_cases h : 97 ≤ c ∧ c < 103
    · rw [dif_pos h]
      show (decide (97 ≤ c) && decide (c < 103)) = decide (0 ≤ n)
      rw [decide_eq_true h.1, decide_eq_true h.2, decide_eq_true (Nat.zero_le n)]; rfl
    · rw [dif_neg h]
      show (decide (97 ≤ c) && decide (c < 103)) = false
      by_cases q : 97 ≤ c
      · rw [decide_eq_false (fun r => h ⟨q, r⟩), Bool.and_false]
      · rw [decide_eq_false q, Bool.false_and]
  · rw [shpN_none (ofD_no (fun c e => h1 ⟨c, e⟩) h)]
    unfold isLet
    split
    · exact absurd ⟨_, rfl⟩ h1
    · rfl
theorem shpN_not (x : D) (n : Nat) : shpN (.tup [.str tNot, x]) (n + 1) = shpN x n := by
  unfold shpN
  rw [ofD_tup, ofT_not]
  cases ofD x with
  | none => rfl
  | some f =>
    show decide (f.ht + 1 ≤ n + 1) = decide (f.ht ≤ n)
    congr 1
    exact propext ⟨fun h => by omega, fun h => by omega⟩
theorem shpN_bin (o : Bool) (x y : D) (n : Nat) : shpN (.tup [.str (if o then tAnd else tOr), x, y]) (n + 1) = (shpN x n && shpN y n) := by
  unfold shpN
  rw [ofD_tup, ofT_bin]
  cases ofD x with
  | none => rfl
  | some f =>
    cases ofD y with
    | none => exact (Bool.and_false _).symm
    | some g =>
      show decide (max f.ht g.ht + 1 ≤ n + 1) = (decide (f.ht ≤ n) && decide (g.ht ≤ n))
      rw [← Bool.decide_and]
      congr 1
      exact propext ⟨fun h => ⟨by omega, by omega⟩, fun h => by omega⟩
theorem shpN_zero (xs : List D) : shpN (.tup xs) 0 = false := by
  unfold shpN
  cases h : ofD (.tup xs) with
  | none => rfl
  | some f =>
    have := toD_ofD h
    cases f with
    | lt i => cases this
    | nt f => exact decide_eq_false (by simp only [ht]; omega)
    | bn o f g => exact decide_eq_false (by simp only [ht]; omega)
theorem shpN_no {xs : List D} (h1 : ∀ x, xs ≠ [.str tNot, x]) (h2 : ∀ x y (o : Bool), xs ≠ [.str (if o then tAnd else tOr), x, y]) (n : Nat) : shpN (.tup xs) n = false := shpN_none (by rw [ofD_tup, ofT_no h1 h2]) n
theorem eq_str_false {a b : Txt} (h : a ≠ b) : decide (a = b) = false := decide_eq_false h
theorem isShape_ok : ∀ (n : Nat) (d : D), plain d = true → ∀ (k : Nat) (s : Sto), n + 1 < k → callF TT k F_is_shape [d, .int n] s = .ok (.bl (shpN d n)) s := by
  intro n
  induction n with
  | zero =>
    intro d hp k s h
    obtain ⟨k, rfl⟩ := ex1 h
    obtain ⟨k, rfl⟩ : ∃ j, k = j + 1 := ⟨k - 1, by omega⟩
    rw [c1, B1]
    cases d <;> first | (cases hp; done) | skip
    case tup xs =>
      walk_at "ev"
      rw [shpN_zero]
    all_goals
      walk_at "ev"
      simp only [isLetter_ok _ hp]
      walk_at "ev"
      rw [isLet_shp (by simp) 0]
  | succ n ih =>
    intro d hp k s h
    obtain ⟨k, rfl⟩ := ex1 h
    obtain ⟨k, rfl⟩ : ∃ j, k = j + 1 := ⟨k - 1, by omega⟩
    rw [c1, B1]
    cases d <;> first | (cases hp; done) | skip
    case tup xs =>
      have hz : (((n + 1 : Nat) : Int) == 0) = false := by
        apply beq_eq_false_iff_ne.mpr; omega
      have hn1 : ((n + 1 : Nat) : Int) - 1 = (n : Int) := by omega
      simp only [plain] at hp
      walk_at "ev"
      rw [hz]
      rcases xs with _ | ⟨x, _ | ⟨y, r⟩⟩
      · rw [shpN_no (by simp) (by simp)]; rfl
      · rw [shpN_no (by simp) (by simp)]; rfl
      · simp only [plains, Bool.and_eq_true] at hp
        obtain ⟨hx, hy, hr⟩ := hp
        have h2 : decide ((((x :: y :: r).length : Nat) : Int) < 2) = false := by
          apply decide_eq_false; simp only [List.length_cons]; omega
        rw [h2]
        walk_at "ev"
        cases x <;> first | (cases hx; done) | skip
        case str w =>
          walk_at "ev"
          by_cases hw : w = tNot
          · subst hw
            walk_at "ev"
            rcases r with _ | ⟨z, r⟩
            · walk_at "ev"
              rw [retD_plain hy]
              walk_at "ev"
              rw [hn1, ih y hy (k + 1) s (by omega), shpN_not]
              walk_at "ev"
              simp
            · have e : ((((z :: r).length + 1 + 1 : Nat) : Int) == 2) = false := by
                apply beq_eq_false_iff_ne.mpr; simp only [List.length_cons]; omega
              rw [e, shpN_no (by simp) (by simp)]; rfl
          · rw [eq_str_false hw]
            walk_at "ev"
            rcases r with _ | ⟨z, _ | ⟨u, r⟩⟩
            · walk_at "ev"
              rw [shpN_no (by simp [hw]) (by simp)]
            · walk_at "ev"
              rw [inR_ok rfl rfl (by simp [dep])]
              walk_at "ev"
              by_cases hw2 : ∃ o, w = if o = true then tAnd else tOr
              · obtain ⟨o, rfl⟩ := hw2
                have e : ([D.str [97, 110, 100], D.str [111, 114]].any fun z => eqD z (D.str (if o = true then tAnd else tOr))) = true := by cases o <;> rfl
                rw [e, shpN_bin]
                simp only [plains, Bool.and_true] at hr
                walk_at "ev"
                rw [retD_plain hy]
                walk_at "ev"
                rw [hn1, ih y hy (k + 1) s (by omega)]
                walk_at "ev"
                rw [retD_plain hr]
                walk_at "ev"
                rw [ih z hr (k + 1) s (by omega)]
                walk_at "ev"
                simp
              · have e : ([D.str [97, 110, 100], D.str [111, 114]].any fun z => eqD z (D.str w)) = false := by
                  simp only [List.any_cons, List.any_nil, eqD, Bool.or_false, Bool.or_eq_false_iff, decide_eq_false_iff_not]
                  exact ⟨fun q => hw2 ⟨true, q.symm⟩, fun q => hw2 ⟨false, q.symm⟩⟩
                rw [e, shpN_no (by simp [hw]) (fun a b o q => hw2 ⟨o, by simp at q; exact q.1⟩)]
                rfl
            · have e : ((((z :: u :: r).length + 1 + 1 : Nat) : Int) == 3) = false := by
                apply beq_eq_false_iff_ne.mpr; simp only [List.length_cons]; omega
              rw [e, shpN_no (by simp) (by simp)]; rfl
        all_goals
          walk_at "ev"
          rw [shpN_no (by simp) (by simp)]
    all_goals
      walk_at "ev"
      simp only [isLetter_ok _ hp]
      walk_at "ev"
      rw [isLet_shp (by simp) (n + 1)]
theorem shpN_some {d : D} {f : Fm} (h : ofD d = some f) (n : Nat) : shpN d n = decide (f.ht ≤ n) := by unfold shpN; rw [h]
theorem isF_some {d : D} {f : Fm} (h : ofD d = some f) : isF d = (decide (f.leaves ≤ 40) && decide (f.tuples ≤ 60)) := by unfold isF; rw [h]
theorem isF_none {d : D} (h : ofD d = none) : isF d = false := by unfold isF; rw [h]
theorem leI (a : Nat) (b : Nat) : decide ((a : Int) ≤ (b : Int)) = decide (a ≤ b) := by
  congr 1; exact propext ⟨fun h => by omega, fun h => by omega⟩
theorem isGood_ok (d : D) (hp : plain d = true) (k : Nat) (s : Sto) (hk : 63 < k) : callF TT k F_is_good [d] s = .ok (.bl (isF d)) s := by
  obtain ⟨k, rfl⟩ := ex1 hk
  rw [c5, B5]
  walk_at "ev"
  rw [retD_plain hp]
  walk_at "ev"
  rw [show (D.int 60) = D.int ((60 : Nat) : Int) from rfl, isShape_ok 60 d hp k s (by omega)]
  cases h : ofD d with
  | none =>
    rw [shpN_none h, isF_none h]; rfl
  | some f =>
    rw [shpN_some h, isF_some h]
    have e := toD_ofD h
    subst e
    by_cases h1 : f.ht ≤ 60
    · rw [decide_eq_true h1]
      walk_at "ev"
      rw [retD_toD]
      walk_at "ev"
      rw [leaves_ok f k s (by omega)]
      walk_at "ev"
      rw [show (40 : Int) = ((40 : Nat) : Int) from rfl, leI]
      by_cases h2 : f.leaves ≤ 40
      · rw [decide_eq_true h2]
        walk_at "ev"
        rw [retD_toD]
        walk_at "ev"
        rw [tuples_ok f k s (by omega)]
        walk_at "ev"
        rw [show (60 : Int) = ((60 : Nat) : Int) from rfl, leI]
      · rw [decide_eq_false h2]
        walk_at "ev"
    · rw [decide_eq_false h1]
      have h2 : ¬ f.tuples ≤ 60 := fun q => h1 (Nat.le_trans (ht_tuples f) q)
      rw [decide_eq_false h2, Bool.and_false]; rfl
theorem need_ok (f : Fm) (h : isF f.toD = true) (k : Nat) (s : Sto) (hk : 64 < k) : callF TT k F_need_formula [f.toD] s = .ok .non s := by
  obtain ⟨k, rfl⟩ := ex1 hk
  rw [c7, B7]
  walk_at "ev"
  rw [retD_toD]
  walk_at "ev"
  rw [isGood_ok _ (toD_plain f) k s (by omega), h]
  walk_at "ev"
theorem need_err (d : D) (hp : plain d = true) (h : isF d = false) (k : Nat) (s : Sto) (hk : 64 < k) : callF TT k F_need_formula [d] s = .err 1 s := by
  obtain ⟨k, rfl⟩ := ex1 hk
  rw [c7, B7]
  walk_at "ev"
  rw [retD_plain hp]
  walk_at "ev"
  rw [isGood_ok d hp k s (by omega), h]
  walk_at "ev"
theorem isFormula_ok (d : D) (hp : plain d = true) (k : Nat) (s : Sto) (hk : 64 < k) : callF TT k F_is_formula [d] s = .ok (.bl (isF d)) s := by
  obtain ⟨k, rfl⟩ := ex1 hk
  rw [c17, B17]
  walk_at "ev"
  rw [retD_plain hp]
  walk_at "ev"
  rw [isGood_ok d hp k s (by omega)]
  walk_at "ev"
theorem leavesP_ok (f : Fm) (h : isF f.toD = true) (k : Nat) (s : Sto) (hk : 65 < k) : callF TT k F_leaves [f.toD] s = .ok (.int f.leaves) s := by
  obtain ⟨k, rfl⟩ := ex1 hk
  have hh : f.ht ≤ 60 := by
    rw [isF_some (ofD_toD f)] at h
    simp only [Bool.and_eq_true, decide_eq_true_eq] at h
    exact Nat.le_trans (ht_tuples f) h.2
  rw [c18, B18]
  walk_at "ev"
  rw [retD_toD]
  walk_at "ev"
  rw [need_ok f h k s (by omega)]
  walk_at "ev"
  rw [retD_toD]
  walk_at "ev"
  rw [leaves_ok f k s (by omega)]
  walk_at "ev"
theorem isF_ht {f : Fm} (h : isF f.toD = true) : f.ht ≤ 60 := by
  rw [isF_some (ofD_toD f)] at h
  simp only [Bool.and_eq_true, decide_eq_true_eq] at h
  exact Nat.le_trans (ht_tuples f) h.2
theorem depthP_ok (f : Fm) (h : isF f.toD = true) (k : Nat) (s : Sto) (hk : 65 < k) : callF TT k F_depth [f.toD] s = .ok (.int f.depth) s := by
  obtain ⟨k, rfl⟩ := ex1 hk
  have hh := isF_ht h
  rw [c19, B19]
  walk_at "ev"
  rw [retD_toD]
  walk_at "ev"
  rw [need_ok f h k s (by omega)]
  walk_at "ev"
  rw [retD_toD]
  walk_at "ev"
  rw [depth_ok f k s (by omega)]
  walk_at "ev"

end Fv.Fw
end

section
set_option Elab.async false
set_option linter.all false
set_option maxRecDepth 100000
set_option maxHeartbeats 4000000
set_option autoImplicit false
namespace Fv.Fw
open PySem
local macro_rules | `(tactic| walk_at "ev") => `(tactic| simp -implicitDefEqProofs only [wp_ok, wp_bind, wp_noErr, wp_endF, bind_ok, bind_err, bind_bad, noErr_ok, getV_z, getV_s, retD_non, retD_bl, retD_int, retD_str, retD_tup, retD_lst, retD_dic, retD_scr, retD_fn, retD_obj, retD_clo, e_var, e_non, e_bl, e_int, e_str, e_glob, e_fnv, e_tup, e_lst, e_lstN, e_bin, iteD_t, iteD_f, e_neg, e_not, e_and, e_or, e_cmp, e_chain, e_ite, e_call, callD_fn, callD_clo, e_callV, e_f1, e_f2, e_isin, e_idx, e_dget, e_m1, e_sl, e_comp, e_dcomp, e_callL, es_nil, es_cons, o_none, o_some, c_none, c_some, i_seq, i_rng1, i_rng2, i_zip, i_zip3, i_enum, s_asg, s_asgC, s_unp, s_par, s_setIdx, s_expr, s_iff, s_forr, s_whil, s_ret, s_retN, s_pass, s_cont, s_brk, s_raise, ss_nil, ss_cons, seqK_nx, seqK_ret, seqK_bk, seqK_ct, endF_nx, endF_ret, endF_err, forL_nil, fm_nil, fm_cons, compF, dcompF, bt_v, bt_tt, bt_tl, bts_nil, bts_cons, aa_nil, aa_cons, putV_z, putV_s, consO_some, withE_some, ifB_t, ifB_f, wipeD_nil, wipeD_cons, List.set_cons_zero, List.set_cons_succ, GT, noClo, noClos, noClos_strs, noClos_ints, noClos_bls, Bool.not_true, Bool.not_false, if_true, if_false, ite_true, ite_false, Bool.and_true, Bool.false_and, Bool.and_false, Bool.true_or, Bool.false_or, Bool.or_true, Bool.or_false, Bool.true_and, Bool.and_self, Option.bind_some, Bool.false_eq_true, List.length_cons, List.length_nil, eq_self, decide_true, decide_false, Nat.zero_add, Nat.reduceAdd, Int.cast_ofNat_Int, BEq.rfl, Int.reduceBEq, Int.reduceLT, Int.reduceLE, Int.lt_irrefl, Int.reduceAdd, Int.reduceSub, Int.reduceMul, Int.reduceNeg, Nat.reduceEqDiff, List.cons.injEq, reduceCtorEq, and_self, and_true, true_and, and_false, false_and, Nat.succ_ne_self, optC_some, optC_none, Nat.reduceSub, Nat.reduceMul, Nat.reduceLeDiff, LIM, isD_tuple_non, isD_tuple_bl, isD_tuple_int, isD_tuple_str, isD_tuple_tup, isD_tuple_lst, isD_str_non, isD_str_bl, isD_str_int, isD_str_str, isD_str_tup, isD_str_lst, isD_int_non, isD_int_bl, isD_int_int, isD_int_str, isD_int_tup, isD_int_lst, isD_bool_non, isD_bool_bl, isD_bool_int, isD_bool_str, isD_bool_tup, isD_bool_lst, opB_Add, opB_Sub, opB_BitAnd, opB_BitOr, opB_BitXor, opB_AddB, opB_SubB, opB_AddS, tryR_ok, s_tryN, s_tryT, opB_AddL, opB_AddT, opB_Mul, opB_MulL, opB_MulT, opB_FloorDiv, opB_Mod, opB_Pow, opB_LShift, opB_RShift, opC_Lt, opC_LtE, opC_Gt, opC_GtE, opC_LtS, opC_IsB, opC_IsNotB, opC_IsN_non, opC_IsNotN_non, opC_IsN_bl, opC_IsNotN_bl, opC_IsN_int, opC_IsNotN_int, opC_IsN_str, opC_IsNotN_str, opC_IsN_tup, opC_IsNotN_tup, opC_IsN_lst, opC_IsNotN_lst, opC_EqS, opC_NeS, opC_EqI, opC_NeI, opC_EqB, opC_NeB, opC_InL, opC_NotInL, opC_InT, opC_NotInT, opC_InS, opC_NotInS, opF_lenS, opF_lenL, opF_lenT, opF_lenC, opF_sum, opF_max, opF_all, opF_any, opF_abs, opF_int, opF_intB, opF_listL, opF_listT, opF_listS, opF_tupL, opF_tupT, opF_sorted, opF_max2, opF_min2, opA_L, opA_T, opA_S, opA_C, opD_D, opS_L, opS_T, opS_S, opM_join, opM_index, its_non, its_bl, its_int, its_tup, its_lst, its_scr, its_fn, its_str, enu_lst, enu_str, zip_lst_lst, zip3_lst_lst_lst, zip3_lst_lst_tup, zip3_lst_lst_str, zip_lst_tup, zip3_lst_tup_lst, zip3_lst_tup_tup, zip3_lst_tup_str, zip_lst_str, zip3_lst_str_lst, zip3_lst_str_tup, zip3_lst_str_str, zip_tup_lst, zip3_tup_lst_lst, zip3_tup_lst_tup, zip3_tup_lst_str, zip_tup_tup, zip3_tup_tup_lst, zip3_tup_tup_tup, zip3_tup_tup_str, zip_tup_str, zip3_tup_str_lst, zip3_tup_str_tup, zip3_tup_str_str, zip_str_lst, zip3_str_lst_lst, zip3_str_lst_tup, zip3_str_lst_str, zip_str_tup, zip3_str_tup_lst, zip3_str_tup_tup, zip3_str_tup_str, zip_str_str, zip3_str_str_lst, zip3_str_str_tup, zip3_str_str_str, rng1_int, rng2_int, intO_int, blC_bl, notD_bl, negD_int, optN_some, isStr_str, optR_some, ints_nil, ints_cons, bls_nil, bls_cons, strs_nil, strs_cons, sumR_some, maxR_some, allR_some, anyR_some, joinR_some, optR_some, at_0, at_1, at_2, at_3, cut_1, cut_1n, cut_hd, Option.map_some])
open Fm
local macro_rules | `(tactic| walk_at "fm") => `(tactic| (walk_at "ev"; try simp only [retD_toD, noClo_toD, bind_ok]))
abbrev LETT : List Nat := [97, 98, 99, 100, 101, 102]
def lot (n : Nat) : Txt := ((List.range 6).filter fun i => n.testBit i).map (97 + ·)
def INS : List Txt := sortT ((List.range 64).map lot)
def ascB : Txt → Bool
  | a :: b :: r => decide (a < b) && ascB (b :: r)
  | _ => true
def okIn (t : Txt) : Bool := (t.all fun c => decide (c ∈ LETT)) && ascB t
def isIn : D → Bool
  | .str t => okIn t
  | _ => false
theorem zipL_map {α β : Type} (f : α → D) (g : β → D) : ∀ (xs : List α) (ys : List β), zipL (xs.map f) (ys.map g) = (xs.zip ys).map fun p => .tup [f p.1, g p.2]
  | [], _ => rfl
  | _ :: _, [] => rfl
  | x :: xs, y :: ys => by simp only [List.map_cons, zipL, List.zip_cons_cons, zipL_map f g xs ys]
theorem asc_zip : ∀ t : Txt, ((t.zip (t.drop 1)).map fun p => decide ([p.1] < [p.2])).all id = ascB t
  | [] => rfl
  | [_] => rfl
  | a :: b :: r => by
    have ih := asc_zip (b :: r)
    simp only [List.drop_succ_cons, List.drop_zero, List.zip_cons_cons, List.map_cons, List.all_cons, ascB, id] at ih ⊢
    rw [ih]
    congr 1
    congr 1
    simp [List.cons_lt_cons_iff]
theorem bls_map2 {α : Type} (f : α → Bool) (xs : List α) : bls? (xs.map fun x => D.bl (f x)) = some (xs.map f) := bls_map f xs
theorem areInputs_ok (d : D) (hp : plain d = true) (k : Nat) (s : Sto) : callF TT (k + 1) F_are_inputs [d] s = .ok (.bl (isIn d)) s := by
  rw [c6, B6]
  cases d <;> first | (cases hp; done) | skip
  case str t =>
    walk_at "ev"
    rw [fm_map (compF GT (callF TT k) (CE.cmp .In (.var 3) (.glob 0)) (.v 3) [3] none [.str t, .unset, .unset, .unset]) (fun c => D.str [c]) (fun c => .bl (decide (c ∈ LETT))) s t fun c _ => by walk_at "ev"]
    walk_at "ev"
    rw [bls_map2]
    walk_at "ev"
    rw [List.all_map]
    unfold isIn okIn
    have e : (id ∘ fun c => decide (c ∈ LETT)) = fun c => decide (c ∈ LETT) := rfl
    rw [e]
    cases h : t.all fun c => decide (c ∈ LETT) with
    | false =>
      walk_at "ev"
      rw [h]; rfl
    | true =>
      walk_at "ev"
      rw [show (some (1 : Int)) = some ((1 : Nat) : Int) from rfl, cut_drop, zipL_map]
      rw [fm_map (compF GT (callF TT k) (CE.cmp .Lt (.var 1) (.var 2)) (.t [.v 1, .v 2]) [1, 2] none [.str t, .unset, .unset, .unset]) (fun p : Nat × Nat => D.tup [D.str [p.1], D.str [p.2]]) (fun p => .bl (decide ([p.1] < [p.2]))) s _ fun c _ => by walk_at "ev"]
      walk_at "ev"
      rw [bls_map2]
      walk_at "ev"
      rw [asc_zip, h]; rfl
  all_goals walk_at "ev"; rfl
theorem needI_ok (t : Txt) (h : okIn t = true) (k : Nat) (s : Sto) : callF TT (k + 2) F_need_inputs [.str t] s = .ok .non s := by
  rw [c8, B8]
  walk_at "ev"
  rw [areInputs_ok _ rfl, isIn, h]
  walk_at "ev"
theorem needI_err (d : D) (hp : plain d = true) (h : isIn d = false) (k : Nat) (s : Sto) : callF TT (k + 2) F_need_inputs [d] s = .err 2 s := by
  rw [c8, B8]
  walk_at "ev"
  rw [retD_plain hp]
  walk_at "ev"
  rw [areInputs_ok _ hp, h]
  walk_at "ev"
theorem joinL_nil : ∀ ts : List Txt, TL.joinL [] ts = ts.flatten
  | [] => rfl
  | [p] => by simp [TL.joinL]
  | p :: q :: r => by
    have := joinL_nil (q :: r)
    simp only [TL.joinL, List.nil_append, this, List.flatten_cons]
theorem flat_one (xs : List Nat) : (xs.map fun c => [c]).flatten = xs := by
  induction xs with
  | nil => rfl
  | cons x xs ih => simp only [List.map_cons, List.flatten_cons, ih]; rfl
theorem enum_lett : enumL 0 (LETT.map fun c => D.str [c]) = (List.range 6).map fun i => D.tup [.int (i : Nat), .str [97 + i]] := by rfl
theorem bit_int (n i : Nat) : (((n : Int) / 2 ^ i % 2) == 1) = n.testBit i := by
  have e : ((n : Int) / 2 ^ i % 2) = ((n / 2 ^ i % 2 : Nat) : Int) := by
    rw [Int.natCast_emod, Int.natCast_ediv, Int.natCast_pow]; rfl
  rw [e, Nat.testBit_eq_decide_div_mod_eq]
  by_cases h : n / 2 ^ i % 2 = 1
  · rw [h]; rfl
  · rw [decide_eq_false h]
    apply beq_eq_false_iff_ne.mpr
    omega
theorem lotOf_ok (n : Nat) (k : Nat) (s : Sto) : callF TT (k + 1) F_lot_of [.int (n : Nat)] s = .ok (.str (lot n)) s := by
  rw [c9, B9]
  walk_at "ev"
  rw [enum_lett]
  rw [fm_filter _ (fun i : Nat => D.tup [.int (i : Nat), .str [97 + i]]) (fun i => n.testBit i) (fun i => .str [97 + i]) s _ fun i _ => by
    walk_at "ev"
    rw [shrR_ok]
    walk_at "ev"
    rw [modR_ok (by decide)]
    walk_at "ev"
    rw [bit_int]
    cases n.testBit i <;> rfl]
  walk_at "ev"
  have e : ((List.range 6).filter fun i => n.testBit i).map (fun i => D.str [97 + i]) = (lot n).map fun c => D.str [c] := by
    unfold lot; rw [List.map_map]; rfl
  rw [e, strs_map (fun c : Nat => [c])]
  walk_at "ev"
  have hl : (lot n).length ≤ 6 := by
    unfold lot
    rw [List.length_map]
    exact Nat.le_trans (List.length_filter_le _ _) (by simp)
  rw [joinL_nil, flat_one, if_pos (by
    rw [List.map_map]
    have : (((lot n).map ((fun x : Txt => x.length) ∘ fun c : Nat => [c]))).sum = (lot n).length := by
      induction lot n with
      | nil => rfl
      | cons x xs ih => simp only [List.map_cons, List.sum_cons, ih, Function.comp, List.length_cons, List.length_nil]; omega
    rw [this]
    simp; omega)]
  walk_at "ev"
theorem lot_sorted : sortT ((List.range 64).map lot) = INS := rfl
theorem lots_all : ∀ n : Fin 64, lot n.val ∈ INS := by decide +kernel
theorem ins_lots : ∀ t ∈ INS, ∃ n : Fin 64, t = lot n.val := by decide +kernel
theorem ins_ok : ∀ t ∈ INS, okIn t = true := by decide +kernel
theorem okRng_64 : okRng 64 = true := by decide
theorem ints_none (t : Txt) (r : List D) : ints? (.str t :: r) = none := rfl
theorem srtR_strs (a : Txt) (xs : List Txt) (s : Sto) : srtR ((a :: xs).map D.str) s = .ok (.lst ((sortT (a :: xs)).map D.str)) s := by
  unfold srtR
  rw [List.map_cons, ints_none]
  have := strs_map' (a :: xs)
  rw [List.map_cons] at this
  rw [this]
theorem allInputs_ok (k : Nat) (s : Sto) : callF TT (k + 2) F_all_inputs [] s = .ok (.lst (INS.map D.str)) s := by
  rw [c11, B11]
  walk_at "ev"
  rw [okRng_64]
  walk_at "ev"
  have e : rngL 0 (Int.toNat 64) = (List.range 64).map fun n : Nat => D.int (n : Int) := by
    unfold rngL
    show (List.range 64).map _ = _
    apply List.map_congr_left
    intro i _
    rw [Int.zero_add]
  rw [e, fm_map _ (fun n : Nat => D.int (n : Int)) (fun n => D.str (lot n)) s _ fun n _ => by
    walk_at "ev"
    rw [lotOf_ok]
    walk_at "ev"]
  walk_at "ev"
  have e2 : ((List.range 64).map fun n => D.str (lot n)) = ((List.range 64).map lot).map D.str := by rw [List.map_map]; rfl
  rw [e2, show (List.range 64).map lot = lot 0 :: ((List.range 64).map lot).tail from rfl, srtR_strs]
  walk_at "ev"
  rfl
def ltab (i : Nat) : Nat := (((List.range 64).filter fun n => n.testBit i).map fun n => 2 ^ n).sum
theorem mem_lot (n i : Nat) (h : i < 6) : decide ((97 + i) ∈ lot n) = n.testBit i := by
  unfold lot
  by_cases q : n.testBit i = true
  · rw [q]
    apply decide_eq_true
    exact List.mem_map.mpr ⟨i, List.mem_filter.mpr ⟨List.mem_range.mpr h, q⟩, rfl⟩
  · have q' : n.testBit i = false := by simpa using q
    rw [q']
    apply decide_eq_false
    intro m
    obtain ⟨j, hj, e⟩ := List.mem_map.mp m
    have : j = i := by omega
    subst this
    exact q (List.mem_filter.mp hj).2
theorem sum_cast (xs : List Nat) : (xs.map fun n => ((n : Nat) : Int)).sum = ((xs.sum : Nat) : Int) := by
  induction xs with
  | nil => rfl
  | cons x xs ih => simp only [List.map_cons, List.sum_cons, ih]; omega
theorem letterTable_ok (i : Fin 6) (k : Nat) (s : Sto) : callF TT (k + 2) F_letter_table [.str [97 + i.val]] s = .ok (.int (ltab i.val : Nat)) s := by
  rw [c12, B12]
  walk_at "ev"
  rw [okRng_64]
  walk_at "ev"
  have e : rngL 0 (Int.toNat 64) = (List.range 64).map fun n : Nat => D.int (n : Int) := by
    unfold rngL
    show (List.range 64).map _ = _
    apply List.map_congr_left
    intro i _
    rw [Int.zero_add]
  rw [e, fm_filter _ (fun n : Nat => D.int (n : Int)) (fun n => n.testBit i.val) (fun n => D.int ((2 ^ n : Nat) : Int)) s _ fun n hn => by
    have hn' := List.mem_range.mp hn
    walk_at "ev"
    rw [lotOf_ok]
    walk_at "ev"
    rw [mem_lot n i.val i.isLt]
    cases n.testBit i.val with
    | false => walk_at "ev"; try rfl
    | true =>
      walk_at "ev"
      rw [shlR_ok 1 n (by omega) (by decide)]
      walk_at "ev"
      rw [Int.one_mul, Int.natCast_pow]; rfl]
  walk_at "ev"
  rw [ints_map fun n : Nat => ((2 ^ n : Nat) : Int)]
  walk_at "ev"
  have := sum_cast (((List.range 64).filter fun n => n.testBit i.val).map fun n => 2 ^ n)
  rw [List.map_map] at this
  show R.ok (D.int (((List.range 64).filter fun n => n.testBit i.val).map fun n => ((2 ^ n : Nat) : Int)).sum) s = _
  rw [show (fun n : Nat => ((2 ^ n : Nat) : Int)) = ((fun n : Nat => ((n : Nat) : Int)) ∘ fun n => 2 ^ n) from rfl, this]
  rfl
def FUL : Nat := 18446744073709551615
def tb : Fm → Nat
  | .lt i => ltab i.val
  | .nt f => FUL ^^^ tb f
  | .bn o f g => if o then tb f &&& tb g else tb f ||| tb g
theorem bAnd (a b : Nat) : Builtin.bitAnd (a : Int) (b : Int) = ((a &&& b : Nat) : Int) := by
  unfold Builtin.bitAnd
  rw [decide_eq_true (by omega), decide_eq_true (by omega)]
  rfl
theorem bOr (a b : Nat) : Builtin.bitOr (a : Int) (b : Int) = ((a ||| b : Nat) : Int) := by
  unfold Builtin.bitOr Builtin.bitAnd Builtin.bitNot
  rw [decide_eq_false (by omega), decide_eq_false (by omega)]
  have e1 : (-(-(a : Int) - 1) - 1).toNat = a := by omega
  have e2 : (-(-(b : Int) - 1) - 1).toNat = b := by omega
  show -(-(((-(-(a : Int) - 1) - 1).toNat ||| (-(-(b : Int) - 1) - 1).toNat : Nat) : Int) - 1) - 1 = _
  rw [e1, e2]
  omega
theorem or_xor0 : ∀ (n a b : Nat), a < n → a ||| b = (a ^^^ b) + (a &&& b) := by
  intro n
  induction n with
  | zero => intro a b h; omega
  | succ n ih =>
    intro a b h
    by_cases h0 : a = 0
    · subst h0; simp
    · have e := ih (a / 2) (b / 2) (by omega)
      have d1 := Nat.or_div_two (a := a) (b := b)
      have d2 := Nat.xor_div_two (a := a) (b := b)
      have d3 := Nat.and_div_two (a := a) (b := b)
      have m1 := @Nat.or_mod_two_eq_one a b
      have m2 := @Nat.xor_mod_two_eq_one a b
      have m3 := @Nat.and_mod_two_eq_one a b
      omega
theorem or_xor (a b : Nat) : a ||| b = (a ^^^ b) + (a &&& b) := or_xor0 _ a b (Nat.lt_succ_self a)
theorem bXor (a b : Nat) : Builtin.bitXor (a : Int) (b : Int) = ((a ^^^ b : Nat) : Int) := by
  unfold Builtin.bitXor
  rw [bOr, bAnd, or_xor]
  omega
def KN : D := .dic [[97], [98], [99], [100], [101], [102]] [.int (ltab 0 : Nat), .int (ltab 1 : Nat), .int (ltab 2 : Nat), .int (ltab 3 : Nat), .int (ltab 4 : Nat), .int (ltab 5 : Nat)]
theorem look_let (i : Fin 6) : lookK [[97], [98], [99], [100], [101], [102]] [.int (ltab 0 : Nat), .int (ltab 1 : Nat), .int (ltab 2 : Nat), .int (ltab 3 : Nat), .int (ltab 4 : Nat), .int (ltab 5 : Nat)] [97 + i.val] = some (.int (ltab i.val : Nat)) := by
  match i with
  | ⟨0, _⟩ => rfl
  | ⟨1, _⟩ => rfl
  | ⟨2, _⟩ => rfl
  | ⟨3, _⟩ => rfl
  | ⟨4, _⟩ => rfl
  | ⟨5, _⟩ => rfl
theorem word_and (o : Bool) : decide ((if o then tAnd else tOr) = tAnd) = o := by cases o <;> decide
theorem tableBy_ok : ∀ (f : Fm) (k : Nat) (s : Sto), f.ht < k → callF TT k F_table_by [f.toD, KN] s = .ok (.int (tb f : Nat)) s := by
  intro f
  induction f with
  | lt i =>
    intro k s h
    obtain ⟨k, rfl⟩ := ex1 h
    rw [c13, B13, toD, KN]
    walk_at "ev"
    rw [look_let]
    walk_at "ev"
    rfl
  | nt f ih =>
    intro k s h
    simp only [ht] at h
    obtain ⟨k, rfl⟩ := ex1 h
    rw [c13, B13, toD]
    have ih := ih k s (by omega)
    rw [KN] at ih ⊢
    walk_at "fm"
    rw [ih]
    walk_at "ev"
    rw [show (18446744073709551615 : Int) = ((FUL : Nat) : Int) from rfl, bXor]
    rfl
  | bn o f g ih1 ih2 =>
    intro k s h
    simp only [ht] at h
    obtain ⟨k, rfl⟩ := ex1 h
    rw [c13, B13, toD]
    have ih1 := ih1 k s (by omega)
    have ih2 := ih2 k s (by omega)
    rw [KN] at ih1 ih2 ⊢
    walk_at "fm"
    rw [ih1]
    walk_at "fm"
    rw [ih2]
    walk_at "ev"
    simp only [decide_eq_false (word_ne o), word_and]
    cases o
    · walk_at "ev"
      rw [bOr]; rfl
    · walk_at "ev"
      rw [bAnd]; rfl
theorem tableOf_ok (f : Fm) (k : Nat) (s : Sto) (hk : f.ht + 3 < k) : callF TT k F_table_of [f.toD] s = .ok (.int (tb f : Nat)) s := by
  obtain ⟨k, rfl⟩ := ex1 hk
  obtain ⟨k, rfl⟩ : ∃ j, k = j + 2 := ⟨k - 2, by omega⟩
  rw [c14, B14]
  walk_at "fm"
  have key : ∀ i : Fin 6, dcompF GT (callF TT (k + 2)) (.var 1) (.call 12 [.var 1]) (.v 1) [1] [f.toD, .unset] (.str [97 + i.val]) s = .ok (.str [97 + i.val], .int (ltab i.val : Nat)) s := by
    intro i
    walk_at "ev"
    rw [letterTable_ok i k s]
    walk_at "ev"
  have e : dcL (dcompF GT (callF TT (k + 2)) (.var 1) (.call 12 [.var 1]) (.v 1) [1] [f.toD, .unset]) (LETT.map fun c => D.str [c]) [] [] s = .ok KN s := by
    show dcL _ [.str [97 + (0 : Fin 6).val], .str [97 + (1 : Fin 6).val], .str [97 + (2 : Fin 6).val], .str [97 + (3 : Fin 6).val], .str [97 + (4 : Fin 6).val], .str [97 + (5 : Fin 6).val]] [] [] s = _
    rw [dcL_str (key 0) (by decide), dcL_str (key 1) (by decide), dcL_str (key 2) (by decide), dcL_str (key 3) (by decide), dcL_str (key 4) (by decide), dcL_str (key 5) (by decide)]
    rfl
  rw [e]
  walk_at "ev"
  rw [tableBy_ok f (k + 2) s (by omega)]
  walk_at "ev"
theorem ltab_bit : ∀ (i : Fin 6) (n : Fin 64), (ltab i.val).testBit n.val = n.val.testBit i.val := by decide +kernel
theorem ltab_lt : ∀ i : Fin 6, ltab i.val < 2 ^ 64 := by decide +kernel
theorem ful_bit : ∀ n : Fin 64, FUL.testBit n.val = true := by decide +kernel
theorem tb_lt : ∀ f : Fm, tb f < 2 ^ 64
  | .lt i => ltab_lt i
  | .nt f => Nat.xor_lt_two_pow (by decide) (tb_lt f)
  | .bn o f g => by
    cases o
    · exact Nat.or_lt_two_pow (tb_lt f) (tb_lt g)
    · exact Nat.and_lt_two_pow _ (tb_lt g)
theorem tb_bit : ∀ (f : Fm) (n : Fin 64), (tb f).testBit n.val = f.ev (lot n.val)
  | .lt i, n => by
    rw [tb, ltab_bit, Fm.ev, mem_lot _ _ i.isLt]
  | .nt f, n => by
    rw [tb, Nat.testBit_xor, ful_bit, tb_bit f n, Fm.ev, Bool.true_xor]
  | .bn o f g, n => by
    cases o
    · simp only [tb, Fm.ev, Bool.false_eq_true, if_false, Nat.testBit_or, tb_bit f n, tb_bit g n]
    · simp only [tb, Fm.ev, if_true, Nat.testBit_and, tb_bit f n, tb_bit g n]
/-- the column of values -/
def col (f : Fm) : List Bool := INS.map f.ev
theorem tb_eq (f g : Fm) : tb f = tb g ↔ ∀ t ∈ INS, f.ev t = g.ev t := by
  constructor
  · intro h t ht
    obtain ⟨n, rfl⟩ := ins_lots t ht
    rw [← tb_bit, ← tb_bit, h]
  · intro h
    refine Nat.eq_of_testBit_eq fun i => ?_
    by_cases hi : i < 64
    · have := h _ (lots_all ⟨i, hi⟩)
      rw [← tb_bit f ⟨i, hi⟩, ← tb_bit g ⟨i, hi⟩] at this
      exact this
    · rw [Nat.testBit_lt_two_pow (Nat.lt_of_lt_of_le (tb_lt f) (Nat.pow_le_pow_right (by decide) (by omega))), Nat.testBit_lt_two_pow (Nat.lt_of_lt_of_le (tb_lt g) (Nat.pow_le_pow_right (by decide) (by omega)))]
def num (t : Txt) : Nat := (t.map fun c => 2 ^ (c - 97)).sum
theorem num_lot : ∀ n : Fin 64, num (lot n.val) = n.val := by decide +kernel
theorem occ_let : ∀ i : Fin 6, Builtin.Str.occurrences (SX.S [97, 98, 99, 100, 101, 102]) (SX.S [97 + i.val]) 0 6 1 = [i.val] := by decide +kernel
theorem okIn_let {t : Txt} (h : okIn t = true) : ∀ c ∈ t, ∃ i : Fin 6, c = 97 + i.val := by
  intro c hc
  unfold okIn at h
  simp only [Bool.and_eq_true, List.all_eq_true, decide_eq_true_eq] at h
  have := h.1 c hc
  simp only [List.mem_cons, List.not_mem_nil, or_false] at this
  exact ⟨⟨c - 97, by omega⟩, by show c = 97 + (c - 97); omega⟩
theorem numberOf_ok (t : Txt) (h : okIn t = true) (k : Nat) (s : Sto) : callF TT (k + 1) F_number_of [.str t] s = .ok (.int (num t : Nat)) s := by
  rw [c10, B10]
  walk_at "ev"
  rw [fm_map _ (fun c => D.str [c]) (fun c => D.int ((2 ^ (c - 97) : Nat) : Int)) s t fun c hc => by
    obtain ⟨i, rfl⟩ := okIn_let h c hc
    walk_at "ev"
    rw [occ_let]
    show ((((R.ok (D.int ((i.val : Nat) : Int)) s).bind fun y s2 => opBin .LShift (.int 1) y s2).bind fun y s4 => R.ok (some y) s4)) = _
    walk_at "ev"
    rw [shlR_ok 1 i.val (by omega) (by decide)]
    walk_at "ev"
    rw [Int.one_mul, Nat.add_sub_cancel_left, Int.natCast_pow]; rfl]
  walk_at "ev"
  rw [ints_map fun c : Nat => ((2 ^ (c - 97) : Nat) : Int)]
  walk_at "ev"
  have := sum_cast (t.map fun c => 2 ^ (c - 97))
  rw [List.map_map] at this
  rw [show (fun c : Nat => ((2 ^ (c - 97) : Nat) : Int)) = ((fun n : Nat => ((n : Nat) : Int)) ∘ fun c => 2 ^ (c - 97)) from rfl, this]
  rfl

end Fv.Fw
end

section
set_option Elab.async false
set_option linter.all false
set_option maxRecDepth 100000
set_option maxHeartbeats 4000000
set_option autoImplicit false
namespace Fv.Fw
open PySem
local macro_rules | `(tactic| walk_at "ev") => `(tactic| simp -implicitDefEqProofs only [wp_ok, wp_bind, wp_noErr, wp_endF, bind_ok, bind_err, bind_bad, noErr_ok, getV_z, getV_s, retD_non, retD_bl, retD_int, retD_str, retD_tup, retD_lst, retD_dic, retD_scr, retD_fn, retD_obj, retD_clo, e_var, e_non, e_bl, e_int, e_str, e_glob, e_fnv, e_tup, e_lst, e_lstN, e_bin, iteD_t, iteD_f, e_neg, e_not, e_and, e_or, e_cmp, e_chain, e_ite, e_call, callD_fn, callD_clo, e_callV, e_f1, e_f2, e_isin, e_idx, e_dget, e_m1, e_sl, e_comp, e_dcomp, e_callL, es_nil, es_cons, o_none, o_some, c_none, c_some, i_seq, i_rng1, i_rng2, i_zip, i_zip3, i_enum, s_asg, s_asgC, s_unp, s_par, s_setIdx, s_expr, s_iff, s_forr, s_whil, s_ret, s_retN, s_pass, s_cont, s_brk, s_raise, ss_nil, ss_cons, seqK_nx, seqK_ret, seqK_bk, seqK_ct, endF_nx, endF_ret, endF_err, forL_nil, fm_nil, fm_cons, compF, dcompF, bt_v, bt_tt, bt_tl, bts_nil, bts_cons, aa_nil, aa_cons, putV_z, putV_s, consO_some, withE_some, ifB_t, ifB_f, wipeD_nil, wipeD_cons, List.set_cons_zero, List.set_cons_succ, GT, noClo, noClos, noClos_strs, noClos_ints, noClos_bls, Bool.not_true, Bool.not_false, if_true, if_false, ite_true, ite_false, Bool.and_true, Bool.false_and, Bool.and_false, Bool.true_or, Bool.false_or, Bool.or_true, Bool.or_false, Bool.true_and, Bool.and_self, Option.bind_some, Bool.false_eq_true, List.length_cons, List.length_nil, eq_self, decide_true, decide_false, Nat.zero_add, Nat.reduceAdd, Int.cast_ofNat_Int, BEq.rfl, Int.reduceBEq, Int.reduceLT, Int.reduceLE, Int.lt_irrefl, Int.reduceAdd, Int.reduceSub, Int.reduceMul, Int.reduceNeg, Nat.reduceEqDiff, List.cons.injEq, reduceCtorEq, and_self, and_true, true_and, and_false, false_and, Nat.succ_ne_self, optC_some, optC_none, Nat.reduceSub, Nat.reduceMul, Nat.reduceLeDiff, LIM, isD_tuple_non, isD_tuple_bl, isD_tuple_int, isD_tuple_str, isD_tuple_tup, isD_tuple_lst, isD_str_non, isD_str_bl, isD_str_int, isD_str_str, isD_str_tup, isD_str_lst, isD_int_non, isD_int_bl, isD_int_int, isD_int_str, isD_int_tup, isD_int_lst, isD_bool_non, isD_bool_bl, isD_bool_int, isD_bool_str, isD_bool_tup, isD_bool_lst, opB_Add, opB_Sub, opB_BitAnd, opB_BitOr, opB_BitXor, opB_AddB, opB_SubB, opB_AddS, tryR_ok, s_tryN, s_tryT, opB_AddL, opB_AddT, opB_Mul, opB_MulL, opB_MulT, opB_FloorDiv, opB_Mod, opB_Pow, opB_LShift, opB_RShift, opC_Lt, opC_LtE, opC_Gt, opC_GtE, opC_LtS, opC_IsB, opC_IsNotB, opC_IsN_non, opC_IsNotN_non, opC_IsN_bl, opC_IsNotN_bl, opC_IsN_int, opC_IsNotN_int, opC_IsN_str, opC_IsNotN_str, opC_IsN_tup, opC_IsNotN_tup, opC_IsN_lst, opC_IsNotN_lst, opC_EqS, opC_NeS, opC_EqI, opC_NeI, opC_EqB, opC_NeB, opC_InL, opC_NotInL, opC_InT, opC_NotInT, opC_InS, opC_NotInS, opF_lenS, opF_lenL, opF_lenT, opF_lenC, opF_sum, opF_max, opF_all, opF_any, opF_abs, opF_int, opF_intB, opF_listL, opF_listT, opF_listS, opF_tupL, opF_tupT, opF_sorted, opF_max2, opF_min2, opA_L, opA_T, opA_S, opA_C, opD_D, opS_L, opS_T, opS_S, opM_join, opM_index, its_non, its_bl, its_int, its_tup, its_lst, its_scr, its_fn, its_str, enu_lst, enu_str, zip_lst_lst, zip3_lst_lst_lst, zip3_lst_lst_tup, zip3_lst_lst_str, zip_lst_tup, zip3_lst_tup_lst, zip3_lst_tup_tup, zip3_lst_tup_str, zip_lst_str, zip3_lst_str_lst, zip3_lst_str_tup, zip3_lst_str_str, zip_tup_lst, zip3_tup_lst_lst, zip3_tup_lst_tup, zip3_tup_lst_str, zip_tup_tup, zip3_tup_tup_lst, zip3_tup_tup_tup, zip3_tup_tup_str, zip_tup_str, zip3_tup_str_lst, zip3_tup_str_tup, zip3_tup_str_str, zip_str_lst, zip3_str_lst_lst, zip3_str_lst_tup, zip3_str_lst_str, zip_str_tup, zip3_str_tup_lst, zip3_str_tup_tup, zip3_str_tup_str, zip_str_str, zip3_str_str_lst, zip3_str_str_tup, zip3_str_str_str, rng1_int, rng2_int, intO_int, blC_bl, notD_bl, negD_int, optN_some, isStr_str, optR_some, ints_nil, ints_cons, bls_nil, bls_cons, strs_nil, strs_cons, sumR_some, maxR_some, allR_some, anyR_some, joinR_some, optR_some, at_0, at_1, at_2, at_3, cut_1, cut_1n, cut_hd, Option.map_some])
open Fm
local macro_rules | `(tactic| walk_at "fm") => `(tactic| (walk_at "ev"; try simp only [retD_toD, noClo_toD, bind_ok]))
theorem isTrue_ok : ∀ (f : Fm) (t : Txt) (k : Nat) (s : Sto), f.ht < k → callF TT k F_is_true [f.toD, .str t] s = .ok (.bl (f.ev t)) s := by
  intro f t
  induction f with
  | lt i =>
    intro k s h
    obtain ⟨k, rfl⟩ := ex1 h
    rw [c15, B15, toD]
    walk_at "ev"
    rfl
  | nt f ih =>
    intro k s h
    simp only [ht] at h
    obtain ⟨k, rfl⟩ := ex1 h
    rw [c15, B15, toD]
    walk_at "fm"
    rw [ih k s (by omega)]
    walk_at "ev"
    rfl
  | bn o f g ih1 ih2 =>
    intro k s h
    simp only [ht] at h
    obtain ⟨k, rfl⟩ := ex1 h
    rw [c15, B15, toD]
    walk_at "fm"
    rw [ih1 k s (by omega)]
    walk_at "fm"
    rw [ih2 k s (by omega)]
    walk_at "ev"
    simp only [decide_eq_false (word_ne o), word_and]
    cases o
    · walk_at "ev"
      simp [Fm.ev]
    · walk_at "ev"
      simp [Fm.ev]
theorem truthP_ok (f : Fm) (h : isF f.toD = true) (t : Txt) (hi : okIn t = true) (k : Nat) (s : Sto) (hk : 65 < k) : callF TT k F_truth [f.toD, .str t] s = .ok (.bl (f.ev t)) s := by
  obtain ⟨k, rfl⟩ := ex1 hk
  obtain ⟨k, rfl⟩ : ∃ j, k = j + 2 := ⟨k - 2, by omega⟩
  have hh := isF_ht h
  rw [c20, B20]
  walk_at "fm"
  rw [need_ok f h (k + 2) s (by omega)]
  walk_at "fm"
  rw [needI_ok t hi]
  walk_at "fm"
  rw [isTrue_ok f t (k + 2) s (by omega)]
  walk_at "ev"
theorem natBeq (a b : Nat) : (((a : Nat) : Int) == ((b : Nat) : Int)) = decide (a = b) := by
  by_cases h : a = b
  · subst h; simp
  · rw [decide_eq_false h]
    apply beq_eq_false_iff_ne.mpr
    omega
def alikeB (f g : Fm) : Bool := decide (∀ t ∈ INS, f.ev t = g.ev t)
theorem alikeP_ok (f g : Fm) (h : isF f.toD = true) (hg : isF g.toD = true) (k : Nat) (s : Sto) (hk : 65 < k) : callF TT k F_alike [f.toD, g.toD] s = .ok (.bl (alikeB f g)) s := by
  obtain ⟨k, rfl⟩ := ex1 hk
  have hh := isF_ht h
  have hh2 := isF_ht hg
  rw [c21, B21]
  walk_at "fm"
  rw [need_ok f h k s (by omega)]
  walk_at "fm"
  rw [need_ok g hg k s (by omega)]
  walk_at "fm"
  rw [tableOf_ok f k s (by omega)]
  walk_at "fm"
  rw [tableOf_ok g k s (by omega)]
  walk_at "ev"
  rw [natBeq]
  congr 3
  exact propext (tb_eq f g)
def partL (f g : Fm) : List Txt := INS.filter fun t => f.ev t != g.ev t
def partD (f g : Fm) : D := match partL f g with
  | [] => .non
  | t :: _ => .str t
theorem firstOf_ok (f g : Fm) (k : Nat) (s : Sto) (hk : 4 < k) : callF TT k F_first_of [.int ((tb f ^^^ tb g : Nat) : Int)] s = .ok (partD f g) s := by
  obtain ⟨k, rfl⟩ := ex1 hk
  obtain ⟨k, rfl⟩ : ∃ j, k = j + 2 := ⟨k - 2, by omega⟩
  rw [c16, B16]
  walk_at "ev"
  rw [allInputs_ok]
  walk_at "ev"
  rw [fm_filter _ D.str (fun t => f.ev t != g.ev t) D.str s INS fun t ht => by
    walk_at "ev"
    rw [numberOf_ok t (ins_ok t ht)]
    walk_at "ev"
    rw [shrR_ok]
    walk_at "ev"
    rw [modR_ok (by decide)]
    walk_at "ev"
    obtain ⟨n, rfl⟩ := ins_lots t ht
    rw [num_lot, bit_int, Nat.testBit_xor, tb_bit, tb_bit]
    cases f.ev (lot n.val) <;> cases g.ev (lot n.val) <;> rfl]
  walk_at "ev"
  rw [opC_NeP (by simp only [plain]; exact plains_map _ (fun _ => rfl) _) rfl (by simp [dep, deps])]
  walk_at "ev"
  show endF _ = R.ok (match partL f g with
    | [] => D.non
    | t :: _ => D.str t) s
  rw [show INS.filter (fun t => f.ev t != g.ev t) = partL f g from rfl]
  cases partL f g with
  | nil => rfl
  | cons t r =>
    simp only [List.map_cons, eqD, eqDs]
    walk_at "ev"
theorem partingP_ok (f g : Fm) (h : isF f.toD = true) (hg : isF g.toD = true) (k : Nat) (s : Sto) (hk : 65 < k) : callF TT k F_parting [f.toD, g.toD] s = .ok (partD f g) s := by
  obtain ⟨k, rfl⟩ := ex1 hk
  have hh := isF_ht h
  have hh2 := isF_ht hg
  have hn : noClo (partD f g) = true := by
    unfold partD
    split <;> rfl
  rw [c22, B22]
  walk_at "fm"
  rw [need_ok f h k s (by omega)]
  walk_at "fm"
  rw [need_ok g hg k s (by omega)]
  walk_at "fm"
  rw [tableOf_ok f k s (by omega)]
  walk_at "fm"
  rw [tableOf_ok g k s (by omega)]
  walk_at "ev"
  rw [bXor, firstOf_ok f g k s (by omega)]
  walk_at "ev"
  rw [hn]; rfl

end Fv.Fw
end

section
set_option Elab.async false
set_option linter.all false
set_option maxRecDepth 100000
set_option maxHeartbeats 4000000
set_option autoImplicit false
namespace Fv.Fw
open PySem
local macro_rules | `(tactic| walk_at "ev") => `(tactic| simp -implicitDefEqProofs only [wp_ok, wp_bind, wp_noErr, wp_endF, bind_ok, bind_err, bind_bad, noErr_ok, getV_z, getV_s, retD_non, retD_bl, retD_int, retD_str, retD_tup, retD_lst, retD_dic, retD_scr, retD_fn, retD_obj, retD_clo, e_var, e_non, e_bl, e_int, e_str, e_glob, e_fnv, e_tup, e_lst, e_lstN, e_bin, iteD_t, iteD_f, e_neg, e_not, e_and, e_or, e_cmp, e_chain, e_ite, e_call, callD_fn, callD_clo, e_callV, e_f1, e_f2, e_isin, e_idx, e_dget, e_m1, e_sl, e_comp, e_dcomp, e_callL, es_nil, es_cons, o_none, o_some, c_none, c_some, i_seq, i_rng1, i_rng2, i_zip, i_zip3, i_enum, s_asg, s_asgC, s_unp, s_par, s_setIdx, s_expr, s_iff, s_forr, s_whil, s_ret, s_retN, s_pass, s_cont, s_brk, s_raise, ss_nil, ss_cons, seqK_nx, seqK_ret, seqK_bk, seqK_ct, endF_nx, endF_ret, endF_err, forL_nil, fm_nil, fm_cons, compF, dcompF, bt_v, bt_tt, bt_tl, bts_nil, bts_cons, aa_nil, aa_cons, putV_z, putV_s, consO_some, withE_some, ifB_t, ifB_f, wipeD_nil, wipeD_cons, List.set_cons_zero, List.set_cons_succ, GT, noClo, noClos, noClos_strs, noClos_ints, noClos_bls, Bool.not_true, Bool.not_false, if_true, if_false, ite_true, ite_false, Bool.and_true, Bool.false_and, Bool.and_false, Bool.true_or, Bool.false_or, Bool.or_true, Bool.or_false, Bool.true_and, Bool.and_self, Option.bind_some, Bool.false_eq_true, List.length_cons, List.length_nil, eq_self, decide_true, decide_false, Nat.zero_add, Nat.reduceAdd, Int.cast_ofNat_Int, BEq.rfl, Int.reduceBEq, Int.reduceLT, Int.reduceLE, Int.lt_irrefl, Int.reduceAdd, Int.reduceSub, Int.reduceMul, Int.reduceNeg, Nat.reduceEqDiff, List.cons.injEq, reduceCtorEq, and_self, and_true, true_and, and_false, false_and, Nat.succ_ne_self, optC_some, optC_none, Nat.reduceSub, Nat.reduceMul, Nat.reduceLeDiff, LIM, isD_tuple_non, isD_tuple_bl, isD_tuple_int, isD_tuple_str, isD_tuple_tup, isD_tuple_lst, isD_str_non, isD_str_bl, isD_str_int, isD_str_str, isD_str_tup, isD_str_lst, isD_int_non, isD_int_bl, isD_int_int, isD_int_str, isD_int_tup, isD_int_lst, isD_bool_non, isD_bool_bl, isD_bool_int, isD_bool_str, isD_bool_tup, isD_bool_lst, opB_Add, opB_Sub, opB_BitAnd, opB_BitOr, opB_BitXor, opB_AddB, opB_SubB, opB_AddS, tryR_ok, s_tryN, s_tryT, opB_AddL, opB_AddT, opB_Mul, opB_MulL, opB_MulT, opB_FloorDiv, opB_Mod, opB_Pow, opB_LShift, opB_RShift, opC_Lt, opC_LtE, opC_Gt, opC_GtE, opC_LtS, opC_IsB, opC_IsNotB, opC_IsN_non, opC_IsNotN_non, opC_IsN_bl, opC_IsNotN_bl, opC_IsN_int, opC_IsNotN_int, opC_IsN_str, opC_IsNotN_str, opC_IsN_tup, opC_IsNotN_tup, opC_IsN_lst, opC_IsNotN_lst, opC_EqS, opC_NeS, opC_EqI, opC_NeI, opC_EqB, opC_NeB, opC_InL, opC_NotInL, opC_InT, opC_NotInT, opC_InS, opC_NotInS, opF_lenS, opF_lenL, opF_lenT, opF_lenC, opF_sum, opF_max, opF_all, opF_any, opF_abs, opF_int, opF_intB, opF_listL, opF_listT, opF_listS, opF_tupL, opF_tupT, opF_sorted, opF_max2, opF_min2, opA_L, opA_T, opA_S, opA_C, opD_D, opS_L, opS_T, opS_S, opM_join, opM_index, its_non, its_bl, its_int, its_tup, its_lst, its_scr, its_fn, its_str, enu_lst, enu_str, zip_lst_lst, zip3_lst_lst_lst, zip3_lst_lst_tup, zip3_lst_lst_str, zip_lst_tup, zip3_lst_tup_lst, zip3_lst_tup_tup, zip3_lst_tup_str, zip_lst_str, zip3_lst_str_lst, zip3_lst_str_tup, zip3_lst_str_str, zip_tup_lst, zip3_tup_lst_lst, zip3_tup_lst_tup, zip3_tup_lst_str, zip_tup_tup, zip3_tup_tup_lst, zip3_tup_tup_tup, zip3_tup_tup_str, zip_tup_str, zip3_tup_str_lst, zip3_tup_str_tup, zip3_tup_str_str, zip_str_lst, zip3_str_lst_lst, zip3_str_lst_tup, zip3_str_lst_str, zip_str_tup, zip3_str_tup_lst, zip3_str_tup_tup, zip3_str_tup_str, zip_str_str, zip3_str_str_lst, zip3_str_str_tup, zip3_str_str_str, rng1_int, rng2_int, intO_int, blC_bl, notD_bl, negD_int, optN_some, isStr_str, optR_some, ints_nil, ints_cons, bls_nil, bls_cons, strs_nil, strs_cons, sumR_some, maxR_some, allR_some, anyR_some, joinR_some, optR_some, at_0, at_1, at_2, at_3, cut_1, cut_1n, cut_hd, Option.map_some])
open Fm
local macro_rules | `(tactic| walk_at "fm") => `(tactic| (walk_at "ev"; try simp only [retD_toD, noClo_toD, bind_ok]))
theorem isLetL_ok (d : D) (hp : plain d = true) (k : Nat) (s : Sto) : callF TT (k + 1) F_law_is_letter [d] s = .ok (.bl (isLet d)) s := by
  rw [c27, B27]
  cases d <;> first | (cases hp; done) | skip
  case str t =>
    walk_at "ev"
    rw [inR_ok rfl rfl (by simp [dep])]
    walk_at "ev"
    rcases t with _ | ⟨c, _ | ⟨d, t⟩⟩
    · rfl
    · show R.ok (D.bl (([97, 98, 99, 100, 101, 102].map fun c => D.str [c]).any fun z => eqD z (.str [c]))) s = R.ok (D.bl (decide (97 ≤ c) && decide (c < 103))) s
      rw [← letT]
      congr 2
      simp only [List.map_cons, List.map_nil, List.any_cons, List.any_nil, eqD, List.cons.injEq, and_true, Bool.or_false, List.mem_cons, List.not_mem_nil, or_false, Bool.decide_or]
      simp only [eq_comm]
    · simp [eqD, isLet]
  all_goals walk_at "ev"; try rfl
theorem shp_not (x : D) : shp (.tup [.str tNot, x]) = shp x := by
  unfold shp
  rw [ofD_tup, ofT_not]
  cases ofD x <;> rfl
theorem shp_bin (o : Bool) (x y : D) : shp (.tup [.str (if o then tAnd else tOr), x, y]) = (shp x && shp y) := by
  unfold shp
  rw [ofD_tup, ofT_bin]
  cases ofD x with
  | none => rfl
  | some f => cases ofD y <;> rfl
theorem shp_no {xs : List D} (h1 : ∀ x, xs ≠ [.str tNot, x]) (h2 : ∀ x y (o : Bool), xs ≠ [.str (if o then tAnd else tOr), x, y]) : shp (.tup xs) = false := by
  unfold shp
  rw [ofD_tup, ofT_no h1 h2]; rfl
theorem eq_nil_t {x : D} (hx : plain x = true) (r : List D) (hr : plains r = true) (s : Sto) : opCmp .Eq (.lst (x :: r)) (.lst []) s = .ok (.bl false) s := by
  rw [opC_EqP (by simp only [plain, plains, hx, hr, Bool.and_self]) rfl (by simp only [dep, deps]; omega)]
  rfl
theorem eq_nil_n (s : Sto) : opCmp .Eq (.lst []) (.lst []) s = .ok (.bl true) s := rfl
theorem isLet_shp0 {d : D} (hl : ∀ xs, d ≠ .tup xs) : isLet d = shp d := by
  rw [isLet_shp hl 0]
  unfold shpN shp
  cases q : ofD d with
  | none => rfl
  | some f =>
    have := toD_ofD q
    subst this
    cases f with
    | lt i => rfl
    | nt f => exact absurd rfl (hl _)
    | bn o f g => exact absurd rfl (hl _)
/-- the fuel that a look at a value needs -/
theorem shapedL_ok : ∀ (n : Nat) (d : D), dep d ≤ n → plain d = true → ∀ (k : Nat) (s : Sto), n + 1 < k → callF TT k F_law_shaped [d] s = .ok (.bl (shp d)) s := by
  intro n
  induction n with
  | zero =>
    intro d hd hp k s h
    obtain ⟨k, rfl⟩ := ex1 h
    obtain ⟨k, rfl⟩ : ∃ j, k = j + 1 := ⟨k - 1, by omega⟩
    rw [c28, B28]
    have hl : ∀ xs, d ≠ .tup xs := by
      rintro xs rfl
      simp [dep] at hd
    have e : isLet d = shp d := isLet_shp0 hl
    cases d <;> first | (cases hp; done) | skip
    case tup xs => exact absurd rfl (hl _)
    all_goals
      walk_at "ev"
      simp only [isLetL_ok _ hp]
      walk_at "ev"
      rw [e]
  | succ n ih =>
    intro d hd hp k s h
    obtain ⟨k, rfl⟩ := ex1 h
    obtain ⟨k, rfl⟩ : ∃ j, k = j + 1 := ⟨k - 1, by omega⟩
    rw [c28, B28]
    cases d <;> first | (cases hp; done) | skip
    case tup xs =>
      simp only [plain] at hp
      simp only [dep] at hd
      walk_at "ev"
      rcases xs with _ | ⟨x, _ | ⟨y, r⟩⟩
      · rw [shp_no (by simp) (by simp)]; rfl
      · rw [shp_no (by simp) (by simp)]; rfl
      · simp only [plains, Bool.and_eq_true] at hp
        simp only [deps] at hd
        obtain ⟨hx, hy, hr⟩ := hp
        have h2 : decide ((((x :: y :: r).length : Nat) : Int) < 2) = false := by
          apply decide_eq_false; simp only [List.length_cons]; omega
        rw [h2]
        walk_at "ev"
        cases x <;> first | (cases hx; done) | skip
        case str w =>
          walk_at "ev"
          by_cases hw : w = tNot
          · subst hw
            walk_at "ev"
            rcases r with _ | ⟨z, r⟩
            · walk_at "ev"
              rw [retD_plain hy]
              walk_at "ev"
              rw [ih y (by omega) hy (k + 1) s (by omega), shp_not]
              cases shp y with
              | true =>
                walk_at "ev"
                rw [eq_nil_n]
                walk_at "ev"
              | false =>
                walk_at "ev"
                rw [retD_plain hy]
                walk_at "ev"
                rw [eq_nil_t hy [] rfl]
                walk_at "ev"
            · have e : ((((z :: r).length + 1 + 1 : Nat) : Int) == 2) = false := by
                apply beq_eq_false_iff_ne.mpr; simp only [List.length_cons]; omega
              rw [e]
              walk_at "ev"
              rw [inR_ok rfl rfl (by simp [dep])]
              rw [show ([D.str [97, 110, 100], D.str [111, 114]].any fun z => eqD z (D.str tNot)) = false from rfl]
              rw [shp_no (by simp) (by intro a b o; cases o <;> simp)]; rfl
          · rw [eq_str_false hw]
            walk_at "ev"
            rw [inR_ok rfl rfl (by simp [dep])]
            by_cases hw2 : ∃ o : Bool, w = if o = true then tAnd else tOr
            · obtain ⟨o, rfl⟩ := hw2
              have e : ([D.str [97, 110, 100], D.str [111, 114]].any fun z => eqD z (D.str (if o = true then tAnd else tOr))) = true := by cases o <;> rfl
              rw [e]
              walk_at "ev"
              rcases r with _ | ⟨z, _ | ⟨u, r⟩⟩
              · rw [shp_no (by simp [hw]) (by simp)]; rfl
              · rw [shp_bin]
                simp only [plains, Bool.and_true] at hr
                simp only [deps] at hd
                walk_at "ev"
                rw [retD_plain hy]
                walk_at "ev"
                rw [ih y (by omega) hy (k + 1) s (by omega)]
                cases shp y with
                | true =>
                  walk_at "ev"
                  rw [retD_plain hr]
                  walk_at "ev"
                  rw [ih z (by omega) hr (k + 1) s (by omega)]
                  cases shp z with
                  | true =>
                    walk_at "ev"
                    rw [eq_nil_n]
                    walk_at "ev"
                  | false =>
                    walk_at "ev"
                    rw [retD_plain hr]
                    walk_at "ev"
                    rw [eq_nil_t hr [] rfl]
                    walk_at "ev"
                | false =>
                  walk_at "ev"
                  rw [retD_plain hy]
                  walk_at "ev"
                  rw [retD_plain hr]
                  walk_at "ev"
                  rw [ih z (by omega) hr (k + 1) s (by omega)]
                  cases shp z with
                  | true =>
                    walk_at "ev"
                    rw [eq_nil_t hy [] rfl]
                    walk_at "ev"
                  | false =>
                    walk_at "ev"
                    rw [retD_plain hr]
                    walk_at "ev"
                    rw [eq_nil_t hy [z] (by simp only [plains, hr, Bool.and_self])]
                    walk_at "ev"
              · have e : ((((z :: u :: r).length + 1 + 1 : Nat) : Int) == 3) = false := by
                  apply beq_eq_false_iff_ne.mpr; simp only [List.length_cons]; omega
                rw [e, shp_no (by simp) (by simp)]; rfl
            · have e : ([D.str [97, 110, 100], D.str [111, 114]].any fun z => eqD z (D.str w)) = false := by
                simp only [List.any_cons, List.any_nil, eqD, Bool.or_false, Bool.or_eq_false_iff, decide_eq_false_iff_not]
                exact ⟨fun q => hw2 ⟨true, q.symm⟩, fun q => hw2 ⟨false, q.symm⟩⟩
              rw [e, shp_no (by simp [hw]) (fun a b o q => hw2 ⟨o, by simp at q; exact q.1⟩)]
              rfl
        all_goals
          walk_at "ev"
          rw [shp_no (by simp) (by simp)]
    all_goals
      walk_at "ev"
      simp only [isLetL_ok _ hp]
      walk_at "ev"
      rw [isLet_shp0 (by simp)]
theorem lettersL_ok : ∀ (f : Fm) (k : Nat) (s : Sto), f.ht < k → f.leaves ≤ 100000 → callF TT k F_law_letters [f.toD] s = .ok (.lst (f.lets.map fun i => D.str [97 + i.val])) s := by
  intro f
  induction f with
  | lt i =>
    intro k s h hl
    obtain ⟨k, rfl⟩ := ex1 h
    rw [c29, B29, toD]
    walk_at "ev"
    rfl
  | nt f ih =>
    intro k s h hl
    simp only [ht] at h
    simp only [leaves] at hl
    obtain ⟨k, rfl⟩ := ex1 h
    rw [c29, B29, toD]
    walk_at "fm"
    rw [show forL (forB NT GT (callF TT k) (.v 2) [.asg 1 (.bin .Add (.var 1) (.call 29 [.var 2]))]) [f.toD] [.tup [.str tNot, f.toD], .lst [], .unset] s = .ok (.nx [.tup [.str tNot, f.toD], .lst (f.lets.map fun i => D.str [97 + i.val]), f.toD]) s by
      rw [forL_cons, forB]
      walk_at "fm"
      rw [ih k s (by omega) hl]
      walk_at "ev"
      rw [if_pos (by simp [lets_len]; omega)]
      walk_at "ev"
      simp only [List.nil_append, forK_nx, forL_nil]]
    walk_at "ev"
    rw [noClos_map _ (fun _ => rfl)]
    rfl
  | bn o f g ih1 ih2 =>
    intro k s h hl
    simp only [ht] at h
    simp only [leaves] at hl
    obtain ⟨k, rfl⟩ := ex1 h
    rw [c29, B29, toD]
    walk_at "fm"
    rw [show forL (forB NT GT (callF TT k) (.v 2) [.asg 1 (.bin .Add (.var 1) (.call 29 [.var 2]))]) [f.toD, g.toD] [.tup [.str (if o then tAnd else tOr), f.toD, g.toD], .lst [], .unset] s = .ok (.nx [.tup [.str (if o then tAnd else tOr), f.toD, g.toD], .lst ((f.lets ++ g.lets).map fun i => D.str [97 + i.val]), g.toD]) s by
      rw [forL_cons, forB]
      walk_at "fm"
      rw [ih1 k s (by omega) (by omega)]
      walk_at "ev"
      rw [if_pos (by simp [lets_len]; omega)]
      walk_at "ev"
      simp only [List.nil_append, forK_nx]
      rw [forL_cons, forB]
      walk_at "fm"
      rw [ih2 k s (by omega) (by omega)]
      walk_at "ev"
      rw [if_pos (by simp [lets_len]; omega)]
      walk_at "ev"
      simp only [forK_nx, forL_nil, List.map_append]]
    walk_at "ev"
    rw [noClos_map _ (fun _ => rfl)]
    rfl

end Fv.Fw
end

section
set_option Elab.async false
set_option linter.all false
set_option maxRecDepth 100000
set_option maxHeartbeats 4000000
set_option autoImplicit false
namespace Fv.Fw
open PySem
local macro_rules | `(tactic| walk_at "ev") => `(tactic| simp -implicitDefEqProofs only [wp_ok, wp_bind, wp_noErr, wp_endF, bind_ok, bind_err, bind_bad, noErr_ok, getV_z, getV_s, retD_non, retD_bl, retD_int, retD_str, retD_tup, retD_lst, retD_dic, retD_scr, retD_fn, retD_obj, retD_clo, e_var, e_non, e_bl, e_int, e_str, e_glob, e_fnv, e_tup, e_lst, e_lstN, e_bin, iteD_t, iteD_f, e_neg, e_not, e_and, e_or, e_cmp, e_chain, e_ite, e_call, callD_fn, callD_clo, e_callV, e_f1, e_f2, e_isin, e_idx, e_dget, e_m1, e_sl, e_comp, e_dcomp, e_callL, es_nil, es_cons, o_none, o_some, c_none, c_some, i_seq, i_rng1, i_rng2, i_zip, i_zip3, i_enum, s_asg, s_asgC, s_unp, s_par, s_setIdx, s_expr, s_iff, s_forr, s_whil, s_ret, s_retN, s_pass, s_cont, s_brk, s_raise, ss_nil, ss_cons, seqK_nx, seqK_ret, seqK_bk, seqK_ct, endF_nx, endF_ret, endF_err, forL_nil, fm_nil, fm_cons, compF, dcompF, bt_v, bt_tt, bt_tl, bts_nil, bts_cons, aa_nil, aa_cons, putV_z, putV_s, consO_some, withE_some, ifB_t, ifB_f, wipeD_nil, wipeD_cons, List.set_cons_zero, List.set_cons_succ, GT, noClo, noClos, noClos_strs, noClos_ints, noClos_bls, Bool.not_true, Bool.not_false, if_true, if_false, ite_true, ite_false, Bool.and_true, Bool.false_and, Bool.and_false, Bool.true_or, Bool.false_or, Bool.or_true, Bool.or_false, Bool.true_and, Bool.and_self, Option.bind_some, Bool.false_eq_true, List.length_cons, List.length_nil, eq_self, decide_true, decide_false, Nat.zero_add, Nat.reduceAdd, Int.cast_ofNat_Int, BEq.rfl, Int.reduceBEq, Int.reduceLT, Int.reduceLE, Int.lt_irrefl, Int.reduceAdd, Int.reduceSub, Int.reduceMul, Int.reduceNeg, Nat.reduceEqDiff, List.cons.injEq, reduceCtorEq, and_self, and_true, true_and, and_false, false_and, Nat.succ_ne_self, optC_some, optC_none, Nat.reduceSub, Nat.reduceMul, Nat.reduceLeDiff, LIM, isD_tuple_non, isD_tuple_bl, isD_tuple_int, isD_tuple_str, isD_tuple_tup, isD_tuple_lst, isD_str_non, isD_str_bl, isD_str_int, isD_str_str, isD_str_tup, isD_str_lst, isD_int_non, isD_int_bl, isD_int_int, isD_int_str, isD_int_tup, isD_int_lst, isD_bool_non, isD_bool_bl, isD_bool_int, isD_bool_str, isD_bool_tup, isD_bool_lst, opB_Add, opB_Sub, opB_BitAnd, opB_BitOr, opB_BitXor, opB_AddB, opB_SubB, opB_AddS, tryR_ok, s_tryN, s_tryT, opB_AddL, opB_AddT, opB_Mul, opB_MulL, opB_MulT, opB_FloorDiv, opB_Mod, opB_Pow, opB_LShift, opB_RShift, opC_Lt, opC_LtE, opC_Gt, opC_GtE, opC_LtS, opC_IsB, opC_IsNotB, opC_IsN_non, opC_IsNotN_non, opC_IsN_bl, opC_IsNotN_bl, opC_IsN_int, opC_IsNotN_int, opC_IsN_str, opC_IsNotN_str, opC_IsN_tup, opC_IsNotN_tup, opC_IsN_lst, opC_IsNotN_lst, opC_EqS, opC_NeS, opC_EqI, opC_NeI, opC_EqB, opC_NeB, opC_InL, opC_NotInL, opC_InT, opC_NotInT, opC_InS, opC_NotInS, opF_lenS, opF_lenL, opF_lenT, opF_lenC, opF_sum, opF_max, opF_all, opF_any, opF_abs, opF_int, opF_intB, opF_listL, opF_listT, opF_listS, opF_tupL, opF_tupT, opF_sorted, opF_max2, opF_min2, opA_L, opA_T, opA_S, opA_C, opD_D, opS_L, opS_T, opS_S, opM_join, opM_index, its_non, its_bl, its_int, its_tup, its_lst, its_scr, its_fn, its_str, enu_lst, enu_str, zip_lst_lst, zip3_lst_lst_lst, zip3_lst_lst_tup, zip3_lst_lst_str, zip_lst_tup, zip3_lst_tup_lst, zip3_lst_tup_tup, zip3_lst_tup_str, zip_lst_str, zip3_lst_str_lst, zip3_lst_str_tup, zip3_lst_str_str, zip_tup_lst, zip3_tup_lst_lst, zip3_tup_lst_tup, zip3_tup_lst_str, zip_tup_tup, zip3_tup_tup_lst, zip3_tup_tup_tup, zip3_tup_tup_str, zip_tup_str, zip3_tup_str_lst, zip3_tup_str_tup, zip3_tup_str_str, zip_str_lst, zip3_str_lst_lst, zip3_str_lst_tup, zip3_str_lst_str, zip_str_tup, zip3_str_tup_lst, zip3_str_tup_tup, zip3_str_tup_str, zip_str_str, zip3_str_str_lst, zip3_str_str_tup, zip3_str_str_str, rng1_int, rng2_int, intO_int, blC_bl, notD_bl, negD_int, optN_some, isStr_str, optR_some, ints_nil, ints_cons, bls_nil, bls_cons, strs_nil, strs_cons, sumR_some, maxR_some, allR_some, anyR_some, joinR_some, optR_some, at_0, at_1, at_2, at_3, cut_1, cut_1n, cut_hd, Option.map_some])
open Fm
local macro_rules | `(tactic| walk_at "fm") => `(tactic| (walk_at "ev"; try simp only [retD_toD, noClo_toD, bind_ok]))
theorem tuplesL_ok : ∀ (f : Fm) (k : Nat) (s : Sto), f.ht < k → callF TT k F_law_tuples [f.toD] s = .ok (.int f.tuples) s := by
  intro f
  induction f with
  | lt i =>
    intro k s h
    obtain ⟨k, rfl⟩ := ex1 h
    rw [c30, B30, toD]
    walk_at "ev"
    rfl
  | nt f ih =>
    intro k s h
    simp only [ht] at h
    obtain ⟨k, rfl⟩ := ex1 h
    rw [c30, B30, toD]
    walk_at "fm"
    rw [ih k s (by omega)]
    walk_at "ev"
    simp [tuples]; omega
  | bn o f g ih1 ih2 =>
    intro k s h
    simp only [ht] at h
    obtain ⟨k, rfl⟩ := ex1 h
    rw [c30, B30, toD]
    walk_at "fm"
    rw [ih1 k s (by omega)]
    walk_at "fm"
    rw [ih2 k s (by omega)]
    walk_at "ev"
    simp [tuples]; omega
theorem depthL_ok : ∀ (f : Fm) (k : Nat) (s : Sto), f.ht < k → callF TT k F_law_depth [f.toD] s = .ok (.int f.depth) s := by
  intro f
  induction f with
  | lt i =>
    intro k s h
    obtain ⟨k, rfl⟩ := ex1 h
    rw [c31, B31, toD]
    walk_at "ev"
    rfl
  | nt f ih =>
    intro k s h
    simp only [ht] at h
    obtain ⟨k, rfl⟩ := ex1 h
    rw [c31, B31, toD]
    walk_at "fm"
    rw [ih k s (by omega)]
    walk_at "ev"
    simp [depth, maxL]
  | bn o f g ih1 ih2 =>
    intro k s h
    simp only [ht] at h
    obtain ⟨k, rfl⟩ := ex1 h
    rw [c31, B31, toD]
    walk_at "fm"
    rw [ih1 k s (by omega)]
    walk_at "fm"
    rw [ih2 k s (by omega)]
    walk_at "ev"
    simp only [decide_eq_false (word_ne o)]
    walk_at "ev"
    congr 2
    simp only [depth, maxL]
    split <;> omega
theorem letsD_len (f : Fm) : (((f.lets.map fun i => D.str [97 + i.val]).length : Nat) : Int) = (f.leaves : Nat) := by rw [List.length_map, lets_len]
theorem isFormulaL_ok (d : D) (hp : plain d = true) (hs : ∀ f, ofD d = some f → f.leaves ≤ 100000) (k : Nat) (s : Sto) (hk : dep d + 3 < k) : callF TT k F_law_is_formula [d] s = .ok (.bl (isF d)) s := by
  obtain ⟨k, rfl⟩ := ex1 hk
  rw [c32, B32]
  walk_at "ev"
  rw [retD_plain hp]
  walk_at "ev"
  rw [shapedL_ok (dep d) d (Nat.le_refl _) hp k s (by omega)]
  cases h : ofD d with
  | none =>
    rw [show shp d = false by unfold shp; rw [h]; rfl, isF_none h]; rfl
  | some f =>
    rw [show shp d = true by unfold shp; rw [h]; rfl, isF_some h]
    have hl := hs f h
    have e := toD_ofD h
    subst e
    rw [toD_dep] at hk
    walk_at "fm"
    rw [lettersL_ok f k s (by omega) hl]
    walk_at "ev"
    rw [letsD_len, show (40 : Int) = ((40 : Nat) : Int) from rfl, leI]
    by_cases h2 : f.leaves ≤ 40
    · rw [decide_eq_true h2]
      walk_at "fm"
      rw [tuplesL_ok f k s (by omega)]
      walk_at "ev"
      rw [show (60 : Int) = ((60 : Nat) : Int) from rfl, leI]
    · rw [decide_eq_false h2]
      walk_at "ev"
theorem truthL_ok : ∀ (f : Fm) (t : Txt) (k : Nat) (s : Sto), f.ht < k → callF TT k F_law_truth [f.toD, .str t] s = .ok (.bl (f.ev t)) s := by
  intro f t
  induction f with
  | lt i =>
    intro k s h
    obtain ⟨k, rfl⟩ := ex1 h
    rw [c33, B33, toD]
    walk_at "ev"
    rw [inR_ok rfl (by exact plains_map (fun c => D.str [c]) (fun _ => rfl) t) (by simp [dep])]
    walk_at "ev"
    congr 2
    rw [Fm.ev, List.any_map]
    induction t with
    | nil => rfl
    | cons c t ih =>
      rw [List.any_cons, ih]
      simp only [Function.comp, eqD, List.cons.injEq, and_true, List.mem_cons, Bool.decide_or]
      congr 1
      simp only [eq_comm]
  | nt f ih =>
    intro k s h
    simp only [ht] at h
    obtain ⟨k, rfl⟩ := ex1 h
    rw [c33, B33, toD]
    walk_at "fm"
    rw [ih k s (by omega)]
    walk_at "ev"
    rfl
  | bn o f g ih1 ih2 =>
    intro k s h
    simp only [ht] at h
    obtain ⟨k, rfl⟩ := ex1 h
    rw [c33, B33, toD]
    walk_at "fm"
    rw [ih1 k s (by omega)]
    walk_at "fm"
    simp only [decide_eq_false (word_ne o)]
    walk_at "fm"
    rw [ih2 k s (by omega)]
    walk_at "ev"
    simp only [word_and]
    cases o
    · walk_at "ev"
      rw [Fm.ev]
      cases f.ev t <;> cases g.ev t <;> rfl
    · walk_at "ev"
      rw [Fm.ev]
      cases f.ev t <;> cases g.ev t <;> rfl
def grow (L : List Txt) (c : Nat) : List Txt := L ++ L.map fun t => t ++ [c]
theorem grow_body (L : List Txt) (c : Nat) (hl : L.length ≤ 32) (hL : ∀ t ∈ L, t.length ≤ 6) (x2 : D) (k : Nat) (s : Sto) :
    forB NT GT (callF TT k) (.v 1) [.asg 0 (.bin .Add (.var 0) (.comp (.bin .Add (.var 2) (.var 1)) (.v 2) [2] (.seq (.var 0)) none))] (.str [c]) [.lst (L.map D.str), x2, .unset] s = .ok (.nx [.lst ((grow L c).map D.str), .str [c], .unset]) s := by
  rw [forB]
  walk_at "ev"
  rw [fm_map _ D.str (fun t => D.str (t ++ [c])) s L fun t ht => by
    walk_at "ev"
    rw [if_pos (by have := hL t ht; simp; omega)]
    walk_at "ev"]
  walk_at "ev"
  rw [if_pos (by simp; omega)]
  walk_at "ev"
  simp only [grow, List.map_append, List.map_map]
  rfl
theorem grow_len {L : List Txt} {c n : Nat} (h : L.length ≤ n) : (grow L c).length ≤ 2 * n := by simp [grow]; omega
def G1 := grow [[]] 97
def G2 := grow G1 98
def G3 := grow G2 99
def G4 := grow G3 100
def G5 := grow G4 101
def G6 := grow G5 102
theorem g_sorted : sortT G6 = INS := by decide +kernel
theorem inputsL_ok (k : Nat) (s : Sto) : callF TT (k + 1) F_law_inputs [] s = .ok (.lst (INS.map D.str)) s := by
  rw [c34, B34]
  walk_at "ev"
  simp only [List.map_cons, List.map_nil]
  rw [forL_cons, show D.lst [.str []] = .lst (([[]] : List Txt).map D.str) from rfl, grow_body [[]] 97 (by decide) (by decide)]
  walk_at "ev"
  rw [forK_nx, forL_cons, show grow [[]] 97 = G1 from rfl, grow_body G1 98 (by decide) (by decide)]
  walk_at "ev"
  rw [forK_nx, forL_cons, show grow G1 98 = G2 from rfl, grow_body G2 99 (by decide) (by decide)]
  walk_at "ev"
  rw [forK_nx, forL_cons, show grow G2 99 = G3 from rfl, grow_body G3 100 (by decide) (by decide)]
  walk_at "ev"
  rw [forK_nx, forL_cons, show grow G3 100 = G4 from rfl, grow_body G4 101 (by decide +kernel) (by decide +kernel)]
  walk_at "ev"
  rw [forK_nx, forL_cons, show grow G4 101 = G5 from rfl, grow_body G5 102 (by decide +kernel) (by decide +kernel)]
  walk_at "ev"
  rw [forK_nx, forL_nil, show grow G5 102 = G6 from rfl]
  walk_at "ev"
  rw [show G6 = [] :: G6.tail from rfl, srtR_strs, show ([] : Txt) :: G6.tail = G6 from rfl, g_sorted]
  walk_at "ev"
theorem columnL_ok (f : Fm) (k : Nat) (s : Sto) (hk : f.ht + 2 < k) : callF TT k F_law_column [f.toD] s = .ok (.lst ((col f).map D.bl)) s := by
  obtain ⟨k, rfl⟩ := ex1 hk
  obtain ⟨k, rfl⟩ : ∃ j, k = j + 1 := ⟨k - 1, by omega⟩
  rw [c35, B35]
  walk_at "fm"
  rw [inputsL_ok]
  walk_at "ev"
  rw [fm_map _ D.str (fun t => D.bl (f.ev t)) s INS fun t ht => by
    walk_at "fm"
    rw [truthL_ok f t (k + 1) s (by omega)]
    walk_at "ev"]
  walk_at "ev"
  rw [show INS.map (fun t => D.bl (f.ev t)) = (col f).map D.bl by unfold col; rw [List.map_map]; rfl]
  walk_at "ev"
theorem truly_ok (a b : Bool) (k : Nat) (s : Sto) : callF TT (k + 1) F_law_truly [.bl a, .bl b] s = .ok (.bl (a == b)) s := by
  rw [c26, B26]
  walk_at "ev"

end Fv.Fw
end

section
set_option Elab.async false
set_option linter.all false
set_option maxRecDepth 100000
set_option maxHeartbeats 4000000
set_option autoImplicit false
namespace Fv.Fw
open PySem
local macro_rules | `(tactic| walk_at "ev") => `(tactic| simp -implicitDefEqProofs only [wp_ok, wp_bind, wp_noErr, wp_endF, bind_ok, bind_err, bind_bad, noErr_ok, getV_z, getV_s, retD_non, retD_bl, retD_int, retD_str, retD_tup, retD_lst, retD_dic, retD_scr, retD_fn, retD_obj, retD_clo, e_var, e_non, e_bl, e_int, e_str, e_glob, e_fnv, e_tup, e_lst, e_lstN, e_bin, iteD_t, iteD_f, e_neg, e_not, e_and, e_or, e_cmp, e_chain, e_ite, e_call, callD_fn, callD_clo, e_callV, e_f1, e_f2, e_isin, e_idx, e_dget, e_m1, e_sl, e_comp, e_dcomp, e_callL, es_nil, es_cons, o_none, o_some, c_none, c_some, i_seq, i_rng1, i_rng2, i_zip, i_zip3, i_enum, s_asg, s_asgC, s_unp, s_par, s_setIdx, s_expr, s_iff, s_forr, s_whil, s_ret, s_retN, s_pass, s_cont, s_brk, s_raise, ss_nil, ss_cons, seqK_nx, seqK_ret, seqK_bk, seqK_ct, endF_nx, endF_ret, endF_err, forL_nil, fm_nil, fm_cons, compF, dcompF, bt_v, bt_tt, bt_tl, bts_nil, bts_cons, aa_nil, aa_cons, putV_z, putV_s, consO_some, withE_some, ifB_t, ifB_f, wipeD_nil, wipeD_cons, List.set_cons_zero, List.set_cons_succ, GT, noClo, noClos, noClos_strs, noClos_ints, noClos_bls, Bool.not_true, Bool.not_false, if_true, if_false, ite_true, ite_false, Bool.and_true, Bool.false_and, Bool.and_false, Bool.true_or, Bool.false_or, Bool.or_true, Bool.or_false, Bool.true_and, Bool.and_self, Option.bind_some, Bool.false_eq_true, List.length_cons, List.length_nil, eq_self, decide_true, decide_false, Nat.zero_add, Nat.reduceAdd, Int.cast_ofNat_Int, BEq.rfl, Int.reduceBEq, Int.reduceLT, Int.reduceLE, Int.lt_irrefl, Int.reduceAdd, Int.reduceSub, Int.reduceMul, Int.reduceNeg, Nat.reduceEqDiff, List.cons.injEq, reduceCtorEq, and_self, and_true, true_and, and_false, false_and, Nat.succ_ne_self, optC_some, optC_none, Nat.reduceSub, Nat.reduceMul, Nat.reduceLeDiff, LIM, isD_tuple_non, isD_tuple_bl, isD_tuple_int, isD_tuple_str, isD_tuple_tup, isD_tuple_lst, isD_str_non, isD_str_bl, isD_str_int, isD_str_str, isD_str_tup, isD_str_lst, isD_int_non, isD_int_bl, isD_int_int, isD_int_str, isD_int_tup, isD_int_lst, isD_bool_non, isD_bool_bl, isD_bool_int, isD_bool_str, isD_bool_tup, isD_bool_lst, opB_Add, opB_Sub, opB_BitAnd, opB_BitOr, opB_BitXor, opB_AddB, opB_SubB, opB_AddS, tryR_ok, s_tryN, s_tryT, opB_AddL, opB_AddT, opB_Mul, opB_MulL, opB_MulT, opB_FloorDiv, opB_Mod, opB_Pow, opB_LShift, opB_RShift, opC_Lt, opC_LtE, opC_Gt, opC_GtE, opC_LtS, opC_IsB, opC_IsNotB, opC_IsN_non, opC_IsNotN_non, opC_IsN_bl, opC_IsNotN_bl, opC_IsN_int, opC_IsNotN_int, opC_IsN_str, opC_IsNotN_str, opC_IsN_tup, opC_IsNotN_tup, opC_IsN_lst, opC_IsNotN_lst, opC_EqS, opC_NeS, opC_EqI, opC_NeI, opC_EqB, opC_NeB, opC_InL, opC_NotInL, opC_InT, opC_NotInT, opC_InS, opC_NotInS, opF_lenS, opF_lenL, opF_lenT, opF_lenC, opF_sum, opF_max, opF_all, opF_any, opF_abs, opF_int, opF_intB, opF_listL, opF_listT, opF_listS, opF_tupL, opF_tupT, opF_sorted, opF_max2, opF_min2, opA_L, opA_T, opA_S, opA_C, opD_D, opS_L, opS_T, opS_S, opM_join, opM_index, its_non, its_bl, its_int, its_tup, its_lst, its_scr, its_fn, its_str, enu_lst, enu_str, zip_lst_lst, zip3_lst_lst_lst, zip3_lst_lst_tup, zip3_lst_lst_str, zip_lst_tup, zip3_lst_tup_lst, zip3_lst_tup_tup, zip3_lst_tup_str, zip_lst_str, zip3_lst_str_lst, zip3_lst_str_tup, zip3_lst_str_str, zip_tup_lst, zip3_tup_lst_lst, zip3_tup_lst_tup, zip3_tup_lst_str, zip_tup_tup, zip3_tup_tup_lst, zip3_tup_tup_tup, zip3_tup_tup_str, zip_tup_str, zip3_tup_str_lst, zip3_tup_str_tup, zip3_tup_str_str, zip_str_lst, zip3_str_lst_lst, zip3_str_lst_tup, zip3_str_lst_str, zip_str_tup, zip3_str_tup_lst, zip3_str_tup_tup, zip3_str_tup_str, zip_str_str, zip3_str_str_lst, zip3_str_str_tup, zip3_str_str_str, rng1_int, rng2_int, intO_int, blC_bl, notD_bl, negD_int, optN_some, isStr_str, optR_some, ints_nil, ints_cons, bls_nil, bls_cons, strs_nil, strs_cons, sumR_some, maxR_some, allR_some, anyR_some, joinR_some, optR_some, at_0, at_1, at_2, at_3, cut_1, cut_1n, cut_hd, Option.map_some])
local macro_rules | `(tactic| walk_at "fm") => `(tactic| simp -implicitDefEqProofs only [retD_toD, noClo_toD, wp_ok, wp_bind, wp_noErr, wp_endF, bind_ok, bind_err, bind_bad, noErr_ok, getV_z, getV_s, retD_non, retD_bl, retD_int, retD_str, retD_tup, retD_lst, retD_dic, retD_scr, retD_fn, retD_obj, retD_clo, e_var, e_non, e_bl, e_int, e_str, e_glob, e_fnv, e_tup, e_lst, e_lstN, e_bin, iteD_t, iteD_f, e_neg, e_not, e_and, e_or, e_cmp, e_chain, e_ite, e_call, callD_fn, callD_clo, e_callV, e_f1, e_f2, e_isin, e_idx, e_dget, e_m1, e_sl, e_comp, e_dcomp, e_callL, es_nil, es_cons, o_none, o_some, c_none, c_some, i_seq, i_rng1, i_rng2, i_zip, i_zip3, i_enum, s_asg, s_asgC, s_unp, s_par, s_setIdx, s_expr, s_iff, s_forr, s_whil, s_ret, s_retN, s_pass, s_cont, s_brk, s_raise, ss_nil, ss_cons, seqK_nx, seqK_ret, seqK_bk, seqK_ct, endF_nx, endF_ret, endF_err, forL_nil, fm_nil, fm_cons, compF, dcompF, bt_v, bt_tt, bt_tl, bts_nil, bts_cons, aa_nil, aa_cons, putV_z, putV_s, consO_some, withE_some, ifB_t, ifB_f, wipeD_nil, wipeD_cons, List.set_cons_zero, List.set_cons_succ, GT, noClo, noClos, noClos_strs, noClos_ints, noClos_bls, Bool.not_true, Bool.not_false, if_true, if_false, ite_true, ite_false, Bool.and_true, Bool.false_and, Bool.and_false, Bool.true_or, Bool.false_or, Bool.or_true, Bool.or_false, Bool.true_and, Bool.and_self, Option.bind_some, Bool.false_eq_true, List.length_cons, List.length_nil, eq_self, decide_true, decide_false, Nat.zero_add, Nat.reduceAdd, Int.cast_ofNat_Int, BEq.rfl, Int.reduceBEq, Int.reduceLT, Int.reduceLE, Int.lt_irrefl, Int.reduceAdd, Int.reduceSub, Int.reduceMul, Int.reduceNeg, Nat.reduceEqDiff, List.cons.injEq, reduceCtorEq, and_self, and_true, true_and, and_false, false_and, Nat.succ_ne_self, optC_some, optC_none, Nat.reduceSub, Nat.reduceMul, Nat.reduceLeDiff, LIM, isD_tuple_non, isD_tuple_bl, isD_tuple_int, isD_tuple_str, isD_tuple_tup, isD_tuple_lst, isD_str_non, isD_str_bl, isD_str_int, isD_str_str, isD_str_tup, isD_str_lst, isD_int_non, isD_int_bl, isD_int_int, isD_int_str, isD_int_tup, isD_int_lst, isD_bool_non, isD_bool_bl, isD_bool_int, isD_bool_str, isD_bool_tup, isD_bool_lst, opB_Add, opB_Sub, opB_BitAnd, opB_BitOr, opB_BitXor, opB_AddB, opB_SubB, opB_AddS, tryR_ok, s_tryN, s_tryT, opB_AddL, opB_AddT, opB_Mul, opB_MulL, opB_MulT, opB_FloorDiv, opB_Mod, opB_Pow, opB_LShift, opB_RShift, opC_Lt, opC_LtE, opC_Gt, opC_GtE, opC_LtS, opC_IsB, opC_IsNotB, opC_IsN_non, opC_IsNotN_non, opC_IsN_bl, opC_IsNotN_bl, opC_IsN_int, opC_IsNotN_int, opC_IsN_str, opC_IsNotN_str, opC_IsN_tup, opC_IsNotN_tup, opC_IsN_lst, opC_IsNotN_lst, opC_EqS, opC_NeS, opC_EqI, opC_NeI, opC_EqB, opC_NeB, opC_InL, opC_NotInL, opC_InT, opC_NotInT, opC_InS, opC_NotInS, opF_lenS, opF_lenL, opF_lenT, opF_lenC, opF_sum, opF_max, opF_all, opF_any, opF_abs, opF_int, opF_intB, opF_listL, opF_listT, opF_listS, opF_tupL, opF_tupT, opF_sorted, opF_max2, opF_min2, opA_L, opA_T, opA_S, opA_C, opD_D, opS_L, opS_T, opS_S, opM_join, opM_index, its_non, its_bl, its_int, its_tup, its_lst, its_scr, its_fn, its_str, enu_lst, enu_str, zip_lst_lst, zip3_lst_lst_lst, zip3_lst_lst_tup, zip3_lst_lst_str, zip_lst_tup, zip3_lst_tup_lst, zip3_lst_tup_tup, zip3_lst_tup_str, zip_lst_str, zip3_lst_str_lst, zip3_lst_str_tup, zip3_lst_str_str, zip_tup_lst, zip3_tup_lst_lst, zip3_tup_lst_tup, zip3_tup_lst_str, zip_tup_tup, zip3_tup_tup_lst, zip3_tup_tup_tup, zip3_tup_tup_str, zip_tup_str, zip3_tup_str_lst, zip3_tup_str_tup, zip3_tup_str_str, zip_str_lst, zip3_str_lst_lst, zip3_str_lst_tup, zip3_str_lst_str, zip_str_tup, zip3_str_tup_lst, zip3_str_tup_tup, zip3_str_tup_str, zip_str_str, zip3_str_str_lst, zip3_str_str_tup, zip3_str_str_str, rng1_int, rng2_int, intO_int, blC_bl, notD_bl, negD_int, optN_some, isStr_str, optR_some, ints_nil, ints_cons, bls_nil, bls_cons, strs_nil, strs_cons, sumR_some, maxR_some, allR_some, anyR_some, joinR_some, optR_some, at_0, at_1, at_2, at_3, cut_1, cut_1n, cut_hd, Option.map_some])
local macro_rules | `(tactic| walk_at "t") => `(tactic| try walk_at "fm")
open Fm
/-- a cell draws come from -/
def Vat (n : Nat) (s : Sto) : Prop := ∃ a b : Int, s[n]? = some (.lst [.int a, .int b]) ∧ 0 ≤ a ∧ 0 ≤ b ∧ b < 2147483630
/-- drawn: the vat may be another, all other cells are as they were -/
structure VS (n : Nat) (s s' : Sto) : Prop where
  vat : Vat n s'
  len : s.length ≤ s'.length
  old : ∀ m, m < s.length → m ≠ n → s'[m]? = s[m]?
theorem Vat.lt {n : Nat} {s : Sto} (h : Vat n s) : n < s.length := by
  obtain ⟨a, b, h, _⟩ := h
  exact (List.getElem?_eq_some_iff.mp h).1
theorem VS.rfl {n : Nat} {s : Sto} (h : Vat n s) : VS n s s := ⟨h, Nat.le_refl _, fun _ _ _ => Eq.refl _⟩
theorem VS.trans {n : Nat} {s s1 s2 : Sto} (h : VS n s s1) (h2 : VS n s1 s2) : VS n s s2 := ⟨h2.vat, Nat.le_trans h.len h2.len, fun m q e => (h2.old m (Nat.lt_of_lt_of_le q h.len) e).trans (h.old m q e)⟩
theorem VS.set {n : Nat} {s : Sto} (h : n < s.length) (a b : Int) (ha : 0 ≤ a) (hb : 0 ≤ b) (hb2 : b < 2147483630) : VS n s (s.set n (.lst [.int a, .int b])) := by
  refine ⟨⟨a, b, ?_, ha, hb, hb2⟩, by rw [List.length_set]; exact Nat.le_refl _, fun m q e => ?_⟩
  · rw [List.getElem?_set_self h]
  · rw [List.getElem?_set_ne (Ne.symm e)]
theorem VS.push {n : Nat} {s s' : Sto} (h : VS n s s') (c : Cell) : VS n s (s' ++ [c]) := by
  refine ⟨?_, ?_, fun m q e => ?_⟩
  · obtain ⟨a, b, q, r⟩ := h.vat
    exact ⟨a, b, by rw [List.getElem?_append_left (List.getElem?_eq_some_iff.mp q).1]; exact q, r⟩
  · rw [List.length_append]; have := h.len; omega
  · rw [List.getElem?_append_left (Nat.lt_of_lt_of_le q h.len)]; exact h.old m q e
theorem setR_obj {s1 s2 : Sto} {n : Nat} {xs : List D} {p : Nat} {j : Int} {x : D} {env : Envd} (ei : Envd → Sto → R D) (h : ei env s1 = .ok (.int j) s2) (h2 : s2[n]? = some (.lst xs)) (hp : _root_.L2.ixN xs.length j = some p) (hn : noClo x = true) : setR ei env x s1 (.obj n) = .ok (.nx env) (s2.set n (.lst (xs.set p x))) := by
  simp only [setR, h, R.bind, h2, hp, hn, if_true]
theorem under_ok {n : Nat} {s : Sto} (h : Vat n s) (m : Nat) (hm : 0 < m) (hm2 : m < 1073741824) (k : Nat) : wp (callF TT (k + 1) F_law_under [.obj n, .int (m : Nat)] s) fun r s' => VS n s s' ∧ ∃ i : Nat, i < m ∧ r = .int (i : Nat) := by
  obtain ⟨a, b, h1, ha, hb, hb2⟩ := h
  have hl := (List.getElem?_eq_some_iff.mp h1).1
  have hm3 : (0 : Int) < (m : Nat) := by omega
  rw [c24, B24]
  walk_at "ev"
  simp only [opA_obj h1]
  walk_at "ev"
  by_cases q : 0 < a
  · rw [decide_eq_true q]
    walk_at "ev"
    simp only [opA_obj h1]
    walk_at "ev"
    rw [modR_ok hm3]
    walk_at "ev"
    simp only [opA_obj h1]
    walk_at "ev"
    rw [fdivR_ok hm3 (by omega)]
    walk_at "ev"
    rw [setR_obj (xs := [.int a, .int b]) (j := 0) (p := 0) (s2 := s) _ (by walk_at "ev") h1 rfl rfl]
    walk_at "ev"
    refine ⟨VS.set hl _ _ (Int.ediv_nonneg ha (by omega)) hb hb2, (a % m).toNat, ?_, ?_⟩
    · have := Int.emod_lt_of_pos a hm3
      have := Int.emod_nonneg a (show (m : Int) ≠ 0 by omega)
      omega
    · have := Int.emod_nonneg a (show (m : Int) ≠ 0 by omega)
      rw [Int.toNat_of_nonneg this]
  · rw [decide_eq_false q]
    walk_at "ev"
    simp only [opA_obj h1]
    walk_at "ev"
    rw [mulR_r (by decide)]
    walk_at "ev"
    rw [modR_ok (by decide)]
    walk_at "ev"
    rw [setR_obj (xs := [.int a, .int b]) (j := 1) (p := 1) (s2 := s) _ (by walk_at "ev") h1 rfl rfl]
    walk_at "ev"
    generalize hb' : (b * 39373 + 101) % 2147483629 = b'
    have hb1 : 0 ≤ b' := by omega
    have hb3 : b' < 2147483629 := by omega
    have h4 : (s.set n (.lst [.int a, .int b']))[n]? = some (.lst [.int a, .int b']) := List.getElem?_set_self hl
    simp only [opA_obj h4]
    walk_at "ev"
    simp only [opA_obj h4]
    walk_at "ev"
    rw [fdivR_ok (by decide) (by decide)]
    walk_at "ev"
    have hs : small b' = true := by
      unfold small
      rw [decide_eq_true (by omega), decide_eq_true (by omega)]; rfl
    rw [mulR_l hs]
    walk_at "ev"
    rw [modR_ok (by decide)]
    walk_at "ev"
    rw [fdivR_ok (by decide) (by decide)]
    walk_at "ev"
    rw [modR_ok hm3]
    walk_at "ev"
    generalize (b' * (b' / 5 + 9)) % 2147483587 / 32 = c
    refine ⟨VS.set hl _ _ ha hb1 (by omega), (c % m).toNat, ?_, ?_⟩
    · have := Int.emod_lt_of_pos c hm3
      have := Int.emod_nonneg c (show (m : Int) ≠ 0 by omega)
      omega
    · have := Int.emod_nonneg c (show (m : Int) ≠ 0 by omega)
      rw [Int.toNat_of_nonneg this]

theorem noClos_get : ∀ {xs : List D} {i : Nat} {d : D}, noClos xs = true → xs[i]? = some d → noClo d = true
  | [], i, d, _, h => by simp at h
  | x :: xs, 0, d, h, q => by
    simp only [noClos, Bool.and_eq_true] at h
    simp at q; subst q; exact h.1
  | x :: xs, i + 1, d, h, q => by
    simp only [noClos, Bool.and_eq_true] at h
    exact noClos_get h.2 (by simpa using q)
theorem some_ok {n : Nat} {s : Sto} (h : Vat n s) (xs : List D) (hx : xs ≠ []) (hl : xs.length < 1073741824) (hn : noClos xs = true) (k : Nat) : wp (callF TT (k + 2) F_law_some [.obj n, .lst xs] s) fun r s' => VS n s s' ∧ ∃ i : Nat, xs[i]? = some r := by
  rw [c25, B25]
  walk_at "ev"
  refine wp_use (under_ok h xs.length (by cases xs <;> simp_all) hl k) ?_
  rintro _ s' ⟨v, i, hi, rfl⟩
  walk_at "ev"
  rw [at_nat, List.getElem?_eq_getElem hi]
  walk_at "ev"
  rw [noClos_get hn (List.getElem?_eq_getElem hi)]
  walk_at "ev"
  exact ⟨v, i, List.getElem?_eq_getElem hi⟩
theorem small_nat {i : Int} (h0 : 0 ≤ i) (h : i < 18446744073709551616) : small i = true := by
  unfold small
  rw [decide_eq_true (by omega), decide_eq_true (by omega)]; rfl
theorem powR_ok (i : Int) (j : Nat) (h : j ≤ 1000000) (hi : i.natAbs < 2 ^ 64) (s : Sto) : powR i (j : Int) s = .ok (.int (i ^ j)) s := by
  unfold powR powOk
  rw [decide_eq_true (show (0 : Int) ≤ j by omega), decide_eq_true (show (j : Int) ≤ 1000000 by omega), decide_eq_true hi]
  rfl
theorem opF_int0 (i : Int) (s : Sto) : opF1 .int (.int i) s = .ok (.int i) s := rfl
theorem vat_ok (ns : List Int) (j : Nat) (hj : j < 100000) (s : Sto) (k : Nat) : ∃ a b : Int, 0 ≤ a ∧ 0 ≤ b ∧ b < 2147483630 ∧ callF TT (k + 1) F_law_vat [.scr ns, .int (j : Nat)] s = .ok (.obj s.length) (s ++ [.lst [.int a, .int b]]) := by
  obtain ⟨P, hP⟩ : ∃ P : Int, powR 10 18 s = .ok (.int P) s := ⟨_, powR_ok 10 18 (by decide) (by decide) s⟩
  have hj2 : small ((j : Nat) : Int) = true := small_nat (by omega) (by omega)
  have key : ∀ c : Int, 0 ≤ c → (callF TT (k + 1) F_law_vat [.scr ns, .int (j : Nat)] s = .ok (.obj s.length) (s ++ [.lst [.int (if P ≤ c then c else 0), .int ((c * 131071 + 8191 * j + 5) % 2147483629 + 1)]])) → ∃ a b : Int, 0 ≤ a ∧ 0 ≤ b ∧ b < 2147483630 ∧ callF TT (k + 1) F_law_vat [.scr ns, .int (j : Nat)] s = .ok (.obj s.length) (s ++ [.lst [.int a, .int b]]) := fun c hc h => ⟨_, _, by split <;> omega, by omega, by omega, h⟩
  by_cases q : j < ns.length
  · refine key (if ns[j] < 0 then -ns[j] else ns[j]) (by split <;> omega) ?_
    generalize hc : (if ns[j] < 0 then -ns[j] else ns[j]) = c
    rw [c23, B23]
    walk_at "ev"
    rw [mulR_l (by decide)]
    walk_at "ev"
    rw [decide_eq_true (by omega)]
    walk_at "ev"
    rw [at_nat, List.getElem?_eq_getElem q]
    walk_at "ev"
    rw [hc, hP]
    by_cases q : P ≤ c
    · rw [if_pos q]
      walk_at "ev"
      rw [decide_eq_true q]
      walk_at "ev"
      rw [mulR_r (by decide)]
      walk_at "ev"
      rw [mulR_l (by decide)]
      walk_at "ev"
      rw [modR_ok (by decide)]
      walk_at "ev"
    · rw [if_neg q]
      walk_at "ev"
      rw [decide_eq_false q]
      walk_at "ev"
      rw [mulR_r (by decide)]
      walk_at "ev"
      rw [mulR_l (by decide)]
      walk_at "ev"
      rw [modR_ok (by decide)]
      walk_at "ev"
  · obtain ⟨c, hc, hc0⟩ : ∃ c : Int, 7919 * (j : Int) + 43 = c ∧ 0 ≤ c := ⟨_, rfl, by omega⟩
    refine key c hc0 ?_
    rw [c23, B23]
    walk_at "ev"
    rw [mulR_l (by decide)]
    walk_at "ev"
    rw [hc, decide_eq_false (by omega)]
    walk_at "ev"
    rw [hP]
    by_cases q : P ≤ c
    · rw [if_pos q]
      walk_at "ev"
      rw [decide_eq_true q]
      walk_at "ev"
      rw [mulR_r (by decide)]
      walk_at "ev"
      rw [mulR_l (by decide)]
      walk_at "ev"
      rw [modR_ok (by decide)]
      walk_at "ev"
    · rw [if_neg q]
      walk_at "ev"
      rw [decide_eq_false q]
      walk_at "ev"
      rw [mulR_r (by decide)]
      walk_at "ev"
      rw [mulR_l (by decide)]
      walk_at "ev"
      rw [modR_ok (by decide)]
      walk_at "ev"
theorem pick_str {xs : List Txt} {i : Nat} {r : D} (h : (xs.map D.str)[i]? = some r) : ∃ t ∈ xs, r = .str t := by
  rw [List.getElem?_map] at h
  obtain ⟨t, h1, h2⟩ := Option.map_eq_some_iff.mp h
  exact ⟨t, List.mem_of_getElem? h1, h2.symm⟩
theorem natEq (a b : Nat) : (((a : Nat) : Int) == ((b : Nat) : Int)) = decide (a = b) := natBeq a b
theorem let9 : ∀ t ∈ ([[97], [98], [99], [100], [101], [102], [97], [98], [99]] : List Txt), ∃ i : Fin 6, t = [97 + i.val] := by decide
theorem word2 : ∀ t ∈ ([tAnd, tOr] : List Txt), ∃ o : Bool, t = if o then tAnd else tOr := by decide
theorem get_mem4 {a b c d r : D} {i : Nat} (h : [a, b, c, d][i]? = some r) : r = a ∨ r = b ∨ r = c ∨ r = d := by
  have := List.mem_of_getElem? h
  simpa using this
theorem tree_ok : ∀ (m : Nat), 0 < m → m ≤ 1000 → ∀ (n : Nat) (s : Sto) (k : Nat), Vat n s → m + 2 < k → wp (callF TT k F_law_tree [.obj n, .int (m : Nat)] s) fun r s' => VS n s s' ∧ ∃ f : Fm, r = f.toD ∧ f.leaves = m ∧ f.tuples + 2 ≤ 3 * m := by
  intro m
  induction m using Nat.strongRecOn with
  | ind m ih =>
    intro h0 hm n s k hv hk
    obtain ⟨k, rfl⟩ : ∃ j, k = j + 3 := ⟨k - 3, by omega⟩
    rw [c36, B36]
    by_cases q : m = 1
    · subst q
      rw [ss_cons, s_iff]
      walk_at "ev"
      refine wp_use (some_ok hv _ (by simp) (by decide) rfl k) ?_
      rintro r s1 ⟨v, i, hi⟩
      obtain ⟨t, ht, rfl⟩ := pick_str (xs := [[97], [98], [99], [100], [101], [102], [97], [98], [99]]) hi
      obtain ⟨i, rfl⟩ := let9 t ht
      walk_at "fm"
      refine wp_use (under_ok v.vat 5 (by decide) (by decide) (k + 1)) ?_
      rintro _ s9 ⟨v9, i9, hi9, rfl⟩
      walk_at "fm"
      rw [show (0 : Int) = ((0 : Nat) : Int) from rfl, natEq]
      by_cases q : i9 = 0
      · rw [decide_eq_true q]
        walk_at "fm"
        exact ⟨v.trans v9, .nt (.lt i), rfl, rfl, by simp [tuples]⟩
      · rw [decide_eq_false q]
        walk_at "fm"
        exact ⟨v.trans v9, (.lt i), rfl, rfl, by simp [tuples]⟩
    · have e1 : ((m : Nat) : Int) - 1 = ((m - 1 : Nat) : Int) := by omega
      rw [ss_cons, s_iff]
      walk_at "ev"
      rw [show (1 : Int) = ((1 : Nat) : Int) from rfl, natEq, decide_eq_false q]
      walk_at "ev"
      simp only [e1]
      refine wp_use (under_ok hv (m - 1) (by omega) (by omega) (k + 1)) ?_
      rintro _ s1 ⟨v1, i, hi, rfl⟩
      walk_at "ev"
      refine wp_use (some_ok v1.vat _ (by simp) (by simp) rfl k) ?_
      rintro r s2 ⟨v2, j, hj⟩
      obtain ⟨l, rfl, hl0, hlm⟩ : ∃ l : Nat, r = .int (l : Nat) ∧ 0 < l ∧ l < m := by
        rcases get_mem4 hj with rfl | rfl | rfl | rfl
        · exact ⟨1, rfl, by omega, by omega⟩
        · exact ⟨1, rfl, by omega, by omega⟩
        · exact ⟨m - 1, rfl, by omega, by omega⟩
        · exact ⟨1 + i, by simp, by omega, by omega⟩
      walk_at "ev"
      refine wp_use (some_ok v2.vat _ (by simp) (by decide) rfl k) ?_
      rintro r s3 ⟨v3, j, hj⟩
      obtain ⟨t, ht, rfl⟩ := pick_str (xs := [tAnd, tOr]) hj
      obtain ⟨o, rfl⟩ := word2 t ht
      refine wp_use (ih l hlm hl0 (by omega) n s3 (k + 2) v3.vat (by omega)) ?_
      rintro _ s4 ⟨v4, f, rfl, fl, ft⟩
      have e2 : ((m : Nat) : Int) - ((l : Nat) : Int) = ((m - l : Nat) : Int) := by omega
      rw [e2]
      refine wp_use (ih (m - l) (by omega) (by omega) (by omega) n s4 (k + 2) v4.vat (by omega)) ?_
      rintro _ s5 ⟨v5, g, rfl, gl, gt⟩
      refine wp_use (under_ok v5.vat 5 (by decide) (by decide) (k + 1)) ?_
      rintro _ s9 ⟨v9, i9, hi9, rfl⟩
      walk_at "fm"
      rw [show (0 : Int) = ((0 : Nat) : Int) from rfl, natEq]
      by_cases q : i9 = 0
      · rw [decide_eq_true q]
        walk_at "fm"
        exact ⟨((v1.trans v2).trans ((v3.trans v4).trans v5)).trans v9, .nt (.bn o f g), rfl, by simp only [leaves]; omega, by simp only [tuples]; omega⟩
      · rw [decide_eq_false q]
        walk_at "fm"
        exact ⟨((v1.trans v2).trans ((v3.trans v4).trans v5)).trans v9, (.bn o f g), rfl, by simp only [leaves]; omega, by simp only [tuples]; omega⟩

theorem isF_of {f : Fm} (h : f.leaves ≤ 40) (h2 : f.tuples ≤ 60) : isF f.toD = true := by
  unfold isF
  rw [ofD_toD]
  show (decide _ && decide _) = true
  rw [decide_eq_true h, decide_eq_true h2]; rfl
theorem isF_toD {f : Fm} : isF f.toD = (decide (f.leaves ≤ 40) && decide (f.tuples ≤ 60)) := by
  unfold isF
  rw [ofD_toD]
theorem formula_ok (m : Nat) (hm0 : 0 < m) (hm : m ≤ 100) (n : Nat) (s : Sto) (k : Nat) (hv : Vat n s) (hk : 3 * m + 10 < k) : wp (callF TT k F_law_formula [.obj n, .int (m : Nat)] s) fun r s' => VS n s s' ∧ ∃ f : Fm, r = f.toD ∧ f.leaves ≤ max m 3 ∧ f.leaves ≤ 40 ∧ f.tuples < 53 := by
  obtain ⟨k, rfl⟩ := ex1 hk
  obtain ⟨k, rfl⟩ : ∃ j, k = j + 3 := ⟨k - 3, by omega⟩
  rw [c37, B37]
  walk_at "ev"
  rw [show okRng 4 = true from rfl]
  walk_at "ev"
  refine forL_ret (I := fun _ env s' => VS n s s' ∧ ∃ x2 x3, env = [.obj n, .int (m : Nat), x2, x3]) (P := fun r s' => VS n s s' ∧ ∃ f : Fm, r = f.toD ∧ f.leaves ≤ max m 3 ∧ f.leaves ≤ 40 ∧ f.tuples < 53) ?_ ?_ ?_ ⟨VS.rfl hv, _, _, rfl⟩
  · rintro i x env s1 _ ⟨v1, x2, x3, rfl⟩
    rw [forB]
    walk_at "ev"
    refine wp_use (under_ok v1.vat m hm0 (by omega) (k + 2)) ?_
    rintro _ s2 ⟨v2, j, hj, rfl⟩
    walk_at "ev"
    have e1 : (1 : Int) + ((j : Nat) : Int) = ((1 + j : Nat) : Int) := by omega
    rw [e1]
    refine wp_use (tree_ok (1 + j) (by omega) (by omega) n s2 (k + 3) v2.vat (by omega)) ?_
    rintro _ s3 ⟨v3, f, rfl, fl, ft⟩
    walk_at "fm"
    have hd : dep f.toD ≤ 3 * m := by rw [toD_dep]; have := ht_tuples f; omega
    rw [isFormulaL_ok f.toD (toD_plain f) (fun g hg => by rw [ofD_toD] at hg; cases hg; omega) (k + 3) s3 (by omega), isF_toD]
    have v4 := (v1.trans v2).trans v3
    by_cases q : f.leaves ≤ 40 ∧ f.tuples ≤ 60
    · rw [decide_eq_true q.1, decide_eq_true q.2]
      walk_at "fm"
      rw [tuplesL_ok f (k + 3) s3 (by have := ht_tuples f; omega)]
      walk_at "fm"
      rw [show (53 : Int) = ((53 : Nat) : Int) from rfl]
      by_cases q2 : f.tuples < 53
      · rw [decide_eq_true (by omega)]
        walk_at "fm"
        exact ⟨v4, f, rfl, by omega, q.1, q2⟩
      · rw [decide_eq_false (by omega)]
        walk_at "fm"
        exact ⟨v4, _, _, rfl, rfl⟩
    · rw [show (decide (f.leaves ≤ 40) && decide (f.tuples ≤ 60)) = false by
        rw [← Bool.decide_and]; exact decide_eq_false q]
      walk_at "fm"
      exact ⟨v4, _, _, rfl, rfl⟩
  · rintro env s1 ⟨v1, x2, x3, rfl⟩
    walk_at "ev"
    exact ⟨v1, .bn false (.bn true (.lt 0) (.lt 1)) (.lt 2), rfl, by simp [leaves]; omega, by simp [leaves], by simp [tuples]⟩
  · rintro d s1 ⟨v1, f, rfl, h⟩
    walk_at "fm"
    exact ⟨v1, f, rfl, h⟩

end Fv.Fw
end

section
set_option Elab.async false
set_option linter.all false
set_option maxRecDepth 100000
set_option maxHeartbeats 4000000
set_option autoImplicit false
namespace Fv.Fw
open PySem
local macro_rules | `(tactic| walk_at "ev") => `(tactic| simp -implicitDefEqProofs only [wp_ok, wp_bind, wp_noErr, wp_endF, bind_ok, bind_err, bind_bad, noErr_ok, getV_z, getV_s, retD_non, retD_bl, retD_int, retD_str, retD_tup, retD_lst, retD_dic, retD_scr, retD_fn, retD_obj, retD_clo, e_var, e_non, e_bl, e_int, e_str, e_glob, e_fnv, e_tup, e_lst, e_lstN, e_bin, iteD_t, iteD_f, e_neg, e_not, e_and, e_or, e_cmp, e_chain, e_ite, e_call, callD_fn, callD_clo, e_callV, e_f1, e_f2, e_isin, e_idx, e_dget, e_m1, e_sl, e_comp, e_dcomp, e_callL, es_nil, es_cons, o_none, o_some, c_none, c_some, i_seq, i_rng1, i_rng2, i_zip, i_zip3, i_enum, s_asg, s_asgC, s_unp, s_par, s_setIdx, s_expr, s_iff, s_forr, s_whil, s_ret, s_retN, s_pass, s_cont, s_brk, s_raise, ss_nil, ss_cons, seqK_nx, seqK_ret, seqK_bk, seqK_ct, endF_nx, endF_ret, endF_err, forL_nil, fm_nil, fm_cons, compF, dcompF, bt_v, bt_tt, bt_tl, bts_nil, bts_cons, aa_nil, aa_cons, putV_z, putV_s, consO_some, withE_some, ifB_t, ifB_f, wipeD_nil, wipeD_cons, List.set_cons_zero, List.set_cons_succ, GT, noClo, noClos, noClos_strs, noClos_ints, noClos_bls, Bool.not_true, Bool.not_false, if_true, if_false, ite_true, ite_false, Bool.and_true, Bool.false_and, Bool.and_false, Bool.true_or, Bool.false_or, Bool.or_true, Bool.or_false, Bool.true_and, Bool.and_self, Option.bind_some, Bool.false_eq_true, List.length_cons, List.length_nil, eq_self, decide_true, decide_false, Nat.zero_add, Nat.reduceAdd, Int.cast_ofNat_Int, BEq.rfl, Int.reduceBEq, Int.reduceLT, Int.reduceLE, Int.lt_irrefl, Int.reduceAdd, Int.reduceSub, Int.reduceMul, Int.reduceNeg, Nat.reduceEqDiff, List.cons.injEq, reduceCtorEq, and_self, and_true, true_and, and_false, false_and, Nat.succ_ne_self, optC_some, optC_none, Nat.reduceSub, Nat.reduceMul, Nat.reduceLeDiff, LIM, isD_tuple_non, isD_tuple_bl, isD_tuple_int, isD_tuple_str, isD_tuple_tup, isD_tuple_lst, isD_str_non, isD_str_bl, isD_str_int, isD_str_str, isD_str_tup, isD_str_lst, isD_int_non, isD_int_bl, isD_int_int, isD_int_str, isD_int_tup, isD_int_lst, isD_bool_non, isD_bool_bl, isD_bool_int, isD_bool_str, isD_bool_tup, isD_bool_lst, opB_Add, opB_Sub, opB_BitAnd, opB_BitOr, opB_BitXor, opB_AddB, opB_SubB, opB_AddS, tryR_ok, s_tryN, s_tryT, opB_AddL, opB_AddT, opB_Mul, opB_MulL, opB_MulT, opB_FloorDiv, opB_Mod, opB_Pow, opB_LShift, opB_RShift, opC_Lt, opC_LtE, opC_Gt, opC_GtE, opC_LtS, opC_IsB, opC_IsNotB, opC_IsN_non, opC_IsNotN_non, opC_IsN_bl, opC_IsNotN_bl, opC_IsN_int, opC_IsNotN_int, opC_IsN_str, opC_IsNotN_str, opC_IsN_tup, opC_IsNotN_tup, opC_IsN_lst, opC_IsNotN_lst, opC_EqS, opC_NeS, opC_EqI, opC_NeI, opC_EqB, opC_NeB, opC_InL, opC_NotInL, opC_InT, opC_NotInT, opC_InS, opC_NotInS, opF_lenS, opF_lenL, opF_lenT, opF_lenC, opF_sum, opF_max, opF_all, opF_any, opF_abs, opF_int, opF_intB, opF_listL, opF_listT, opF_listS, opF_tupL, opF_tupT, opF_sorted, opF_max2, opF_min2, opA_L, opA_T, opA_S, opA_C, opD_D, opS_L, opS_T, opS_S, opM_join, opM_index, its_non, its_bl, its_int, its_tup, its_lst, its_scr, its_fn, its_str, enu_lst, enu_str, zip_lst_lst, zip3_lst_lst_lst, zip3_lst_lst_tup, zip3_lst_lst_str, zip_lst_tup, zip3_lst_tup_lst, zip3_lst_tup_tup, zip3_lst_tup_str, zip_lst_str, zip3_lst_str_lst, zip3_lst_str_tup, zip3_lst_str_str, zip_tup_lst, zip3_tup_lst_lst, zip3_tup_lst_tup, zip3_tup_lst_str, zip_tup_tup, zip3_tup_tup_lst, zip3_tup_tup_tup, zip3_tup_tup_str, zip_tup_str, zip3_tup_str_lst, zip3_tup_str_tup, zip3_tup_str_str, zip_str_lst, zip3_str_lst_lst, zip3_str_lst_tup, zip3_str_lst_str, zip_str_tup, zip3_str_tup_lst, zip3_str_tup_tup, zip3_str_tup_str, zip_str_str, zip3_str_str_lst, zip3_str_str_tup, zip3_str_str_str, rng1_int, rng2_int, intO_int, blC_bl, notD_bl, negD_int, optN_some, isStr_str, optR_some, ints_nil, ints_cons, bls_nil, bls_cons, strs_nil, strs_cons, sumR_some, maxR_some, allR_some, anyR_some, joinR_some, optR_some, at_0, at_1, at_2, at_3, cut_1, cut_1n, cut_hd, Option.map_some])
local macro_rules | `(tactic| walk_at "fm") => `(tactic| simp -implicitDefEqProofs only [retD_toD, noClo_toD, wp_ok, wp_bind, wp_noErr, wp_endF, bind_ok, bind_err, bind_bad, noErr_ok, getV_z, getV_s, retD_non, retD_bl, retD_int, retD_str, retD_tup, retD_lst, retD_dic, retD_scr, retD_fn, retD_obj, retD_clo, e_var, e_non, e_bl, e_int, e_str, e_glob, e_fnv, e_tup, e_lst, e_lstN, e_bin, iteD_t, iteD_f, e_neg, e_not, e_and, e_or, e_cmp, e_chain, e_ite, e_call, callD_fn, callD_clo, e_callV, e_f1, e_f2, e_isin, e_idx, e_dget, e_m1, e_sl, e_comp, e_dcomp, e_callL, es_nil, es_cons, o_none, o_some, c_none, c_some, i_seq, i_rng1, i_rng2, i_zip, i_zip3, i_enum, s_asg, s_asgC, s_unp, s_par, s_setIdx, s_expr, s_iff, s_forr, s_whil, s_ret, s_retN, s_pass, s_cont, s_brk, s_raise, ss_nil, ss_cons, seqK_nx, seqK_ret, seqK_bk, seqK_ct, endF_nx, endF_ret, endF_err, forL_nil, fm_nil, fm_cons, compF, dcompF, bt_v, bt_tt, bt_tl, bts_nil, bts_cons, aa_nil, aa_cons, putV_z, putV_s, consO_some, withE_some, ifB_t, ifB_f, wipeD_nil, wipeD_cons, List.set_cons_zero, List.set_cons_succ, GT, noClo, noClos, noClos_strs, noClos_ints, noClos_bls, Bool.not_true, Bool.not_false, if_true, if_false, ite_true, ite_false, Bool.and_true, Bool.false_and, Bool.and_false, Bool.true_or, Bool.false_or, Bool.or_true, Bool.or_false, Bool.true_and, Bool.and_self, Option.bind_some, Bool.false_eq_true, List.length_cons, List.length_nil, eq_self, decide_true, decide_false, Nat.zero_add, Nat.reduceAdd, Int.cast_ofNat_Int, BEq.rfl, Int.reduceBEq, Int.reduceLT, Int.reduceLE, Int.lt_irrefl, Int.reduceAdd, Int.reduceSub, Int.reduceMul, Int.reduceNeg, Nat.reduceEqDiff, List.cons.injEq, reduceCtorEq, and_self, and_true, true_and, and_false, false_and, Nat.succ_ne_self, optC_some, optC_none, Nat.reduceSub, Nat.reduceMul, Nat.reduceLeDiff, LIM, isD_tuple_non, isD_tuple_bl, isD_tuple_int, isD_tuple_str, isD_tuple_tup, isD_tuple_lst, isD_str_non, isD_str_bl, isD_str_int, isD_str_str, isD_str_tup, isD_str_lst, isD_int_non, isD_int_bl, isD_int_int, isD_int_str, isD_int_tup, isD_int_lst, isD_bool_non, isD_bool_bl, isD_bool_int, isD_bool_str, isD_bool_tup, isD_bool_lst, opB_Add, opB_Sub, opB_BitAnd, opB_BitOr, opB_BitXor, opB_AddB, opB_SubB, opB_AddS, tryR_ok, s_tryN, s_tryT, opB_AddL, opB_AddT, opB_Mul, opB_MulL, opB_MulT, opB_FloorDiv, opB_Mod, opB_Pow, opB_LShift, opB_RShift, opC_Lt, opC_LtE, opC_Gt, opC_GtE, opC_LtS, opC_IsB, opC_IsNotB, opC_IsN_non, opC_IsNotN_non, opC_IsN_bl, opC_IsNotN_bl, opC_IsN_int, opC_IsNotN_int, opC_IsN_str, opC_IsNotN_str, opC_IsN_tup, opC_IsNotN_tup, opC_IsN_lst, opC_IsNotN_lst, opC_EqS, opC_NeS, opC_EqI, opC_NeI, opC_EqB, opC_NeB, opC_InL, opC_NotInL, opC_InT, opC_NotInT, opC_InS, opC_NotInS, opF_lenS, opF_lenL, opF_lenT, opF_lenC, opF_sum, opF_max, opF_all, opF_any, opF_abs, opF_int, opF_intB, opF_listL, opF_listT, opF_listS, opF_tupL, opF_tupT, opF_sorted, opF_max2, opF_min2, opA_L, opA_T, opA_S, opA_C, opD_D, opS_L, opS_T, opS_S, opM_join, opM_index, its_non, its_bl, its_int, its_tup, its_lst, its_scr, its_fn, its_str, enu_lst, enu_str, zip_lst_lst, zip3_lst_lst_lst, zip3_lst_lst_tup, zip3_lst_lst_str, zip_lst_tup, zip3_lst_tup_lst, zip3_lst_tup_tup, zip3_lst_tup_str, zip_lst_str, zip3_lst_str_lst, zip3_lst_str_tup, zip3_lst_str_str, zip_tup_lst, zip3_tup_lst_lst, zip3_tup_lst_tup, zip3_tup_lst_str, zip_tup_tup, zip3_tup_tup_lst, zip3_tup_tup_tup, zip3_tup_tup_str, zip_tup_str, zip3_tup_str_lst, zip3_tup_str_tup, zip3_tup_str_str, zip_str_lst, zip3_str_lst_lst, zip3_str_lst_tup, zip3_str_lst_str, zip_str_tup, zip3_str_tup_lst, zip3_str_tup_tup, zip3_str_tup_str, zip_str_str, zip3_str_str_lst, zip3_str_str_tup, zip3_str_str_str, rng1_int, rng2_int, intO_int, blC_bl, notD_bl, negD_int, optN_some, isStr_str, optR_some, ints_nil, ints_cons, bls_nil, bls_cons, strs_nil, strs_cons, sumR_some, maxR_some, allR_some, anyR_some, joinR_some, optR_some, at_0, at_1, at_2, at_3, cut_1, cut_1n, cut_hd, Option.map_some])
local macro_rules | `(tactic| walk_at "t") => `(tactic| try walk_at "fm")
open Fm
mutual
def szD : D → Nat
  | .tup xs | .lst xs => szs xs + 1
  | _ => 1
def szs : List D → Nat
  | [] => 0
  | x :: r => szD x + szs r
end
theorem szD_pos (d : D) : 0 < szD d := by cases d <;> simp [szD]
theorem szs_app : ∀ xs ys : List D, szs (xs ++ ys) = szs xs + szs ys
  | [], ys => by simp [szs]
  | x :: xs, ys => by simp only [List.cons_append, szs, szs_app xs ys]; omega
theorem len_szs : ∀ xs : List D, xs.length ≤ szs xs
  | [] => Nat.le_refl _
  | x :: xs => by have := len_szs xs; have := szD_pos x; simp only [List.length_cons, szs]; omega
theorem szs_split (xs : List D) (i : Nat) : szs (xs.take i) + szs (xs.drop i) = szs xs := by rw [← szs_app, List.take_append_drop]
theorem szs_at {xs : List D} {i : Nat} (h : i < xs.length) : szs (xs.take i) + szD xs[i] + szs (xs.drop (i + 1)) = szs xs := by
  have := szs_split xs i
  rw [List.drop_eq_getElem_cons h, szs] at this
  omega
theorem plains_iff {xs : List D} : plains xs = true ↔ ∀ x ∈ xs, plain x = true := by
  induction xs with
  | nil => simp [plains]
  | cons x xs ih => simp [plains, ih]
theorem deps_le {xs : List D} {n : Nat} : deps xs ≤ n ↔ ∀ x ∈ xs, dep x ≤ n := by
  induction xs with
  | nil => simp [deps]
  | cons x xs ih =>
    simp only [deps, List.mem_cons, forall_eq_or_imp, ← ih]
    omega
theorem cut_m1 {α : Type} (xs : List α) : cutL xs (some (-1)) none = xs.drop (xs.length - 1) := by
  unfold cutL
  rw [show HT.sIx xs.length 0 (some (-1)) = xs.length - 1 by show (-1 + (xs.length : Int)).toNat = _; omega, show HT.sIx xs.length xs.length none = xs.length from rfl, List.take_of_length_le (by simp)]
theorem cut_p1 {α : Type} (xs : List α) : cutL xs none (some (-1)) = xs.take (xs.length - 1) := by
  unfold cutL
  rw [show HT.sIx xs.length xs.length (some (-1)) = xs.length - 1 by show (-1 + (xs.length : Int)).toNat = _; omega]
  rfl
theorem get_mem6 {a b c d e f r : D} {i : Nat} (h : [a, b, c, d, e, f][i]? = some r) : r = a ∨ r = b ∨ r = c ∨ r = d ∨ r = e ∨ r = f := by
  have := List.mem_of_getElem? h
  simpa using this
def Sp (v r : D) : Prop := plain r = true ∧ dep r ≤ dep v + 1 ∧ szD r ≤ 2 * szD v + 2
theorem six_get (a b c d e f : D) (i : Nat) (h : i < 6) : ∃ r, [a, b, c, d, e, f][i]? = some r := ⟨_, List.getElem?_eq_getElem h⟩
theorem wp_end {r : R Fl} {Q : D → Sto → Prop} (h : wp r fun fl s => wp (endF (.ok fl s)) Q) : wp (endF r) Q := by
  cases r with
  | ok fl s => exact h
  | err => exact h
  | bad => exact h
theorem wp_cons {N : Nat → Txt} {G : Nat → D} {cl : Call} {x : CS} {cs : List CS} {env : Envd} {s : Sto} {Q : Fl → Sto → Prop} (h : wp (exS N G cl x env s) fun fl s' => wp (seqK N G cl cs fl s') Q) : wp (exSs N G cl (x :: cs) env s) Q := by
  rw [ss_cons, wp_bind]; exact h
abbrev spT : List CS := [.asg 2 (.call 24 [.var 0, .int 6]), .iff (.isin (.var 1) .tuple) [.ret (.idx (.lst [.f1 .list (.var 1), .sl (.var 1) (some (.int 1)) none, .bin .Add (.var 1) (.sl (.var 1) (some (.neg (.int 1))) none), .sl (.var 1) none (some (.neg (.int 1))), .non, .tup [.str [110, 111, 116], .var 1]]) (.var 2))] [], .iff (.isin (.var 1) .str) [.ret (.idx (.lst [.str [97], .str [103], .str [97, 110, 100], .str [], .int 3, .str [110, 111, 116]]) (.var 2))] [], .iff (.isin (.var 1) .int) [.ret (.idx (.lst [.bin .Add (.var 1) (.int 1), .bin .Sub (.var 1) (.int 1), .int 4, .bl true, .non, .str [97]]) (.var 2))] [], .ret (.non)]
theorem spT_ok (v x3 : D) (hp : plain v = true) (hz : szD v ≤ 1000000) (n : Nat) (s : Sto) (k : Nat) (hv : Vat n s) : wp (endF (exSs NT GT (callF TT (k + 1)) spT [.obj n, v, .unset, x3] s)) fun r s' => VS n s s' ∧ Sp v r := by
  unfold Sp
  cases v <;> first | (cases hp; done) | skip
  case tup xs =>
    simp only [szD] at hz
    have hl := len_szs xs
    walk_at "ev"
    refine wp_use (under_ok hv 6 (by decide) (by decide) k) ?_
    rintro _ s1 ⟨v1, i, hi, rfl⟩
    walk_at "ev"
    rw [cut_m1, cut_p1, if_pos (by rw [List.length_drop]; omega)]
    walk_at "ev"
    obtain ⟨r, hr⟩ := six_get (.lst xs) (.tup (cutL xs (some 1) none)) (.tup (xs ++ xs.drop (xs.length - 1))) (.tup (xs.take (xs.length - 1))) .non (.tup [.str [110, 111, 116], .tup xs]) i hi
    rw [at_nat, hr]
    have sl := szs_split xs (xs.length - 1)
    have s1 := szs_split xs 1
    have pl := plains_iff.mp hp
    have c1 : cutL xs (some 1) none = xs.drop 1 := cut_drop xs 1
    have hdr : plain r = true ∧ dep r ≤ dep (.tup xs) + 1 ∧ szD r ≤ 2 * szD (.tup xs) + 2 := by
      rcases get_mem6 hr with rfl | rfl | rfl | rfl | rfl | rfl
      · exact ⟨hp, by simp only [dep]; omega, by simp only [szD]; omega⟩
      · refine ⟨plains_iff.mpr fun x m => pl x (by rw [c1] at m; exact List.mem_of_mem_drop m), ?_, by simp only [szD, c1]; omega⟩
        simp only [dep]
        have : deps (cutL xs (some 1) none) ≤ deps xs := deps_le.mpr fun x m => deps_le.mp (Nat.le_refl _) x (by rw [c1] at m; exact List.mem_of_mem_drop m)
        omega
      · refine ⟨plains_iff.mpr fun x m => pl x ?_, ?_, by simp only [szD, szs_app]; omega⟩
        · rcases List.mem_append.mp m with m | m
          · exact m
          · exact List.mem_of_mem_drop m
        · simp only [dep]
          have : deps (xs ++ xs.drop (xs.length - 1)) ≤ deps xs := deps_le.mpr fun x m => deps_le.mp (Nat.le_refl _) x (by
            rcases List.mem_append.mp m with m | m
            · exact m
            · exact List.mem_of_mem_drop m)
          omega
      · refine ⟨plains_iff.mpr fun x m => pl x (List.mem_of_mem_take m), ?_, by simp only [szD]; omega⟩
        simp only [dep]
        have : deps (xs.take (xs.length - 1)) ≤ deps xs := deps_le.mpr fun x m => deps_le.mp (Nat.le_refl _) x (List.mem_of_mem_take m)
        omega
      · exact ⟨rfl, by simp [dep], by simp [szD]⟩
      · refine ⟨by simp only [plain, plains, Bool.true_and, Bool.and_true]; exact hp, by simp only [dep, deps]; omega, by simp only [szD, szs]; omega⟩
    simp only [optR_some, bind_ok]
    walk_at "ev"
    rw [plain_noClo hdr.1]
    walk_at "ev"
    exact ⟨v1, hdr⟩
  case str t =>
    walk_at "ev"
    refine wp_use (under_ok hv 6 (by decide) (by decide) k) ?_
    rintro _ s1 ⟨v1, i, hi, rfl⟩
    walk_at "ev"
    obtain ⟨r, hr⟩ := six_get (.str [97]) (.str [103]) (.str [97, 110, 100]) (.str []) (.int 3) (.str [110, 111, 116]) i hi
    rw [at_nat, hr]
    have hdr : plain r = true ∧ dep r ≤ dep (.str t) + 1 ∧ szD r ≤ 2 * szD (.str t) + 2 := by
      rcases get_mem6 hr with rfl | rfl | rfl | rfl | rfl | rfl <;> simp [plain, dep, szD]
    walk_at "ev"
    rw [plain_noClo hdr.1]
    walk_at "ev"
    exact ⟨v1, hdr⟩
  case int j =>
    walk_at "ev"
    refine wp_use (under_ok hv 6 (by decide) (by decide) k) ?_
    rintro _ s1 ⟨v1, i, hi, rfl⟩
    walk_at "ev"
    obtain ⟨r, hr⟩ := six_get (.int (j + 1)) (.int (j - 1)) (.int 4) (.bl true) .non (.str [97]) i hi
    rw [at_nat, hr]
    have hdr : plain r = true ∧ dep r ≤ dep (.int j) + 1 ∧ szD r ≤ 2 * szD (.int j) + 2 := by
      rcases get_mem6 hr with rfl | rfl | rfl | rfl | rfl | rfl <;> simp [plain, dep, szD]
    walk_at "ev"
    rw [plain_noClo hdr.1]
    walk_at "ev"
    exact ⟨v1, hdr⟩
  case bl b =>
    walk_at "ev"
    refine wp_use (under_ok hv 6 (by decide) (by decide) k) ?_
    rintro _ s1 ⟨v1, i, hi, rfl⟩
    walk_at "ev"
    obtain ⟨r, hr⟩ := six_get (.int ((if b then 1 else 0) + 1)) (.int ((if b then 1 else 0) - 1)) (.int 4) (.bl true) .non (.str [97]) i hi
    rw [at_nat, hr]
    have hdr : plain r = true ∧ dep r ≤ dep (.bl b) + 1 ∧ szD r ≤ 2 * szD (.bl b) + 2 := by
      rcases get_mem6 hr with rfl | rfl | rfl | rfl | rfl | rfl <;> simp [plain, dep, szD]
    walk_at "ev"
    rw [plain_noClo hdr.1]
    walk_at "ev"
    exact ⟨v1, hdr⟩
  all_goals
    walk_at "ev"
    refine wp_use (under_ok hv 6 (by decide) (by decide) k) ?_
    rintro _ s1 ⟨v1, i, hi, rfl⟩
    try walk_at "ev"
    exact ⟨v1, by simp [plain], by simp [dep], by simp [szD]⟩
theorem ne_nil_t (x : D) (xs : List D) (hp : plains (x :: xs) = true) (s : Sto) : opCmp .NotEq (.tup (x :: xs)) (.tup []) s = .ok (.bl true) s := by
  rw [opC_NeP (by simpa [plain] using hp) rfl (by simp only [dep, deps]; omega)]
  rfl
theorem ne_nil_n (s : Sto) : opCmp .NotEq (.tup []) (.tup []) s = .ok (.bl false) s := rfl
theorem wp_of_end {r : R Fl} {Q : D → Sto → Prop} (h : wp (endF r) Q) : wp r fun fl s => wp (endF (.ok fl s)) Q := by
  cases r with
  | ok fl s => exact h
  | err => exact h
  | bad => exact h
abbrev spH : CS := .iff (.and (.isin (.var 1) .tuple) (.and (.cmp .NotEq (.var 1) (.tup [])) (.cmp .Gt (.call 24 [.var 0, .int 4]) (.int 0)))) [.asg 3 (.call 24 [.var 0, .f1 .len (.var 1)]), .ret (.bin .Add (.bin .Add (.sl (.var 1) none (some (.var 3))) (.tup [.call 38 [.var 0, .idx (.var 1) (.var 3)]])) (.sl (.var 1) (some (.bin .Add (.var 3) (.int 1))) none))] []
theorem spoilt_ok : ∀ (m : Nat) (v : D), dep v ≤ m → plain v = true → szD v ≤ 1000000 → ∀ (n : Nat) (s : Sto) (k : Nat), Vat n s → m + 3 < k → wp (callF TT k F_law_spoilt [.obj n, v] s) fun r s' => VS n s s' ∧ Sp v r := by
  intro m
  induction m with
  | zero =>
    intro v hd hp hz n s k hv hk
    obtain ⟨k, rfl⟩ : ∃ j, k = j + 3 := ⟨k - 3, by omega⟩
    rw [c38, B38]
    refine wp_end (wp_cons ?_)
    have key : exS NT GT (callF TT (k + 2)) spH [.obj n, v, .unset, .unset] s = .ok (.nx [.obj n, v, .unset, .unset]) s := by
      cases v <;> first | (cases hp; done) | skip
      case tup xs => simp [dep] at hd
      all_goals walk_at "ev"
    rw [key, wp_ok, seqK_nx]
    exact wp_of_end (spT_ok v .unset hp hz n s (k + 1) hv)
  | succ m ih =>
    intro v hd hp hz n s k hv hk
    obtain ⟨k, rfl⟩ : ∃ j, k = j + 3 := ⟨k - 3, by omega⟩
    rw [c38, B38]
    refine wp_end (wp_cons ?_)
    by_cases hx : ∃ x xs, v = .tup (x :: xs)
    · obtain ⟨x, xs, rfl⟩ := hx
      simp only [plain] at hp
      have pl := plains_iff.mp hp
      simp only [szD] at hz
      have hl := len_szs (x :: xs)
      simp only [dep] at hd
      have key : wp (exS NT GT (callF TT (k + 2)) spH [.obj n, .tup (x :: xs), .unset, .unset] s) fun fl s' => VS n s s' ∧ (fl = .nx [.obj n, .tup (x :: xs), .unset, .unset] ∨ ∃ r, fl = .ret r ∧ Sp (.tup (x :: xs)) r) := by
        walk_at "ev"
        rw [ne_nil_t _ _ hp]
        walk_at "ev"
        refine wp_use (under_ok hv 4 (by decide) (by decide) (k + 1)) ?_
        rintro _ s1 ⟨v1, i, hi, rfl⟩
        walk_at "ev"
        by_cases q : 0 < i
        · rw [decide_eq_true (by omega)]
          walk_at "ev"
          refine wp_use (under_ok v1.vat (xs.length + 1) (by omega) (by simp only [List.length_cons] at hl; omega) (k + 1)) ?_
          rintro _ s2 ⟨v2, i, hi, rfl⟩
          walk_at "ev"
          have hi : i < (x :: xs).length := hi
          generalize hys : x :: xs = ys at *
          have hy := pl ys[i] (List.getElem_mem hi)
          have sa := szs_at hi
          have dy : dep ys[i] ≤ deps ys := deps_le.mp (Nat.le_refl _) _ (List.getElem_mem hi)
          rw [at_nat, List.getElem?_eq_getElem hi, cut_take]
          walk_at "ev"
          refine wp_use (ih ys[i] (by omega) hy (by omega) n s2 (k + 2) v2.vat (by omega)) ?_
          rintro r s3 ⟨v3, r1, r2, r3⟩
          have hlt : (ys.take i).length ≤ ys.length := by rw [List.length_take]; omega
          rw [if_pos (by omega)]
          walk_at "ev"
          rw [show ((i : Nat) : Int) + 1 = ((i + 1 : Nat) : Int) from rfl, cut_drop, if_pos (by
            rw [List.length_append, List.length_drop]; simp only [List.length_cons, List.length_nil]; omega)]
          walk_at "ev"
          refine ⟨(v1.trans v2).trans v3, .inr ⟨_, rfl, ?_, ?_, ?_⟩⟩
          · refine plains_iff.mpr fun z mz => ?_
            simp only [List.mem_append, List.mem_singleton] at mz
            rcases mz with (mz | rfl) | mz
            · exact pl z (List.mem_of_mem_take mz)
            · exact r1
            · exact pl z (List.mem_of_mem_drop mz)
          · simp only [dep]
            have : deps (ys.take i ++ [r] ++ ys.drop (i + 1)) ≤ deps ys + 1 := deps_le.mpr fun z mz => by
              simp only [List.mem_append, List.mem_singleton] at mz
              rcases mz with (mz | rfl) | mz
              · have := deps_le.mp (Nat.le_refl _) z (List.mem_of_mem_take mz); omega
              · omega
              · have := deps_le.mp (Nat.le_refl _) z (List.mem_of_mem_drop mz); omega
            omega
          · simp only [szD, szs_app, szs]
            omega
        · rw [decide_eq_false (by omega)]
          walk_at "ev"
          exact ⟨v1, .inl trivial⟩
      refine wp_use key ?_
      rintro _ s1 ⟨v1, rfl | ⟨r, rfl, hr⟩⟩
      · rw [seqK_nx]
        refine wp_mono (wp_of_end (spT_ok (.tup (x :: xs)) .unset hp (by simpa only [szD] using hz) n s1 (k + 1) v1.vat)) ?_
        intro fl s2 h
        exact wp_mono h fun d s3 h => ⟨v1.trans h.1, h.2⟩
      · rw [seqK_ret]
        walk_at "ev"
        rw [plain_noClo hr.1]
        walk_at "ev"
        exact ⟨v1, hr⟩
    · have key : exS NT GT (callF TT (k + 2)) spH [.obj n, v, .unset, .unset] s = .ok (.nx [.obj n, v, .unset, .unset]) s := by
        cases v <;> first | (cases hp; done) | skip
        case tup xs =>
          cases xs with
          | nil =>
            walk_at "ev"
            rw [ne_nil_n]
            walk_at "ev"
          | cons x xs => exact absurd ⟨x, xs, rfl⟩ hx
        all_goals walk_at "ev"
      rw [key, wp_ok, seqK_nx]
      exact wp_of_end (spT_ok v .unset hp hz n s (k + 1) hv)

end Fv.Fw
end

section
set_option Elab.async false
set_option linter.all false
set_option maxRecDepth 100000
set_option maxHeartbeats 4000000
set_option autoImplicit false
namespace Fv.Fw
open PySem
local macro_rules | `(tactic| walk_at "ev") => `(tactic| simp -implicitDefEqProofs only [wp_ok, wp_bind, wp_noErr, wp_endF, bind_ok, bind_err, bind_bad, noErr_ok, getV_z, getV_s, retD_non, retD_bl, retD_int, retD_str, retD_tup, retD_lst, retD_dic, retD_scr, retD_fn, retD_obj, retD_clo, e_var, e_non, e_bl, e_int, e_str, e_glob, e_fnv, e_tup, e_lst, e_lstN, e_bin, iteD_t, iteD_f, e_neg, e_not, e_and, e_or, e_cmp, e_chain, e_ite, e_call, callD_fn, callD_clo, e_callV, e_f1, e_f2, e_isin, e_idx, e_dget, e_m1, e_sl, e_comp, e_dcomp, e_callL, es_nil, es_cons, o_none, o_some, c_none, c_some, i_seq, i_rng1, i_rng2, i_zip, i_zip3, i_enum, s_asg, s_asgC, s_unp, s_par, s_setIdx, s_expr, s_iff, s_forr, s_whil, s_ret, s_retN, s_pass, s_cont, s_brk, s_raise, ss_nil, ss_cons, seqK_nx, seqK_ret, seqK_bk, seqK_ct, endF_nx, endF_ret, endF_err, forL_nil, fm_nil, fm_cons, compF, dcompF, bt_v, bt_tt, bt_tl, bts_nil, bts_cons, aa_nil, aa_cons, putV_z, putV_s, consO_some, withE_some, ifB_t, ifB_f, wipeD_nil, wipeD_cons, List.set_cons_zero, List.set_cons_succ, GT, noClo, noClos, noClos_strs, noClos_ints, noClos_bls, Bool.not_true, Bool.not_false, if_true, if_false, ite_true, ite_false, Bool.and_true, Bool.false_and, Bool.and_false, Bool.true_or, Bool.false_or, Bool.or_true, Bool.or_false, Bool.true_and, Bool.and_self, Option.bind_some, Bool.false_eq_true, List.length_cons, List.length_nil, eq_self, decide_true, decide_false, Nat.zero_add, Nat.reduceAdd, Int.cast_ofNat_Int, BEq.rfl, Int.reduceBEq, Int.reduceLT, Int.reduceLE, Int.lt_irrefl, Int.reduceAdd, Int.reduceSub, Int.reduceMul, Int.reduceNeg, Nat.reduceEqDiff, List.cons.injEq, reduceCtorEq, and_self, and_true, true_and, and_false, false_and, Nat.succ_ne_self, optC_some, optC_none, Nat.reduceSub, Nat.reduceMul, Nat.reduceLeDiff, LIM, isD_tuple_non, isD_tuple_bl, isD_tuple_int, isD_tuple_str, isD_tuple_tup, isD_tuple_lst, isD_str_non, isD_str_bl, isD_str_int, isD_str_str, isD_str_tup, isD_str_lst, isD_int_non, isD_int_bl, isD_int_int, isD_int_str, isD_int_tup, isD_int_lst, isD_bool_non, isD_bool_bl, isD_bool_int, isD_bool_str, isD_bool_tup, isD_bool_lst, opB_Add, opB_Sub, opB_BitAnd, opB_BitOr, opB_BitXor, opB_AddB, opB_SubB, opB_AddS, tryR_ok, s_tryN, s_tryT, opB_AddL, opB_AddT, opB_Mul, opB_MulL, opB_MulT, opB_FloorDiv, opB_Mod, opB_Pow, opB_LShift, opB_RShift, opC_Lt, opC_LtE, opC_Gt, opC_GtE, opC_LtS, opC_IsB, opC_IsNotB, opC_IsN_non, opC_IsNotN_non, opC_IsN_bl, opC_IsNotN_bl, opC_IsN_int, opC_IsNotN_int, opC_IsN_str, opC_IsNotN_str, opC_IsN_tup, opC_IsNotN_tup, opC_IsN_lst, opC_IsNotN_lst, opC_EqS, opC_NeS, opC_EqI, opC_NeI, opC_EqB, opC_NeB, opC_InL, opC_NotInL, opC_InT, opC_NotInT, opC_InS, opC_NotInS, opF_lenS, opF_lenL, opF_lenT, opF_lenC, opF_sum, opF_max, opF_all, opF_any, opF_abs, opF_int, opF_intB, opF_listL, opF_listT, opF_listS, opF_tupL, opF_tupT, opF_sorted, opF_max2, opF_min2, opA_L, opA_T, opA_S, opA_C, opD_D, opS_L, opS_T, opS_S, opM_join, opM_index, its_non, its_bl, its_int, its_tup, its_lst, its_scr, its_fn, its_str, enu_lst, enu_str, zip_lst_lst, zip3_lst_lst_lst, zip3_lst_lst_tup, zip3_lst_lst_str, zip_lst_tup, zip3_lst_tup_lst, zip3_lst_tup_tup, zip3_lst_tup_str, zip_lst_str, zip3_lst_str_lst, zip3_lst_str_tup, zip3_lst_str_str, zip_tup_lst, zip3_tup_lst_lst, zip3_tup_lst_tup, zip3_tup_lst_str, zip_tup_tup, zip3_tup_tup_lst, zip3_tup_tup_tup, zip3_tup_tup_str, zip_tup_str, zip3_tup_str_lst, zip3_tup_str_tup, zip3_tup_str_str, zip_str_lst, zip3_str_lst_lst, zip3_str_lst_tup, zip3_str_lst_str, zip_str_tup, zip3_str_tup_lst, zip3_str_tup_tup, zip3_str_tup_str, zip_str_str, zip3_str_str_lst, zip3_str_str_tup, zip3_str_str_str, rng1_int, rng2_int, intO_int, blC_bl, notD_bl, negD_int, optN_some, isStr_str, optR_some, ints_nil, ints_cons, bls_nil, bls_cons, strs_nil, strs_cons, sumR_some, maxR_some, allR_some, anyR_some, joinR_some, optR_some, at_0, at_1, at_2, at_3, cut_1, cut_1n, cut_hd, Option.map_some])
local macro_rules | `(tactic| walk_at "fm") => `(tactic| simp -implicitDefEqProofs only [retD_toD, noClo_toD, wp_ok, wp_bind, wp_noErr, wp_endF, bind_ok, bind_err, bind_bad, noErr_ok, getV_z, getV_s, retD_non, retD_bl, retD_int, retD_str, retD_tup, retD_lst, retD_dic, retD_scr, retD_fn, retD_obj, retD_clo, e_var, e_non, e_bl, e_int, e_str, e_glob, e_fnv, e_tup, e_lst, e_lstN, e_bin, iteD_t, iteD_f, e_neg, e_not, e_and, e_or, e_cmp, e_chain, e_ite, e_call, callD_fn, callD_clo, e_callV, e_f1, e_f2, e_isin, e_idx, e_dget, e_m1, e_sl, e_comp, e_dcomp, e_callL, es_nil, es_cons, o_none, o_some, c_none, c_some, i_seq, i_rng1, i_rng2, i_zip, i_zip3, i_enum, s_asg, s_asgC, s_unp, s_par, s_setIdx, s_expr, s_iff, s_forr, s_whil, s_ret, s_retN, s_pass, s_cont, s_brk, s_raise, ss_nil, ss_cons, seqK_nx, seqK_ret, seqK_bk, seqK_ct, endF_nx, endF_ret, endF_err, forL_nil, fm_nil, fm_cons, compF, dcompF, bt_v, bt_tt, bt_tl, bts_nil, bts_cons, aa_nil, aa_cons, putV_z, putV_s, consO_some, withE_some, ifB_t, ifB_f, wipeD_nil, wipeD_cons, List.set_cons_zero, List.set_cons_succ, GT, noClo, noClos, noClos_strs, noClos_ints, noClos_bls, Bool.not_true, Bool.not_false, if_true, if_false, ite_true, ite_false, Bool.and_true, Bool.false_and, Bool.and_false, Bool.true_or, Bool.false_or, Bool.or_true, Bool.or_false, Bool.true_and, Bool.and_self, Option.bind_some, Bool.false_eq_true, List.length_cons, List.length_nil, eq_self, decide_true, decide_false, Nat.zero_add, Nat.reduceAdd, Int.cast_ofNat_Int, BEq.rfl, Int.reduceBEq, Int.reduceLT, Int.reduceLE, Int.lt_irrefl, Int.reduceAdd, Int.reduceSub, Int.reduceMul, Int.reduceNeg, Nat.reduceEqDiff, List.cons.injEq, reduceCtorEq, and_self, and_true, true_and, and_false, false_and, Nat.succ_ne_self, optC_some, optC_none, Nat.reduceSub, Nat.reduceMul, Nat.reduceLeDiff, LIM, isD_tuple_non, isD_tuple_bl, isD_tuple_int, isD_tuple_str, isD_tuple_tup, isD_tuple_lst, isD_str_non, isD_str_bl, isD_str_int, isD_str_str, isD_str_tup, isD_str_lst, isD_int_non, isD_int_bl, isD_int_int, isD_int_str, isD_int_tup, isD_int_lst, isD_bool_non, isD_bool_bl, isD_bool_int, isD_bool_str, isD_bool_tup, isD_bool_lst, opB_Add, opB_Sub, opB_BitAnd, opB_BitOr, opB_BitXor, opB_AddB, opB_SubB, opB_AddS, tryR_ok, s_tryN, s_tryT, opB_AddL, opB_AddT, opB_Mul, opB_MulL, opB_MulT, opB_FloorDiv, opB_Mod, opB_Pow, opB_LShift, opB_RShift, opC_Lt, opC_LtE, opC_Gt, opC_GtE, opC_LtS, opC_IsB, opC_IsNotB, opC_IsN_non, opC_IsNotN_non, opC_IsN_bl, opC_IsNotN_bl, opC_IsN_int, opC_IsNotN_int, opC_IsN_str, opC_IsNotN_str, opC_IsN_tup, opC_IsNotN_tup, opC_IsN_lst, opC_IsNotN_lst, opC_EqS, opC_NeS, opC_EqI, opC_NeI, opC_EqB, opC_NeB, opC_InL, opC_NotInL, opC_InT, opC_NotInT, opC_InS, opC_NotInS, opF_lenS, opF_lenL, opF_lenT, opF_lenC, opF_sum, opF_max, opF_all, opF_any, opF_abs, opF_int, opF_intB, opF_listL, opF_listT, opF_listS, opF_tupL, opF_tupT, opF_sorted, opF_max2, opF_min2, opA_L, opA_T, opA_S, opA_C, opD_D, opS_L, opS_T, opS_S, opM_join, opM_index, its_non, its_bl, its_int, its_tup, its_lst, its_scr, its_fn, its_str, enu_lst, enu_str, zip_lst_lst, zip3_lst_lst_lst, zip3_lst_lst_tup, zip3_lst_lst_str, zip_lst_tup, zip3_lst_tup_lst, zip3_lst_tup_tup, zip3_lst_tup_str, zip_lst_str, zip3_lst_str_lst, zip3_lst_str_tup, zip3_lst_str_str, zip_tup_lst, zip3_tup_lst_lst, zip3_tup_lst_tup, zip3_tup_lst_str, zip_tup_tup, zip3_tup_tup_lst, zip3_tup_tup_tup, zip3_tup_tup_str, zip_tup_str, zip3_tup_str_lst, zip3_tup_str_tup, zip3_tup_str_str, zip_str_lst, zip3_str_lst_lst, zip3_str_lst_tup, zip3_str_lst_str, zip_str_tup, zip3_str_tup_lst, zip3_str_tup_tup, zip3_str_tup_str, zip_str_str, zip3_str_str_lst, zip3_str_str_tup, zip3_str_str_str, rng1_int, rng2_int, intO_int, blC_bl, notD_bl, negD_int, optN_some, isStr_str, optR_some, ints_nil, ints_cons, bls_nil, bls_cons, strs_nil, strs_cons, sumR_some, maxR_some, allR_some, anyR_some, joinR_some, optR_some, at_0, at_1, at_2, at_3, cut_1, cut_1n, cut_hd, Option.map_some])
local macro_rules | `(tactic| walk_at "t") => `(tactic| try walk_at "fm")
open Fm
theorem tryR_err (f : Nat → D) (x : Nat) (s : Sto) (h : x ≠ 18) : tryR f (.err x s) = .ok (.ret (f x)) s := by simp only [tryR, h, if_false]
theorem endF_err' (x : Nat) (s : Sto) : endF (.err x s) = .err x s := rfl
theorem clo0 (k : Nat) (caps : List D) (s : Sto) : callF TT (k + 1) (.clo 0 caps) [] s = (evE GT (callF TT k) (.callV 0 [.var 3]) caps s).bind fun d s1 => ifB (noClo d) (.ok d s1) .bad := callT_clo k 0 caps [] caps s [] _ rfl rfl rfl
theorem callD_able {cl : Call} {d : D} {r : R (List D)} (h : callable d = true) : callD cl d r = r.bind fun ds s1 => cl d ds s1 := by
  cases d <;> first | rfl | cases h
theorem retD_able {d : D} (h : callable d = true) (s : Sto) : retD d s = .ok d s := by
  cases d <;> first | rfl | cases h
theorem refused_one (k : Nat) (c odd e1 e2 : D) (s : Sto) (x : Nat) (hc : callable c = true) (ho : plain odd = true) (h : callF TT (k + 1) c [odd] s = .err x s) (hx : x ≠ 18) : callF TT (k + 3) F_law_error [.clo 0 [c, e1, e2, odd]] s = .ok (.str (NT x)) s := by
  rw [c40, B40]
  walk_at "ev"
  rw [clo0]
  walk_at "ev"
  rw [retD_able hc, bind_ok, callD_able hc]
  rw [retD_plain ho]
  walk_at "ev"
  rw [h]
  walk_at "ev"
  rw [tryR_err _ _ _ hx]
  rfl
theorem allRefused_ok (k : Nat) (c : D) (odds : List D) (nm : Txt) (s : Sto) (hc : callable c = true) (hn : noClos odds = true) (h : ∀ odd ∈ odds, plain odd = true ∧ ∃ x, x ≠ 18 ∧ NT x = nm ∧ callF TT (k + 1) c [odd] s = .err x s) : callF TT (k + 4) F_law_all_refused [c, .lst odds, .str nm] s = .ok (.bl true) s := by
  rw [c41, B41]
  walk_at "ev"
  have := fm_filter (compF GT (callF TT (k + 3)) (.var 3) (.v 3) [3] (some (.cmp .NotEq (.callL 40 0 []) (.var 2))) [c, .lst odds, .str nm, .unset]) id (fun _ => false) id s odds fun odd m => by
    obtain ⟨ho, x, hx, hm, he⟩ := h odd m
    walk_at "ev"
    simp only [id_eq]
    rw [refused_one k c odd _ _ s x hc ho he hx, hm]
    walk_at "ev"
  rw [List.map_id, List.map_id, show odds.filter (fun _ => false) = [] by simp] at this
  rw [this]
  walk_at "ev"
  rw [eq_nil_n]
  walk_at "ev"
def lstOf : R D → List D
  | .ok (.lst xs) _ => xs
  | _ => []
def BADF : List D := lstOf (callF TT 5 F_law_bad_formulas [] [])
theorem badF_ok (k : Nat) (s : Sto) : callF TT (k + 2) F_law_bad_formulas [] s = .ok (.lst BADF) s := by kernel_rfl
theorem badF_all : (BADF.all fun d => plain d && !isF d) = true := by decide +kernel
theorem badF_clo : noClos BADF = true := by decide +kernel
theorem badF_mem {d : D} (h : d ∈ BADF) : plain d = true ∧ isF d = false := by
  have := List.all_eq_true.mp badF_all d h
  simpa using this
def BADI : List D := lstOf (callF TT 5 F_law_bad_inputs [] [])
theorem badI_ok (k : Nat) (s : Sto) : callF TT (k + 1) F_law_bad_inputs [] s = .ok (.lst BADI) s := by kernel_rfl
theorem badI_all : (BADI.all fun d => plain d && !isIn d) = true := by decide +kernel
theorem badI_clo : noClos BADI = true := by decide +kernel
theorem badI_mem {d : D} (h : d ∈ BADI) : plain d = true ∧ isIn d = false := by
  have := List.all_eq_true.mp badI_all d h
  simpa using this
abbrev FV : Txt := [102, 111, 114, 109, 117, 108, 97, 32, 118, 97, 108, 117, 101]
abbrev IV : Txt := [105, 110, 112, 117, 116, 115, 32, 118, 97, 108, 117, 101]
theorem nt1 : NT 1 = FV := rfl
theorem nt2 : NT 2 = IV := rfl
theorem endF_errb (x : Nat) (s : Sto) (f : Fl → Sto → R Fl) : endF ((R.err x s).bind f) = .err x s := rfl
section
variable {d : D} (hp : plain d = true) (hb : isF d = false) (k : Nat) (s : Sto) (hk : 65 < k)
include hp hb hk
theorem leaves_err : callF TT k F_leaves [d] s = .err 1 s := by
  obtain ⟨k, rfl⟩ := ex1 hk
  rw [c18, B18]
  walk_at "ev"
  rw [retD_plain hp]
  walk_at "ev"
  rw [need_err d hp hb k s (by omega)]
  rfl
theorem depth_err : callF TT k F_depth [d] s = .err 1 s := by
  obtain ⟨k, rfl⟩ := ex1 hk
  rw [c19, B19]
  walk_at "ev"
  rw [retD_plain hp]
  walk_at "ev"
  rw [need_err d hp hb k s (by omega)]
  rfl
theorem truth_err (t : D) : callF TT k F_truth [d, t] s = .err 1 s := by
  obtain ⟨k, rfl⟩ := ex1 hk
  rw [c20, B20]
  walk_at "ev"
  rw [retD_plain hp]
  walk_at "ev"
  rw [need_err d hp hb k s (by omega)]
  rfl
theorem alike_err (t : D) : callF TT k F_alike [d, t] s = .err 1 s := by
  obtain ⟨k, rfl⟩ := ex1 hk
  rw [c21, B21]
  walk_at "ev"
  rw [retD_plain hp]
  walk_at "ev"
  rw [need_err d hp hb k s (by omega)]
  rfl
theorem parting_err (t : D) : callF TT k F_parting [d, t] s = .err 1 s := by
  obtain ⟨k, rfl⟩ := ex1 hk
  rw [c22, B22]
  walk_at "ev"
  rw [retD_plain hp]
  walk_at "ev"
  rw [need_err d hp hb k s (by omega)]
  rfl
variable (f : Fm) (hf : isF f.toD = true)
include hf
theorem alike_err2 : callF TT k F_alike [f.toD, d] s = .err 1 s := by
  obtain ⟨k, rfl⟩ := ex1 hk
  rw [c21, B21]
  walk_at "fm"
  rw [need_ok f hf k s (by omega)]
  walk_at "fm"
  rw [retD_plain hp]
  walk_at "ev"
  rw [need_err d hp hb k s (by omega)]
  rfl
theorem parting_err2 : callF TT k F_parting [f.toD, d] s = .err 1 s := by
  obtain ⟨k, rfl⟩ := ex1 hk
  rw [c22, B22]
  walk_at "fm"
  rw [need_ok f hf k s (by omega)]
  walk_at "fm"
  rw [retD_plain hp]
  walk_at "ev"
  rw [need_err d hp hb k s (by omega)]
  rfl
end
theorem truth_err2 {d : D} (hp : plain d = true) (hb : isIn d = false) (k : Nat) (s : Sto) (hk : 65 < k) (f : Fm) (hf : isF f.toD = true) : callF TT k F_truth [f.toD, d] s = .err 2 s := by
  obtain ⟨k, rfl⟩ : ∃ j, k = j + 3 := ⟨k - 3, by omega⟩
  rw [c20, B20]
  walk_at "fm"
  rw [need_ok f hf (k + 2) s (by omega)]
  walk_at "fm"
  rw [retD_plain hp]
  walk_at "ev"
  rw [needI_err d hp hb k s]
  rfl

end Fv.Fw
end

section
set_option Elab.async false
set_option linter.all false
set_option maxRecDepth 100000
set_option maxHeartbeats 4000000
set_option autoImplicit false
namespace Fv.Fw
open PySem
local macro_rules | `(tactic| walk_at "ev") => `(tactic| simp -implicitDefEqProofs only [wp_ok, wp_bind, wp_noErr, wp_endF, bind_ok, bind_err, bind_bad, noErr_ok, getV_z, getV_s, retD_non, retD_bl, retD_int, retD_str, retD_tup, retD_lst, retD_dic, retD_scr, retD_fn, retD_obj, retD_clo, e_var, e_non, e_bl, e_int, e_str, e_glob, e_fnv, e_tup, e_lst, e_lstN, e_bin, iteD_t, iteD_f, e_neg, e_not, e_and, e_or, e_cmp, e_chain, e_ite, e_call, callD_fn, callD_clo, e_callV, e_f1, e_f2, e_isin, e_idx, e_dget, e_m1, e_sl, e_comp, e_dcomp, e_callL, es_nil, es_cons, o_none, o_some, c_none, c_some, i_seq, i_rng1, i_rng2, i_zip, i_zip3, i_enum, s_asg, s_asgC, s_unp, s_par, s_setIdx, s_expr, s_iff, s_forr, s_whil, s_ret, s_retN, s_pass, s_cont, s_brk, s_raise, ss_nil, ss_cons, seqK_nx, seqK_ret, seqK_bk, seqK_ct, endF_nx, endF_ret, endF_err, forL_nil, fm_nil, fm_cons, compF, dcompF, bt_v, bt_tt, bt_tl, bts_nil, bts_cons, aa_nil, aa_cons, putV_z, putV_s, consO_some, withE_some, ifB_t, ifB_f, wipeD_nil, wipeD_cons, List.set_cons_zero, List.set_cons_succ, GT, noClo, noClos, noClos_strs, noClos_ints, noClos_bls, Bool.not_true, Bool.not_false, if_true, if_false, ite_true, ite_false, Bool.and_true, Bool.false_and, Bool.and_false, Bool.true_or, Bool.false_or, Bool.or_true, Bool.or_false, Bool.true_and, Bool.and_self, Option.bind_some, Bool.false_eq_true, List.length_cons, List.length_nil, eq_self, decide_true, decide_false, Nat.zero_add, Nat.reduceAdd, Int.cast_ofNat_Int, BEq.rfl, Int.reduceBEq, Int.reduceLT, Int.reduceLE, Int.lt_irrefl, Int.reduceAdd, Int.reduceSub, Int.reduceMul, Int.reduceNeg, Nat.reduceEqDiff, List.cons.injEq, reduceCtorEq, and_self, and_true, true_and, and_false, false_and, Nat.succ_ne_self, optC_some, optC_none, Nat.reduceSub, Nat.reduceMul, Nat.reduceLeDiff, LIM, isD_tuple_non, isD_tuple_bl, isD_tuple_int, isD_tuple_str, isD_tuple_tup, isD_tuple_lst, isD_str_non, isD_str_bl, isD_str_int, isD_str_str, isD_str_tup, isD_str_lst, isD_int_non, isD_int_bl, isD_int_int, isD_int_str, isD_int_tup, isD_int_lst, isD_bool_non, isD_bool_bl, isD_bool_int, isD_bool_str, isD_bool_tup, isD_bool_lst, opB_Add, opB_Sub, opB_BitAnd, opB_BitOr, opB_BitXor, opB_AddB, opB_SubB, opB_AddS, tryR_ok, s_tryN, s_tryT, opB_AddL, opB_AddT, opB_Mul, opB_MulL, opB_MulT, opB_FloorDiv, opB_Mod, opB_Pow, opB_LShift, opB_RShift, opC_Lt, opC_LtE, opC_Gt, opC_GtE, opC_LtS, opC_IsB, opC_IsNotB, opC_IsN_non, opC_IsNotN_non, opC_IsN_bl, opC_IsNotN_bl, opC_IsN_int, opC_IsNotN_int, opC_IsN_str, opC_IsNotN_str, opC_IsN_tup, opC_IsNotN_tup, opC_IsN_lst, opC_IsNotN_lst, opC_EqS, opC_NeS, opC_EqI, opC_NeI, opC_EqB, opC_NeB, opC_InL, opC_NotInL, opC_InT, opC_NotInT, opC_InS, opC_NotInS, opF_lenS, opF_lenL, opF_lenT, opF_lenC, opF_sum, opF_max, opF_all, opF_any, opF_abs, opF_int, opF_intB, opF_listL, opF_listT, opF_listS, opF_tupL, opF_tupT, opF_sorted, opF_max2, opF_min2, opA_L, opA_T, opA_S, opA_C, opD_D, opS_L, opS_T, opS_S, opM_join, opM_index, its_non, its_bl, its_int, its_tup, its_lst, its_scr, its_fn, its_str, enu_lst, enu_str, zip_lst_lst, zip3_lst_lst_lst, zip3_lst_lst_tup, zip3_lst_lst_str, zip_lst_tup, zip3_lst_tup_lst, zip3_lst_tup_tup, zip3_lst_tup_str, zip_lst_str, zip3_lst_str_lst, zip3_lst_str_tup, zip3_lst_str_str, zip_tup_lst, zip3_tup_lst_lst, zip3_tup_lst_tup, zip3_tup_lst_str, zip_tup_tup, zip3_tup_tup_lst, zip3_tup_tup_tup, zip3_tup_tup_str, zip_tup_str, zip3_tup_str_lst, zip3_tup_str_tup, zip3_tup_str_str, zip_str_lst, zip3_str_lst_lst, zip3_str_lst_tup, zip3_str_lst_str, zip_str_tup, zip3_str_tup_lst, zip3_str_tup_tup, zip3_str_tup_str, zip_str_str, zip3_str_str_lst, zip3_str_str_tup, zip3_str_str_str, rng1_int, rng2_int, intO_int, blC_bl, notD_bl, negD_int, optN_some, isStr_str, optR_some, ints_nil, ints_cons, bls_nil, bls_cons, strs_nil, strs_cons, sumR_some, maxR_some, allR_some, anyR_some, joinR_some, optR_some, at_0, at_1, at_2, at_3, cut_1, cut_1n, cut_hd, Option.map_some])
local macro_rules | `(tactic| walk_at "fm") => `(tactic| simp -implicitDefEqProofs only [retD_toD, noClo_toD, wp_ok, wp_bind, wp_noErr, wp_endF, bind_ok, bind_err, bind_bad, noErr_ok, getV_z, getV_s, retD_non, retD_bl, retD_int, retD_str, retD_tup, retD_lst, retD_dic, retD_scr, retD_fn, retD_obj, retD_clo, e_var, e_non, e_bl, e_int, e_str, e_glob, e_fnv, e_tup, e_lst, e_lstN, e_bin, iteD_t, iteD_f, e_neg, e_not, e_and, e_or, e_cmp, e_chain, e_ite, e_call, callD_fn, callD_clo, e_callV, e_f1, e_f2, e_isin, e_idx, e_dget, e_m1, e_sl, e_comp, e_dcomp, e_callL, es_nil, es_cons, o_none, o_some, c_none, c_some, i_seq, i_rng1, i_rng2, i_zip, i_zip3, i_enum, s_asg, s_asgC, s_unp, s_par, s_setIdx, s_expr, s_iff, s_forr, s_whil, s_ret, s_retN, s_pass, s_cont, s_brk, s_raise, ss_nil, ss_cons, seqK_nx, seqK_ret, seqK_bk, seqK_ct, endF_nx, endF_ret, endF_err, forL_nil, fm_nil, fm_cons, compF, dcompF, bt_v, bt_tt, bt_tl, bts_nil, bts_cons, aa_nil, aa_cons, putV_z, putV_s, consO_some, withE_some, ifB_t, ifB_f, wipeD_nil, wipeD_cons, List.set_cons_zero, List.set_cons_succ, GT, noClo, noClos, noClos_strs, noClos_ints, noClos_bls, Bool.not_true, Bool.not_false, if_true, if_false, ite_true, ite_false, Bool.and_true, Bool.false_and, Bool.and_false, Bool.true_or, Bool.false_or, Bool.or_true, Bool.or_false, Bool.true_and, Bool.and_self, Option.bind_some, Bool.false_eq_true, List.length_cons, List.length_nil, eq_self, decide_true, decide_false, Nat.zero_add, Nat.reduceAdd, Int.cast_ofNat_Int, BEq.rfl, Int.reduceBEq, Int.reduceLT, Int.reduceLE, Int.lt_irrefl, Int.reduceAdd, Int.reduceSub, Int.reduceMul, Int.reduceNeg, Nat.reduceEqDiff, List.cons.injEq, reduceCtorEq, and_self, and_true, true_and, and_false, false_and, Nat.succ_ne_self, optC_some, optC_none, Nat.reduceSub, Nat.reduceMul, Nat.reduceLeDiff, LIM, isD_tuple_non, isD_tuple_bl, isD_tuple_int, isD_tuple_str, isD_tuple_tup, isD_tuple_lst, isD_str_non, isD_str_bl, isD_str_int, isD_str_str, isD_str_tup, isD_str_lst, isD_int_non, isD_int_bl, isD_int_int, isD_int_str, isD_int_tup, isD_int_lst, isD_bool_non, isD_bool_bl, isD_bool_int, isD_bool_str, isD_bool_tup, isD_bool_lst, opB_Add, opB_Sub, opB_BitAnd, opB_BitOr, opB_BitXor, opB_AddB, opB_SubB, opB_AddS, tryR_ok, s_tryN, s_tryT, opB_AddL, opB_AddT, opB_Mul, opB_MulL, opB_MulT, opB_FloorDiv, opB_Mod, opB_Pow, opB_LShift, opB_RShift, opC_Lt, opC_LtE, opC_Gt, opC_GtE, opC_LtS, opC_IsB, opC_IsNotB, opC_IsN_non, opC_IsNotN_non, opC_IsN_bl, opC_IsNotN_bl, opC_IsN_int, opC_IsNotN_int, opC_IsN_str, opC_IsNotN_str, opC_IsN_tup, opC_IsNotN_tup, opC_IsN_lst, opC_IsNotN_lst, opC_EqS, opC_NeS, opC_EqI, opC_NeI, opC_EqB, opC_NeB, opC_InL, opC_NotInL, opC_InT, opC_NotInT, opC_InS, opC_NotInS, opF_lenS, opF_lenL, opF_lenT, opF_lenC, opF_sum, opF_max, opF_all, opF_any, opF_abs, opF_int, opF_intB, opF_listL, opF_listT, opF_listS, opF_tupL, opF_tupT, opF_sorted, opF_max2, opF_min2, opA_L, opA_T, opA_S, opA_C, opD_D, opS_L, opS_T, opS_S, opM_join, opM_index, its_non, its_bl, its_int, its_tup, its_lst, its_scr, its_fn, its_str, enu_lst, enu_str, zip_lst_lst, zip3_lst_lst_lst, zip3_lst_lst_tup, zip3_lst_lst_str, zip_lst_tup, zip3_lst_tup_lst, zip3_lst_tup_tup, zip3_lst_tup_str, zip_lst_str, zip3_lst_str_lst, zip3_lst_str_tup, zip3_lst_str_str, zip_tup_lst, zip3_tup_lst_lst, zip3_tup_lst_tup, zip3_tup_lst_str, zip_tup_tup, zip3_tup_tup_lst, zip3_tup_tup_tup, zip3_tup_tup_str, zip_tup_str, zip3_tup_str_lst, zip3_tup_str_tup, zip3_tup_str_str, zip_str_lst, zip3_str_lst_lst, zip3_str_lst_tup, zip3_str_lst_str, zip_str_tup, zip3_str_tup_lst, zip3_str_tup_tup, zip3_str_tup_str, zip_str_str, zip3_str_str_lst, zip3_str_str_tup, zip3_str_str_str, rng1_int, rng2_int, intO_int, blC_bl, notD_bl, negD_int, optN_some, isStr_str, optR_some, ints_nil, ints_cons, bls_nil, bls_cons, strs_nil, strs_cons, sumR_some, maxR_some, allR_some, anyR_some, joinR_some, optR_some, at_0, at_1, at_2, at_3, cut_1, cut_1n, cut_hd, Option.map_some])
local macro_rules | `(tactic| walk_at "t") => `(tactic| try walk_at "fm")
open Fm
abbrev Good (f : Fm) : Prop := f.leaves ≤ 40 ∧ f.tuples < 53
theorem szD_toD : ∀ f : Fm, szD f.toD = 2 * f.tuples + f.leaves
  | lt _ => rfl
  | nt f => by simp only [toD, szD, szs, szD_toD f, tuples, leaves]; omega
  | bn o f g => by simp only [toD, szD, szs, szD_toD f, szD_toD g, tuples, leaves]; omega
theorem Good.isF {f : Fm} (h : Good f) : Fw.isF f.toD = true := isF_of h.1 (by have := h.2; omega)
theorem Good.ht {f : Fm} (h : Good f) : f.ht ≤ 52 := by have := ht_tuples f; have := h.2; omega
/-- a value on its way of being spoilt -/
def Bent (i : Nat) (v : D) : Prop := plain v = true ∧ dep v ≤ 56 ∧ szD v ≤ 1000 ∧ (i % 2 = 1 → dep v ≤ 55 ∧ szD v ≤ 400)
abbrev bendB : List CS := [.iff (.not (.call 26 [.call 17 [.var 9], .call 32 [.var 9]])) [.ret (.bl false)] [], .asg 9 (.call 38 [.var 2, .ite (.cmp .Eq (.bin .Mod (.var 10) (.int 2)) (.int 0)) (.var 8) (.var 9)])]
theorem isFormulaL_ok' {v : D} (hp : plain v = true) (hd : dep v ≤ 60) (hz : szD v ≤ 1000) (s : Sto) : callF TT 149 F_law_is_formula [v] s = .ok (.bl (isF v)) s :=
  isFormulaL_ok v hp (fun g hg => by
    have := toD_ofD hg
    subst this
    rw [szD_toD] at hz; omega) 149 s (by omega)
theorem bend_ok {f : Fm} (hf : Good f) (x0 x1 x3 x4 x5 x6 x7 x10 x11 x12 x13 x14 x15 x16 x17 x18 : D) (n i : Nat) (v : D) (hv : Bent i v) (s : Sto) (hs : Vat n s) :
    wp (forB NT GT (callF TT 149) (.v 10) bendB (.int (i : Nat)) [x0, x1, .obj n, x3, x4, x5, x6, x7, f.toD, v, x10, x11, x12, x13, x14, x15, x16, x17, x18] s) fun fl s' => VS n s s' ∧ ∃ v', Bent (i + 1) v' ∧ fl = .nx [x0, x1, .obj n, x3, x4, x5, x6, x7, f.toD, v', .int (i : Nat), x11, x12, x13, x14, x15, x16, x17, x18] := by
  obtain ⟨h1, h2, h3, h4⟩ := hv
  rw [forB]
  walk_at "fm"
  rw [retD_plain h1]
  walk_at "fm"
  rw [isFormula_ok v h1 149 s (by decide)]
  walk_at "fm"
  rw [retD_plain h1]
  walk_at "fm"
  rw [isFormulaL_ok' h1 (by omega) h3]
  walk_at "fm"
  rw [truly_ok]
  walk_at "fm"
  rw [modR_ok (by decide)]
  walk_at "fm"
  have hh := hf.ht
  have zf := szD_toD f
  have := hf.1
  have := hf.2
  by_cases q : i % 2 = 0
  · rw [show ((((i : Nat) : Int) % 2) == 0) = true by
      rw [beq_iff_eq]; omega]
    walk_at "fm"
    refine wp_use (spoilt_ok 52 f.toD (by rw [toD_dep]; exact hh) (toD_plain f) (by omega) n s 149 hs (by decide)) ?_
    rintro r s1 ⟨v1, r1, r2, r3⟩
    rw [toD_dep] at r2
    exact ⟨v1, r, ⟨r1, by omega, by omega, fun _ => ⟨by omega, by omega⟩⟩, rfl⟩
  · obtain ⟨h5, h6⟩ := h4 (by omega)
    rw [show ((((i : Nat) : Int) % 2) == 0) = false by
      apply beq_eq_false_iff_ne.mpr; omega]
    walk_at "fm"
    rw [retD_plain h1]
    walk_at "fm"
    refine wp_use (spoilt_ok 55 v h5 h1 (by omega) n s 149 hs (by decide)) ?_
    rintro r s1 ⟨v1, r1, r2, r3⟩
    exact ⟨v1, r, ⟨r1, by omega, by omega, fun h => absurd h (by omega)⟩, rfl⟩
theorem rngL_get {lo : Int} {n i : Nat} {x : D} (h : (rngL lo n)[i]? = some x) : x = .int (lo + (i : Nat)) ∧ i < n := by
  unfold rngL at h
  rw [List.getElem?_map] at h
  obtain ⟨j, h1, rfl⟩ := Option.map_eq_some_iff.mp h
  have := List.getElem?_eq_some_iff.mp h1
  obtain ⟨h2, h3⟩ := this
  rw [List.length_range] at h2
  rw [List.getElem_range] at h3
  subst h3
  exact ⟨rfl, h2⟩
theorem rngL_len (lo : Int) (n : Nat) : (rngL lo n).length = n := by simp [rngL]
abbrev innerB : List CS := [.asg 8 (.call 37 [.var 2, .call 25 [.var 2, .lst [.int 5, .int 12, .int 40]]]), .asg 9 (.var 8), .forr (.v 10) (.rng1 (.int 8)) bendB, .iff (.or (.cmp .NotEq (.call 18 [.var 8]) (.f1 .len (.call 29 [.var 8]))) (.cmp .NotEq (.call 19 [.var 8]) (.call 31 [.var 8]))) [.ret (.bl false)] [], .asg 11 (.call 25 [.var 2, .call 34 []]), .iff (.not (.call 26 [.call 20 [.var 8, .var 11], .call 33 [.var 8, .var 11]])) [.ret (.bl false)] [], .asg 12 (.call 25 [.var 2, .lst [.ite (.cmp .Lt (.call 30 [.var 8]) (.int 59)) (.tup [.str [110, 111, 116], .tup [.str [110, 111, 116], .var 8]]) (.var 8), .call 37 [.var 2, .int 6], .call 37 [.var 2, .int 20]]]), .par [14, 15] [.call 35 [.var 8], .call 35 [.var 12]], .asgC 13 (.comp (.var 11) (.t [.v 11, .v 17, .v 18]) [11, 17, 18] (.zip3 (.call 34 []) (.var 14) (.var 15)) (some (.cmp .NotEq (.var 17) (.var 18)))), .iff (.or (.not (.call 26 [.call 21 [.var 8, .var 12], .cmp .Eq (.var 13) (.lst [])])) (.cmp .NotEq (.call 22 [.var 8, .var 12]) (.ite (.cmp .NotEq (.var 13) (.lst [])) (.idx (.var 13) (.int 0)) (.non)))) [.ret (.bl false)] []]
theorem zipL3_map {α : Type} (a b c : α → D) : ∀ xs : List α, zipL3 (xs.map a) (xs.map b) (xs.map c) = xs.map fun x => .tup [a x, b x, c x]
  | [] => rfl
  | x :: xs => by simp only [List.map_cons, zipL3, zipL3_map a b c xs]
theorem eq_nil_s (xs : List Txt) (s : Sto) : opCmp .Eq (.lst (xs.map D.str)) (.lst []) s = .ok (.bl xs.isEmpty) s := by
  rw [opC_EqP (by simp only [plain]; exact plains_map _ (fun _ => rfl) _) rfl (by simp [dep, deps])]
  cases xs <;> rfl
theorem ne_nil_s (xs : List Txt) (s : Sto) : opCmp .NotEq (.lst (xs.map D.str)) (.lst []) s = .ok (.bl (!xs.isEmpty)) s := by
  rw [opC_NeP (by simp only [plain]; exact plains_map _ (fun _ => rfl) _) rfl (by simp [dep, deps])]
  cases xs <;> rfl
theorem part_nil (f g : Fm) : (partL f g).isEmpty = true ↔ ∀ t ∈ INS, f.ev t = g.ev t := by
  unfold partL
  rw [List.isEmpty_iff, List.filter_eq_nil_iff]
  constructor
  · intro h t ht
    have := h t ht
    simpa using this
  · intro h t ht
    rw [h t ht]; simp
theorem alike_nil (f g : Fm) : (alikeB f g == (partL f g).isEmpty) = true := by
  rw [beq_iff_eq]
  unfold alikeB
  rw [Bool.eq_iff_iff, part_nil, decide_eq_true_iff]
theorem inner_ok (x0 x1 x3 x4 x5 x6 x7 x8 x9 x10 x11 x12 x13 x14 x15 x16 x17 x18 : D) (n i : Nat) (s : Sto) (hs : Vat n s) :
    wp (forB NT GT (callF TT 149) (.v 3) innerB (.int (i : Nat)) [x0, x1, .obj n, x3, x4, x5, x6, x7, x8, x9, x10, x11, x12, x13, x14, x15, x16, x17, x18] s) fun fl s' => VS n s s' ∧ ∃ f x9 x10 x11 x12 x13 x14 x15, Good f ∧ fl = .nx [x0, x1, .obj n, .int (i : Nat), x4, x5, x6, x7, f.toD, x9, x10, x11, x12, x13, x14, x15, x16, x17, x18] := by
  rw [forB]
  walk_at "fm"
  refine wp_use (some_ok hs _ (by simp) (by simp) rfl 147) ?_
  rintro r s1 ⟨v1, j, hj⟩
  obtain ⟨m, rfl, hm0, hm⟩ : ∃ m : Nat, r = .int (m : Nat) ∧ 0 < m ∧ m ≤ 40 := by
    have := List.mem_of_getElem? hj
    simp only [List.mem_cons, List.not_mem_nil, or_false] at this
    rcases this with rfl | rfl | rfl
    · exact ⟨5, rfl, by omega, by omega⟩
    · exact ⟨12, rfl, by omega, by omega⟩
    · exact ⟨40, rfl, by omega, by omega⟩
  refine wp_use (formula_ok m hm0 (by omega) n s1 149 v1.vat (by omega)) ?_
  rintro _ s2 ⟨v2, f, rfl, _, f1, f2⟩
  have hf : Good f := ⟨f1, f2⟩
  have zf := szD_toD f
  have hh := hf.ht
  walk_at "fm"
  rw [show okRng 8 = true from rfl]
  walk_at "fm"
  refine forL_ret (I := fun j env s' => VS n s2 s' ∧ ∃ v x10, Bent j v ∧ env = [x0, x1, .obj n, .int (i : Nat), x4, x5, x6, x7, f.toD, v, x10, x11, x12, x13, x14, x15, x16, x17, x18]) (P := fun _ _ => False) ?_ ?_ ?_ ⟨VS.rfl v2.vat, f.toD, _, ⟨toD_plain f, by rw [toD_dep]; omega, by omega, fun h => absurd h (by decide)⟩, rfl⟩
  · rintro j x env s3 hx ⟨v3, v, x10, hv, rfl⟩
    obtain ⟨rfl, hj⟩ := rngL_get hx
    rw [Int.zero_add]
    refine wp_use (bend_ok hf _ _ _ _ _ _ _ _ _ _ _ _ _ _ _ _ n j v hv s3 v3.vat) ?_
    rintro _ s4 ⟨v4, v', hv', rfl⟩
    exact ⟨v3.trans v4, v', _, hv', rfl⟩
  · rintro env s3 ⟨v3, v, x10, hv, rfl⟩
    walk_at "fm"
    rw [leavesP_ok f hf.isF 149 s3 (by decide)]
    walk_at "fm"
    rw [lettersL_ok f 149 s3 (by omega) (by omega)]
    walk_at "fm"
    rw [letsD_len]
    walk_at "fm"
    rw [depthP_ok f hf.isF 149 s3 (by decide)]
    walk_at "fm"
    rw [depthL_ok f 149 s3 (by omega)]
    walk_at "fm"
    rw [inputsL_ok]
    walk_at "fm"
    refine wp_use (some_ok v3.vat (INS.map D.str) (by decide +kernel) (by decide +kernel) (by decide +kernel) 147) ?_
    rintro r s4 ⟨v4, j, hj⟩
    obtain ⟨t, ht, rfl⟩ := pick_str hj
    walk_at "fm"
    rw [truthP_ok f hf.isF t (ins_ok t ht) 149 s4 (by decide)]
    walk_at "fm"
    rw [truthL_ok f t 149 s4 (by omega)]
    walk_at "fm"
    rw [truly_ok]
    walk_at "fm"
    rw [tuplesL_ok f 149 s4 (by omega)]
    walk_at "fm"
    rw [decide_eq_true (by omega)]
    walk_at "fm"
    refine wp_use (formula_ok 6 (by decide) (by decide) n s4 149 v4.vat (by decide)) ?_
    rintro _ s5 ⟨v5, g1, rfl, _, g1a, g1b⟩
    walk_at "t"
    refine wp_use (formula_ok 20 (by decide) (by decide) n s5 149 v5.vat (by decide)) ?_
    rintro _ s6 ⟨v6, g2, rfl, _, g2a, g2b⟩
    walk_at "t"
    refine wp_use (some_ok v6.vat _ (by simp) (by simp) (by simp only [noClos, noClo, noClo_toD, Bool.and_self]) 147) ?_
    rintro r s7 ⟨v7, j7, hj7⟩
    obtain ⟨g, rfl, hg⟩ : ∃ g : Fm, r = g.toD ∧ isF g.toD = true := by
      have := List.mem_of_getElem? hj7
      simp only [List.mem_cons, List.not_mem_nil, or_false] at this
      rcases this with rfl | rfl | rfl
      · exact ⟨.nt (.nt f), rfl, isF_of f1 (by simp only [tuples]; omega)⟩
      · exact ⟨g1, rfl, isF_of g1a (by omega)⟩
      · exact ⟨g2, rfl, isF_of g2a (by omega)⟩
    have hgh := isF_ht hg
    walk_at "t"
    rw [columnL_ok f 149 s7 (by omega)]
    walk_at "t"
    rw [columnL_ok g 149 s7 (by omega)]
    walk_at "t"
    rw [inputsL_ok]
    walk_at "t"
    rw [show ((col f).map D.bl) = INS.map (fun t => D.bl (f.ev t)) by unfold col; rw [List.map_map]; rfl, show ((col g).map D.bl) = INS.map (fun t => D.bl (g.ev t)) by unfold col; rw [List.map_map]; rfl, zipL3_map]
    rw [fm_filter _ (fun t => D.tup [.str t, .bl (f.ev t), .bl (g.ev t)]) (fun t => f.ev t != g.ev t) D.str s7 INS fun t ht => by
      walk_at "fm"
      cases f.ev t <;> cases g.ev t <;> rfl]
    walk_at "t"
    rw [alikeP_ok f g hf.isF hg 149 s7 (by decide)]
    walk_at "t"
    rw [show INS.filter (fun t => f.ev t != g.ev t) = partL f g from rfl, eq_nil_s]
    walk_at "t"
    rw [truly_ok, alike_nil]
    walk_at "t"
    rw [partingP_ok f g hf.isF hg 149 s7 (by decide)]
    walk_at "t"
    rw [ne_nil_s]
    have vv := ((v1.trans v2).trans (v3.trans v4)).trans ((v5.trans v6).trans v7)
    have e : partD f g = match partL f g with
      | [] => .non
      | t :: _ => .str t := rfl
    cases hpl : partL f g with
    | nil =>
      rw [hpl] at e
      rw [e]
      simp only [List.isEmpty_nil]
      walk_at "t"
      rw [show opCmp .NotEq .non .non s7 = .ok (.bl false) s7 from rfl]
      walk_at "t"
      exact ⟨vv, f, _, _, _, _, _, _, _, hf, rfl⟩
    | cons t r =>
      rw [hpl] at e
      rw [e]
      simp only [List.isEmpty_cons, List.map_cons]
      walk_at "t"
      exact ⟨vv, f, _, _, _, _, _, _, _, hf, rfl⟩
  · rintro d s3 h
    exact h.elim

end Fv.Fw
end

section
set_option Elab.async false
set_option linter.all false
set_option maxRecDepth 100000
set_option maxHeartbeats 4000000
set_option autoImplicit false
namespace Fv.Fw
open PySem
local macro_rules | `(tactic| walk_at "ev") => `(tactic| simp -implicitDefEqProofs only [wp_ok, wp_bind, wp_noErr, wp_endF, bind_ok, bind_err, bind_bad, noErr_ok, getV_z, getV_s, retD_non, retD_bl, retD_int, retD_str, retD_tup, retD_lst, retD_dic, retD_scr, retD_fn, retD_obj, retD_clo, e_var, e_non, e_bl, e_int, e_str, e_glob, e_fnv, e_tup, e_lst, e_lstN, e_bin, iteD_t, iteD_f, e_neg, e_not, e_and, e_or, e_cmp, e_chain, e_ite, e_call, callD_fn, callD_clo, e_callV, e_f1, e_f2, e_isin, e_idx, e_dget, e_m1, e_sl, e_comp, e_dcomp, e_callL, es_nil, es_cons, o_none, o_some, c_none, c_some, i_seq, i_rng1, i_rng2, i_zip, i_zip3, i_enum, s_asg, s_asgC, s_unp, s_par, s_setIdx, s_expr, s_iff, s_forr, s_whil, s_ret, s_retN, s_pass, s_cont, s_brk, s_raise, ss_nil, ss_cons, seqK_nx, seqK_ret, seqK_bk, seqK_ct, endF_nx, endF_ret, endF_err, forL_nil, fm_nil, fm_cons, compF, dcompF, bt_v, bt_tt, bt_tl, bts_nil, bts_cons, aa_nil, aa_cons, putV_z, putV_s, consO_some, withE_some, ifB_t, ifB_f, wipeD_nil, wipeD_cons, List.set_cons_zero, List.set_cons_succ, GT, noClo, noClos, noClos_strs, noClos_ints, noClos_bls, Bool.not_true, Bool.not_false, if_true, if_false, ite_true, ite_false, Bool.and_true, Bool.false_and, Bool.and_false, Bool.true_or, Bool.false_or, Bool.or_true, Bool.or_false, Bool.true_and, Bool.and_self, Option.bind_some, Bool.false_eq_true, List.length_cons, List.length_nil, eq_self, decide_true, decide_false, Nat.zero_add, Nat.reduceAdd, Int.cast_ofNat_Int, BEq.rfl, Int.reduceBEq, Int.reduceLT, Int.reduceLE, Int.lt_irrefl, Int.reduceAdd, Int.reduceSub, Int.reduceMul, Int.reduceNeg, Nat.reduceEqDiff, List.cons.injEq, reduceCtorEq, and_self, and_true, true_and, and_false, false_and, Nat.succ_ne_self, optC_some, optC_none, Nat.reduceSub, Nat.reduceMul, Nat.reduceLeDiff, LIM, isD_tuple_non, isD_tuple_bl, isD_tuple_int, isD_tuple_str, isD_tuple_tup, isD_tuple_lst, isD_str_non, isD_str_bl, isD_str_int, isD_str_str, isD_str_tup, isD_str_lst, isD_int_non, isD_int_bl, isD_int_int, isD_int_str, isD_int_tup, isD_int_lst, isD_bool_non, isD_bool_bl, isD_bool_int, isD_bool_str, isD_bool_tup, isD_bool_lst, opB_Add, opB_Sub, opB_BitAnd, opB_BitOr, opB_BitXor, opB_AddB, opB_SubB, opB_AddS, tryR_ok, s_tryN, s_tryT, opB_AddL, opB_AddT, opB_Mul, opB_MulL, opB_MulT, opB_FloorDiv, opB_Mod, opB_Pow, opB_LShift, opB_RShift, opC_Lt, opC_LtE, opC_Gt, opC_GtE, opC_LtS, opC_IsB, opC_IsNotB, opC_IsN_non, opC_IsNotN_non, opC_IsN_bl, opC_IsNotN_bl, opC_IsN_int, opC_IsNotN_int, opC_IsN_str, opC_IsNotN_str, opC_IsN_tup, opC_IsNotN_tup, opC_IsN_lst, opC_IsNotN_lst, opC_EqS, opC_NeS, opC_EqI, opC_NeI, opC_EqB, opC_NeB, opC_InL, opC_NotInL, opC_InT, opC_NotInT, opC_InS, opC_NotInS, opF_lenS, opF_lenL, opF_lenT, opF_lenC, opF_sum, opF_max, opF_all, opF_any, opF_abs, opF_int, opF_intB, opF_listL, opF_listT, opF_listS, opF_tupL, opF_tupT, opF_sorted, opF_max2, opF_min2, opA_L, opA_T, opA_S, opA_C, opD_D, opS_L, opS_T, opS_S, opM_join, opM_index, its_non, its_bl, its_int, its_tup, its_lst, its_scr, its_fn, its_str, enu_lst, enu_str, zip_lst_lst, zip3_lst_lst_lst, zip3_lst_lst_tup, zip3_lst_lst_str, zip_lst_tup, zip3_lst_tup_lst, zip3_lst_tup_tup, zip3_lst_tup_str, zip_lst_str, zip3_lst_str_lst, zip3_lst_str_tup, zip3_lst_str_str, zip_tup_lst, zip3_tup_lst_lst, zip3_tup_lst_tup, zip3_tup_lst_str, zip_tup_tup, zip3_tup_tup_lst, zip3_tup_tup_tup, zip3_tup_tup_str, zip_tup_str, zip3_tup_str_lst, zip3_tup_str_tup, zip3_tup_str_str, zip_str_lst, zip3_str_lst_lst, zip3_str_lst_tup, zip3_str_lst_str, zip_str_tup, zip3_str_tup_lst, zip3_str_tup_tup, zip3_str_tup_str, zip_str_str, zip3_str_str_lst, zip3_str_str_tup, zip3_str_str_str, rng1_int, rng2_int, intO_int, blC_bl, notD_bl, negD_int, optN_some, isStr_str, optR_some, ints_nil, ints_cons, bls_nil, bls_cons, strs_nil, strs_cons, sumR_some, maxR_some, allR_some, anyR_some, joinR_some, optR_some, at_0, at_1, at_2, at_3, cut_1, cut_1n, cut_hd, Option.map_some])
local macro_rules | `(tactic| walk_at "fm") => `(tactic| simp -implicitDefEqProofs only [retD_toD, noClo_toD, wp_ok, wp_bind, wp_noErr, wp_endF, bind_ok, bind_err, bind_bad, noErr_ok, getV_z, getV_s, retD_non, retD_bl, retD_int, retD_str, retD_tup, retD_lst, retD_dic, retD_scr, retD_fn, retD_obj, retD_clo, e_var, e_non, e_bl, e_int, e_str, e_glob, e_fnv, e_tup, e_lst, e_lstN, e_bin, iteD_t, iteD_f, e_neg, e_not, e_and, e_or, e_cmp, e_chain, e_ite, e_call, callD_fn, callD_clo, e_callV, e_f1, e_f2, e_isin, e_idx, e_dget, e_m1, e_sl, e_comp, e_dcomp, e_callL, es_nil, es_cons, o_none, o_some, c_none, c_some, i_seq, i_rng1, i_rng2, i_zip, i_zip3, i_enum, s_asg, s_asgC, s_unp, s_par, s_setIdx, s_expr, s_iff, s_forr, s_whil, s_ret, s_retN, s_pass, s_cont, s_brk, s_raise, ss_nil, ss_cons, seqK_nx, seqK_ret, seqK_bk, seqK_ct, endF_nx, endF_ret, endF_err, forL_nil, fm_nil, fm_cons, compF, dcompF, bt_v, bt_tt, bt_tl, bts_nil, bts_cons, aa_nil, aa_cons, putV_z, putV_s, consO_some, withE_some, ifB_t, ifB_f, wipeD_nil, wipeD_cons, List.set_cons_zero, List.set_cons_succ, GT, noClo, noClos, noClos_strs, noClos_ints, noClos_bls, Bool.not_true, Bool.not_false, if_true, if_false, ite_true, ite_false, Bool.and_true, Bool.false_and, Bool.and_false, Bool.true_or, Bool.false_or, Bool.or_true, Bool.or_false, Bool.true_and, Bool.and_self, Option.bind_some, Bool.false_eq_true, List.length_cons, List.length_nil, eq_self, decide_true, decide_false, Nat.zero_add, Nat.reduceAdd, Int.cast_ofNat_Int, BEq.rfl, Int.reduceBEq, Int.reduceLT, Int.reduceLE, Int.lt_irrefl, Int.reduceAdd, Int.reduceSub, Int.reduceMul, Int.reduceNeg, Nat.reduceEqDiff, List.cons.injEq, reduceCtorEq, and_self, and_true, true_and, and_false, false_and, Nat.succ_ne_self, optC_some, optC_none, Nat.reduceSub, Nat.reduceMul, Nat.reduceLeDiff, LIM, isD_tuple_non, isD_tuple_bl, isD_tuple_int, isD_tuple_str, isD_tuple_tup, isD_tuple_lst, isD_str_non, isD_str_bl, isD_str_int, isD_str_str, isD_str_tup, isD_str_lst, isD_int_non, isD_int_bl, isD_int_int, isD_int_str, isD_int_tup, isD_int_lst, isD_bool_non, isD_bool_bl, isD_bool_int, isD_bool_str, isD_bool_tup, isD_bool_lst, opB_Add, opB_Sub, opB_BitAnd, opB_BitOr, opB_BitXor, opB_AddB, opB_SubB, opB_AddS, tryR_ok, s_tryN, s_tryT, opB_AddL, opB_AddT, opB_Mul, opB_MulL, opB_MulT, opB_FloorDiv, opB_Mod, opB_Pow, opB_LShift, opB_RShift, opC_Lt, opC_LtE, opC_Gt, opC_GtE, opC_LtS, opC_IsB, opC_IsNotB, opC_IsN_non, opC_IsNotN_non, opC_IsN_bl, opC_IsNotN_bl, opC_IsN_int, opC_IsNotN_int, opC_IsN_str, opC_IsNotN_str, opC_IsN_tup, opC_IsNotN_tup, opC_IsN_lst, opC_IsNotN_lst, opC_EqS, opC_NeS, opC_EqI, opC_NeI, opC_EqB, opC_NeB, opC_InL, opC_NotInL, opC_InT, opC_NotInT, opC_InS, opC_NotInS, opF_lenS, opF_lenL, opF_lenT, opF_lenC, opF_sum, opF_max, opF_all, opF_any, opF_abs, opF_int, opF_intB, opF_listL, opF_listT, opF_listS, opF_tupL, opF_tupT, opF_sorted, opF_max2, opF_min2, opA_L, opA_T, opA_S, opA_C, opD_D, opS_L, opS_T, opS_S, opM_join, opM_index, its_non, its_bl, its_int, its_tup, its_lst, its_scr, its_fn, its_str, enu_lst, enu_str, zip_lst_lst, zip3_lst_lst_lst, zip3_lst_lst_tup, zip3_lst_lst_str, zip_lst_tup, zip3_lst_tup_lst, zip3_lst_tup_tup, zip3_lst_tup_str, zip_lst_str, zip3_lst_str_lst, zip3_lst_str_tup, zip3_lst_str_str, zip_tup_lst, zip3_tup_lst_lst, zip3_tup_lst_tup, zip3_tup_lst_str, zip_tup_tup, zip3_tup_tup_lst, zip3_tup_tup_tup, zip3_tup_tup_str, zip_tup_str, zip3_tup_str_lst, zip3_tup_str_tup, zip3_tup_str_str, zip_str_lst, zip3_str_lst_lst, zip3_str_lst_tup, zip3_str_lst_str, zip_str_tup, zip3_str_tup_lst, zip3_str_tup_tup, zip3_str_tup_str, zip_str_str, zip3_str_str_lst, zip3_str_str_tup, zip3_str_str_str, rng1_int, rng2_int, intO_int, blC_bl, notD_bl, negD_int, optN_some, isStr_str, optR_some, ints_nil, ints_cons, bls_nil, bls_cons, strs_nil, strs_cons, sumR_some, maxR_some, allR_some, anyR_some, joinR_some, optR_some, at_0, at_1, at_2, at_3, cut_1, cut_1n, cut_hd, Option.map_some])
local macro_rules | `(tactic| walk_at "t") => `(tactic| try walk_at "fm")
open Fm
theorem clo1 (k : Nat) (x0 x1 x2 x3 x4 x5 x6 x7 x8 x9 x10 x11 x12 x13 x14 x15 x16 x17 x18 d : D) (hd : plain d = true) (s : Sto) : callF TT (k + 1) (.clo 1 [x0, x1, x2, x3, x4, x5, x6, x7, x8, x9, x10, x11, x12, x13, x14, x15, x16, x17, x18]) [d] s = (evE GT (callF TT k) (.callV 4 [.var 16, .non]) [x0, x1, x2, x3, x4, x5, x6, x7, x8, x9, x10, x11, x12, x13, x14, x15, d, x17, x18] s).bind fun d s1 => ifB (noClo d) (.ok d s1) .bad := callT_clo k 1 _ [d] _ s [16] _ rfl rfl (by simp only [noClos, plain_noClo hd, Bool.and_self])
theorem clo2 (k : Nat) (x0 x1 x2 x3 x4 x5 x6 x7 x8 x9 x10 x11 x12 x13 x14 x15 x16 x17 x18 d : D) (hd : plain d = true) (s : Sto) : callF TT (k + 1) (.clo 2 [x0, x1, x2, x3, x4, x5, x6, x7, x8, x9, x10, x11, x12, x13, x14, x15, x16, x17, x18]) [d] s = (evE GT (callF TT k) (.callV 4 [.var 8, .var 16]) [x0, x1, x2, x3, x4, x5, x6, x7, x8, x9, x10, x11, x12, x13, x14, x15, d, x17, x18] s).bind fun d s1 => ifB (noClo d) (.ok d s1) .bad := callT_clo k 2 _ [d] _ s [16] _ rfl rfl (by simp only [noClos, plain_noClo hd, Bool.and_self])
theorem clo3 (k : Nat) (x0 x1 x2 x3 x4 x5 x6 x7 x8 x9 x10 x11 x12 x13 x14 x15 x16 x17 x18 d : D) (hd : plain d = true) (s : Sto) : callF TT (k + 1) (.clo 3 [x0, x1, x2, x3, x4, x5, x6, x7, x8, x9, x10, x11, x12, x13, x14, x15, x16, x17, x18]) [d] s = (evE GT (callF TT k) (.call 20 [.var 8, .var 16]) [x0, x1, x2, x3, x4, x5, x6, x7, x8, x9, x10, x11, x12, x13, x14, x15, d, x17, x18] s).bind fun d s1 => ifB (noClo d) (.ok d s1) .bad := callT_clo k 3 _ [d] _ s [16] _ rfl rfl (by simp only [noClos, plain_noClo hd, Bool.and_self])
abbrev chkA : List CS := [.iff (.not (.call 41 [.var 4, .call 44 [], .str FV])) [.ret (.bl false)] []]
abbrev chkB : List CS := [.iff (.not (.callL 41 1 [.call 44 [], .str FV])) [.ret (.bl false)] []]
abbrev chkC : List CS := [.iff (.not (.callL 41 2 [.call 44 [], .str FV])) [.ret (.bl false)] []]
abbrev chkD : CS := .iff (.not (.callL 41 3 [.call 45 [], .str IV])) [.ret (.bl false)] []
section
variable (x0 x1 x2 x3 x4 x5 x6 x7 x9 x10 x11 x12 x13 x14 x15 x16 x17 x18 : D) (s : Sto)
theorem chkA_ok (x8 c : D) (hc : ∃ f, c = .fn f) (h : ∀ d ∈ BADF, callF TT 146 c [d] s = .err 1 s) : forB NT GT (callF TT 149) (.v 4) chkA c [x0, x1, x2, x3, x4, x5, x6, x7, x8, x9, x10, x11, x12, x13, x14, x15, x16, x17, x18] s = .ok (.nx [x0, x1, x2, x3, c, x5, x6, x7, x8, x9, x10, x11, x12, x13, x14, x15, x16, x17, x18]) s := by
  obtain ⟨f, rfl⟩ := hc
  rw [forB]
  walk_at "fm"
  rw [badF_ok]
  walk_at "fm"
  rw [allRefused_ok 145 (.fn f) BADF FV s rfl badF_clo fun d m => ⟨(badF_mem m).1, 1, by decide, nt1, h d m⟩]
  walk_at "fm"
theorem chkB_ok (x8 : D) (c : Nat) (h : ∀ d ∈ BADF, callF TT 145 (.fn c) [d, .non] s = .err 1 s) : forB NT GT (callF TT 149) (.v 4) chkB (.fn c) [x0, x1, x2, x3, x4, x5, x6, x7, x8, x9, x10, x11, x12, x13, x14, x15, x16, x17, x18] s = .ok (.nx [x0, x1, x2, x3, (.fn c), x5, x6, x7, x8, x9, x10, x11, x12, x13, x14, x15, x16, x17, x18]) s := by
  rw [forB]
  walk_at "fm"
  rw [badF_ok]
  walk_at "fm"
  rw [allRefused_ok 145 (.clo 1 _) BADF FV s rfl badF_clo fun d m => ⟨(badF_mem m).1, 1, by decide, nt1, by
    rw [clo1 _ _ _ _ _ _ _ _ _ _ _ _ _ _ _ _ _ _ _ _ _ (badF_mem m).1]
    walk_at "fm"
    rw [retD_plain (badF_mem m).1]
    walk_at "fm"
    rw [h d m]; rfl⟩]
  walk_at "fm"
theorem chkC_ok (f : Fm) (c : Nat) (h : ∀ d ∈ BADF, callF TT 145 (.fn c) [f.toD, d] s = .err 1 s) : forB NT GT (callF TT 149) (.v 4) chkC (.fn c) [x0, x1, x2, x3, x4, x5, x6, x7, f.toD, x9, x10, x11, x12, x13, x14, x15, x16, x17, x18] s = .ok (.nx [x0, x1, x2, x3, (.fn c), x5, x6, x7, f.toD, x9, x10, x11, x12, x13, x14, x15, x16, x17, x18]) s := by
  rw [forB]
  walk_at "fm"
  rw [badF_ok]
  walk_at "fm"
  rw [allRefused_ok 145 (.clo 2 _) BADF FV s rfl badF_clo fun d m => ⟨(badF_mem m).1, 1, by decide, nt1, by
    rw [clo2 _ _ _ _ _ _ _ _ _ _ _ _ _ _ _ _ _ _ _ _ _ (badF_mem m).1]
    walk_at "fm"
    rw [retD_plain (badF_mem m).1]
    walk_at "fm"
    rw [h d m]; rfl⟩]
  walk_at "fm"
theorem chkD_ok (f : Fm) (h : ∀ d ∈ BADI, callF TT 145 (.fn 20) [f.toD, d] s = .err 2 s) : exS NT GT (callF TT 149) chkD [x0, x1, x2, x3, x4, x5, x6, x7, f.toD, x9, x10, x11, x12, x13, x14, x15, x16, x17, x18] s = .ok (.nx [x0, x1, x2, x3, x4, x5, x6, x7, f.toD, x9, x10, x11, x12, x13, x14, x15, x16, x17, x18]) s := by
  walk_at "fm"
  rw [badI_ok]
  walk_at "fm"
  rw [allRefused_ok 145 (.clo 3 _) BADI IV s rfl badI_clo fun d m => ⟨(badI_mem m).1, 2, by decide, nt2, by
    rw [clo3 _ _ _ _ _ _ _ _ _ _ _ _ _ _ _ _ _ _ _ _ _ (badI_mem m).1]
    walk_at "fm"
    rw [retD_plain (badI_mem m).1]
    walk_at "fm"
    rw [h d m]; rfl⟩]
  walk_at "fm"
end

end Fv.Fw
end

section
set_option Elab.async false
set_option linter.all false
set_option maxRecDepth 100000
set_option maxHeartbeats 4000000
set_option autoImplicit false
namespace Fv.Fw
open PySem
local macro_rules | `(tactic| walk_at "ev") => `(tactic| simp -implicitDefEqProofs only [wp_ok, wp_bind, wp_noErr, wp_endF, bind_ok, bind_err, bind_bad, noErr_ok, getV_z, getV_s, retD_non, retD_bl, retD_int, retD_str, retD_tup, retD_lst, retD_dic, retD_scr, retD_fn, retD_obj, retD_clo, e_var, e_non, e_bl, e_int, e_str, e_glob, e_fnv, e_tup, e_lst, e_lstN, e_bin, iteD_t, iteD_f, e_neg, e_not, e_and, e_or, e_cmp, e_chain, e_ite, e_call, callD_fn, callD_clo, e_callV, e_f1, e_f2, e_isin, e_idx, e_dget, e_m1, e_sl, e_comp, e_dcomp, e_callL, es_nil, es_cons, o_none, o_some, c_none, c_some, i_seq, i_rng1, i_rng2, i_zip, i_zip3, i_enum, s_asg, s_asgC, s_unp, s_par, s_setIdx, s_expr, s_iff, s_forr, s_whil, s_ret, s_retN, s_pass, s_cont, s_brk, s_raise, ss_nil, ss_cons, seqK_nx, seqK_ret, seqK_bk, seqK_ct, endF_nx, endF_ret, endF_err, forL_nil, fm_nil, fm_cons, compF, dcompF, bt_v, bt_tt, bt_tl, bts_nil, bts_cons, aa_nil, aa_cons, putV_z, putV_s, consO_some, withE_some, ifB_t, ifB_f, wipeD_nil, wipeD_cons, List.set_cons_zero, List.set_cons_succ, GT, noClo, noClos, noClos_strs, noClos_ints, noClos_bls, Bool.not_true, Bool.not_false, if_true, if_false, ite_true, ite_false, Bool.and_true, Bool.false_and, Bool.and_false, Bool.true_or, Bool.false_or, Bool.or_true, Bool.or_false, Bool.true_and, Bool.and_self, Option.bind_some, Bool.false_eq_true, List.length_cons, List.length_nil, eq_self, decide_true, decide_false, Nat.zero_add, Nat.reduceAdd, Int.cast_ofNat_Int, BEq.rfl, Int.reduceBEq, Int.reduceLT, Int.reduceLE, Int.lt_irrefl, Int.reduceAdd, Int.reduceSub, Int.reduceMul, Int.reduceNeg, Nat.reduceEqDiff, List.cons.injEq, reduceCtorEq, and_self, and_true, true_and, and_false, false_and, Nat.succ_ne_self, optC_some, optC_none, Nat.reduceSub, Nat.reduceMul, Nat.reduceLeDiff, LIM, isD_tuple_non, isD_tuple_bl, isD_tuple_int, isD_tuple_str, isD_tuple_tup, isD_tuple_lst, isD_str_non, isD_str_bl, isD_str_int, isD_str_str, isD_str_tup, isD_str_lst, isD_int_non, isD_int_bl, isD_int_int, isD_int_str, isD_int_tup, isD_int_lst, isD_bool_non, isD_bool_bl, isD_bool_int, isD_bool_str, isD_bool_tup, isD_bool_lst, opB_Add, opB_Sub, opB_BitAnd, opB_BitOr, opB_BitXor, opB_AddB, opB_SubB, opB_AddS, tryR_ok, s_tryN, s_tryT, opB_AddL, opB_AddT, opB_Mul, opB_MulL, opB_MulT, opB_FloorDiv, opB_Mod, opB_Pow, opB_LShift, opB_RShift, opC_Lt, opC_LtE, opC_Gt, opC_GtE, opC_LtS, opC_IsB, opC_IsNotB, opC_IsN_non, opC_IsNotN_non, opC_IsN_bl, opC_IsNotN_bl, opC_IsN_int, opC_IsNotN_int, opC_IsN_str, opC_IsNotN_str, opC_IsN_tup, opC_IsNotN_tup, opC_IsN_lst, opC_IsNotN_lst, opC_EqS, opC_NeS, opC_EqI, opC_NeI, opC_EqB, opC_NeB, opC_InL, opC_NotInL, opC_InT, opC_NotInT, opC_InS, opC_NotInS, opF_lenS, opF_lenL, opF_lenT, opF_lenC, opF_sum, opF_max, opF_all, opF_any, opF_abs, opF_int, opF_intB, opF_listL, opF_listT, opF_listS, opF_tupL, opF_tupT, opF_sorted, opF_max2, opF_min2, opA_L, opA_T, opA_S, opA_C, opD_D, opS_L, opS_T, opS_S, opM_join, opM_index, its_non, its_bl, its_int, its_tup, its_lst, its_scr, its_fn, its_str, enu_lst, enu_str, zip_lst_lst, zip3_lst_lst_lst, zip3_lst_lst_tup, zip3_lst_lst_str, zip_lst_tup, zip3_lst_tup_lst, zip3_lst_tup_tup, zip3_lst_tup_str, zip_lst_str, zip3_lst_str_lst, zip3_lst_str_tup, zip3_lst_str_str, zip_tup_lst, zip3_tup_lst_lst, zip3_tup_lst_tup, zip3_tup_lst_str, zip_tup_tup, zip3_tup_tup_lst, zip3_tup_tup_tup, zip3_tup_tup_str, zip_tup_str, zip3_tup_str_lst, zip3_tup_str_tup, zip3_tup_str_str, zip_str_lst, zip3_str_lst_lst, zip3_str_lst_tup, zip3_str_lst_str, zip_str_tup, zip3_str_tup_lst, zip3_str_tup_tup, zip3_str_tup_str, zip_str_str, zip3_str_str_lst, zip3_str_str_tup, zip3_str_str_str, rng1_int, rng2_int, intO_int, blC_bl, notD_bl, negD_int, optN_some, isStr_str, optR_some, ints_nil, ints_cons, bls_nil, bls_cons, strs_nil, strs_cons, sumR_some, maxR_some, allR_some, anyR_some, joinR_some, optR_some, at_0, at_1, at_2, at_3, cut_1, cut_1n, cut_hd, Option.map_some])
local macro_rules | `(tactic| walk_at "fm") => `(tactic| simp -implicitDefEqProofs only [retD_toD, noClo_toD, wp_ok, wp_bind, wp_noErr, wp_endF, bind_ok, bind_err, bind_bad, noErr_ok, getV_z, getV_s, retD_non, retD_bl, retD_int, retD_str, retD_tup, retD_lst, retD_dic, retD_scr, retD_fn, retD_obj, retD_clo, e_var, e_non, e_bl, e_int, e_str, e_glob, e_fnv, e_tup, e_lst, e_lstN, e_bin, iteD_t, iteD_f, e_neg, e_not, e_and, e_or, e_cmp, e_chain, e_ite, e_call, callD_fn, callD_clo, e_callV, e_f1, e_f2, e_isin, e_idx, e_dget, e_m1, e_sl, e_comp, e_dcomp, e_callL, es_nil, es_cons, o_none, o_some, c_none, c_some, i_seq, i_rng1, i_rng2, i_zip, i_zip3, i_enum, s_asg, s_asgC, s_unp, s_par, s_setIdx, s_expr, s_iff, s_forr, s_whil, s_ret, s_retN, s_pass, s_cont, s_brk, s_raise, ss_nil, ss_cons, seqK_nx, seqK_ret, seqK_bk, seqK_ct, endF_nx, endF_ret, endF_err, forL_nil, fm_nil, fm_cons, compF, dcompF, bt_v, bt_tt, bt_tl, bts_nil, bts_cons, aa_nil, aa_cons, putV_z, putV_s, consO_some, withE_some, ifB_t, ifB_f, wipeD_nil, wipeD_cons, List.set_cons_zero, List.set_cons_succ, GT, noClo, noClos, noClos_strs, noClos_ints, noClos_bls, Bool.not_true, Bool.not_false, if_true, if_false, ite_true, ite_false, Bool.and_true, Bool.false_and, Bool.and_false, Bool.true_or, Bool.false_or, Bool.or_true, Bool.or_false, Bool.true_and, Bool.and_self, Option.bind_some, Bool.false_eq_true, List.length_cons, List.length_nil, eq_self, decide_true, decide_false, Nat.zero_add, Nat.reduceAdd, Int.cast_ofNat_Int, BEq.rfl, Int.reduceBEq, Int.reduceLT, Int.reduceLE, Int.lt_irrefl, Int.reduceAdd, Int.reduceSub, Int.reduceMul, Int.reduceNeg, Nat.reduceEqDiff, List.cons.injEq, reduceCtorEq, and_self, and_true, true_and, and_false, false_and, Nat.succ_ne_self, optC_some, optC_none, Nat.reduceSub, Nat.reduceMul, Nat.reduceLeDiff, LIM, isD_tuple_non, isD_tuple_bl, isD_tuple_int, isD_tuple_str, isD_tuple_tup, isD_tuple_lst, isD_str_non, isD_str_bl, isD_str_int, isD_str_str, isD_str_tup, isD_str_lst, isD_int_non, isD_int_bl, isD_int_int, isD_int_str, isD_int_tup, isD_int_lst, isD_bool_non, isD_bool_bl, isD_bool_int, isD_bool_str, isD_bool_tup, isD_bool_lst, opB_Add, opB_Sub, opB_BitAnd, opB_BitOr, opB_BitXor, opB_AddB, opB_SubB, opB_AddS, tryR_ok, s_tryN, s_tryT, opB_AddL, opB_AddT, opB_Mul, opB_MulL, opB_MulT, opB_FloorDiv, opB_Mod, opB_Pow, opB_LShift, opB_RShift, opC_Lt, opC_LtE, opC_Gt, opC_GtE, opC_LtS, opC_IsB, opC_IsNotB, opC_IsN_non, opC_IsNotN_non, opC_IsN_bl, opC_IsNotN_bl, opC_IsN_int, opC_IsNotN_int, opC_IsN_str, opC_IsNotN_str, opC_IsN_tup, opC_IsNotN_tup, opC_IsN_lst, opC_IsNotN_lst, opC_EqS, opC_NeS, opC_EqI, opC_NeI, opC_EqB, opC_NeB, opC_InL, opC_NotInL, opC_InT, opC_NotInT, opC_InS, opC_NotInS, opF_lenS, opF_lenL, opF_lenT, opF_lenC, opF_sum, opF_max, opF_all, opF_any, opF_abs, opF_int, opF_intB, opF_listL, opF_listT, opF_listS, opF_tupL, opF_tupT, opF_sorted, opF_max2, opF_min2, opA_L, opA_T, opA_S, opA_C, opD_D, opS_L, opS_T, opS_S, opM_join, opM_index, its_non, its_bl, its_int, its_tup, its_lst, its_scr, its_fn, its_str, enu_lst, enu_str, zip_lst_lst, zip3_lst_lst_lst, zip3_lst_lst_tup, zip3_lst_lst_str, zip_lst_tup, zip3_lst_tup_lst, zip3_lst_tup_tup, zip3_lst_tup_str, zip_lst_str, zip3_lst_str_lst, zip3_lst_str_tup, zip3_lst_str_str, zip_tup_lst, zip3_tup_lst_lst, zip3_tup_lst_tup, zip3_tup_lst_str, zip_tup_tup, zip3_tup_tup_lst, zip3_tup_tup_tup, zip3_tup_tup_str, zip_tup_str, zip3_tup_str_lst, zip3_tup_str_tup, zip3_tup_str_str, zip_str_lst, zip3_str_lst_lst, zip3_str_lst_tup, zip3_str_lst_str, zip_str_tup, zip3_str_tup_lst, zip3_str_tup_tup, zip3_str_tup_str, zip_str_str, zip3_str_str_lst, zip3_str_str_tup, zip3_str_str_str, rng1_int, rng2_int, intO_int, blC_bl, notD_bl, negD_int, optN_some, isStr_str, optR_some, ints_nil, ints_cons, bls_nil, bls_cons, strs_nil, strs_cons, sumR_some, maxR_some, allR_some, anyR_some, joinR_some, optR_some, at_0, at_1, at_2, at_3, cut_1, cut_1n, cut_hd, Option.map_some])
local macro_rules | `(tactic| walk_at "t") => `(tactic| try walk_at "fm")
open Fm
abbrev outB : List CS := [.asg 2 (.call 23 [.var 0, .var 1]), .forr (.v 3) (.rng1 (.int 3)) innerB, .forr (.v 4) (.seq (.tup [.fnv 18, .fnv 19])) chkA, .forr (.v 4) (.seq (.tup [.fnv 20, .fnv 21, .fnv 22])) chkB, .forr (.v 4) (.seq (.tup [.fnv 21, .fnv 22])) chkC, chkD]
abbrev tailB : List CS := [.unp [.v 5, .v 6, .v 7] (.call 42 []), .iff (.cmp .NotEq (.comp (.var 9) (.v 9) [9] (.seq (.call 44 [])) (some (.cmp .IsNot (.call 17 [.var 9]) (.bl false)))) (.lst [])) [.ret (.bl false)] [], .iff (.cmp .NotEq (.comp (.var 9) (.v 9) [9] (.seq (.tup [.var 5, .var 6, .var 7, .str [97], .tup [.str [110, 111, 116], .str [102]], .call 43 [.int 40]])) (some (.cmp .IsNot (.call 17 [.var 9]) (.bl true)))) (.lst [])) [.ret (.bl false)] [], .iff (.cmp .NotEq (.lst [.call 18 [.var 7], .call 19 [.var 5], .call 19 [.var 7], .call 19 [.tup [.str [110, 111, 116], .str [97]]], .call 18 [.call 43 [.int 40]], .call 19 [.call 43 [.int 40]]]) (.lst [.int 5, .int 2, .int 4, .int 0, .int 40, .int 39])) [.ret (.bl false)] [], .iff (.cmp .NotEq (.lst [.call 20 [.var 5, .str [99]], .call 20 [.var 5, .str [97]], .call 20 [.var 7, .str [97, 98]], .call 20 [.tup [.str [110, 111, 116], .str [97]], .str []]]) (.lst [.bl true, .bl false, .bl true, .bl true])) [.ret (.bl false)] [], .iff (.cmp .NotEq (.lst [.call 21 [.var 5, .var 6], .call 21 [.var 5, .str [99]]]) (.lst [.bl true, .bl false])) [.ret (.bl false)] [], .ret (.cmp .Eq (.lst [.call 22 [.var 5, .str [99]], .call 22 [.var 5, .var 6], .call 22 [.str [97], .tup [.str [110, 111, 116], .str [97]]], .call 22 [.var 7, .str [97]]]) (.lst [.str [97, 98], .non, .str [], .str [97]]))]
theorem out_ok (ns : List Int) (x1 x2 x3 x4 x5 x6 x7 x8 x9 x10 x11 x12 x13 x14 x15 x16 x17 x18 : D) (i : Nat) (hi : i < 1000) (s : Sto) :
    wp (forB NT GT (callF TT 149) (.v 1) outB (.int (i : Nat)) [.scr ns, x1, x2, x3, x4, x5, x6, x7, x8, x9, x10, x11, x12, x13, x14, x15, x16, x17, x18] s) fun fl s' => ∃ x1 x2 x3 x4 x5 x6 x7 x8 x9 x10 x11 x12 x13 x14 x15 x16 x17 x18, fl = .nx [.scr ns, x1, x2, x3, x4, x5, x6, x7, x8, x9, x10, x11, x12, x13, x14, x15, x16, x17, x18] := by
  rw [forB]
  walk_at "fm"
  obtain ⟨a, b, ha, hb, hb2, he⟩ := vat_ok ns i (by omega) s 148
  rw [he]
  walk_at "fm"
  rw [show okRng 3 = true from rfl]
  walk_at "fm"
  have hv : Vat s.length (s ++ [.lst [.int a, .int b]]) := ⟨a, b, by rw [List.getElem?_append_right (Nat.le_refl _), Nat.sub_self]; rfl, ha, hb, hb2⟩
  refine forL_ret (I := fun j env s' => Vat s.length s' ∧ ∃ x3 x8 x9 x10 x11 x12 x13 x14 x15, (0 < j → ∃ f, Good f ∧ x8 = f.toD) ∧ env = [.scr ns, .int (i : Nat), .obj s.length, x3, x4, x5, x6, x7, x8, x9, x10, x11, x12, x13, x14, x15, x16, x17, x18]) (P := fun _ _ => False) ?_ ?_ ?_ ⟨hv, _, _, _, _, _, _, _, _, _, fun h => absurd h (by decide), rfl⟩
  · rintro j x env s3 hx ⟨v3, y3, y8, y9, y10, y11, y12, y13, y14, y15, _, rfl⟩
    obtain ⟨rfl, hj⟩ := rngL_get hx
    rw [Int.zero_add]
    refine wp_use (inner_ok _ _ _ _ _ _ _ _ _ _ _ _ _ _ _ _ _ _ s.length j s3 v3) ?_
    rintro _ s4 ⟨v4, f, _, _, _, _, _, _, _, hf, rfl⟩
    exact ⟨v4.vat, _, _, _, _, _, _, _, _, _, fun _ => ⟨f, hf, rfl⟩, rfl⟩
  · rintro env s3 ⟨v3, y3, y8, y9, y10, y11, y12, y13, y14, y15, h8, rfl⟩
    obtain ⟨f, hf, rfl⟩ := h8 (by rw [rngL_len]; decide)
    have hF := hf.isF
    walk_at "fm"
    rw [forL_cons, chkA_ok _ _ _ _ _ _ _ _ _ _ _ _ _ _ _ _ _ _ s3 _ _ ⟨18, rfl⟩ fun d m => leaves_err (badF_mem m).1 (badF_mem m).2 146 s3 (by decide)]
    walk_at "fm"
    rw [forK_nx, forL_cons, chkA_ok _ _ _ _ _ _ _ _ _ _ _ _ _ _ _ _ _ _ s3 _ _ ⟨19, rfl⟩ fun d m => depth_err (badF_mem m).1 (badF_mem m).2 146 s3 (by decide)]
    walk_at "fm"
    rw [forK_nx]
    walk_at "fm"
    rw [forL_cons, chkB_ok _ _ _ _ _ _ _ _ _ _ _ _ _ _ _ _ _ _ s3 _ 20 fun d m => truth_err (badF_mem m).1 (badF_mem m).2 145 s3 (by decide) _]
    walk_at "fm"
    rw [forK_nx, forL_cons, chkB_ok _ _ _ _ _ _ _ _ _ _ _ _ _ _ _ _ _ _ s3 _ 21 fun d m => alike_err (badF_mem m).1 (badF_mem m).2 145 s3 (by decide) _]
    walk_at "fm"
    rw [forK_nx, forL_cons, chkB_ok _ _ _ _ _ _ _ _ _ _ _ _ _ _ _ _ _ _ s3 _ 22 fun d m => parting_err (badF_mem m).1 (badF_mem m).2 145 s3 (by decide) _]
    walk_at "fm"
    rw [forK_nx]
    walk_at "fm"
    rw [forL_cons, chkC_ok _ _ _ _ _ _ _ _ _ _ _ _ _ _ _ _ _ _ s3 f 21 fun d m => alike_err2 (badF_mem m).1 (badF_mem m).2 145 s3 (by decide) f hF]
    walk_at "fm"
    rw [forK_nx, forL_cons, chkC_ok _ _ _ _ _ _ _ _ _ _ _ _ _ _ _ _ _ _ s3 f 22 fun d m => parting_err2 (badF_mem m).1 (badF_mem m).2 145 s3 (by decide) f hF]
    walk_at "fm"
    rw [forK_nx, forL_nil, wp_ok, seqK_nx]
    refine wp_cons ?_
    rw [chkD_ok _ _ _ _ _ _ _ _ _ _ _ _ _ _ _ _ _ _ s3 f fun d m => truth_err2 (badI_mem m).1 (badI_mem m).2 145 s3 (by decide) f hF, wp_ok, seqK_nx, ss_nil, wp_ok]
    exact ⟨_, _, _, _, _, _, _, _, _, _, _, _, _, _, _, _, _, _, rfl⟩
  · rintro d s3 h
    exact h.elim
theorem tail_ok (ns : List Int) (x1 x2 x3 x4 x5 x6 x7 x8 x9 x10 x11 x12 x13 x14 x15 x16 x17 x18 : D) (s : Sto) : endF (exSs NT GT (callF TT 149) tailB [.scr ns, x1, x2, x3, x4, x5, x6, x7, x8, x9, x10, x11, x12, x13, x14, x15, x16, x17, x18] s) = .ok (.bl true) s := by kernel_rfl
theorem b46 : B46 = .forr (.v 1) (.rng1 (.f2 .max (.int 5) (.f2 .min (.int 11) (.f1 .len (.var 0))))) outB :: tailB := rfl
theorem law_plain : ∀ ns : List Int, ns.length ≤ 63 → ∃ s, callF TT 150 (.fn 46) [.scr ns] [] = .ok (.bl true) s := by
  intro ns hn
  suffices h : wp (callF TT 150 (.fn 46) [.scr ns] []) fun r _ => r = .bl true by
    obtain ⟨r, s, h1, rfl⟩ := wp_get h
    exact ⟨s, h1⟩
  rw [show (150 : Nat) = 149 + 1 from rfl, c46, b46]
  refine wp_end (wp_cons ?_)
  rw [s_forr, wp_bind, i_rng1, wp_bind]
  walk_at "fm"
  have hr : okRng (if (if ((ns.length : Nat) : Int) < 11 then ((ns.length : Nat) : Int) else 11) > 5 then (if ((ns.length : Nat) : Int) < 11 then ((ns.length : Nat) : Int) else 11) else 5) = true := by
    unfold okRng
    rw [Bool.and_eq_true, decide_eq_true_iff, decide_eq_true_iff]
    constructor <;> (split <;> split <;> omega)
  rw [if_pos hr, wp_ok]
  refine forL_ret (I := fun _ env _ => ∃ x1 x2 x3 x4 x5 x6 x7 x8 x9 x10 x11 x12 x13 x14 x15 x16 x17 x18, env = [.scr ns, x1, x2, x3, x4, x5, x6, x7, x8, x9, x10, x11, x12, x13, x14, x15, x16, x17, x18]) (P := fun _ _ => False) ?_ ?_ ?_ ⟨_, _, _, _, _, _, _, _, _, _, _, _, _, _, _, _, _, _, rfl⟩
  · rintro j x env s3 hx ⟨_, _, _, _, _, _, _, _, _, _, _, _, _, _, _, _, _, _, rfl⟩
    obtain ⟨rfl, hj⟩ := rngL_get hx
    rw [Int.zero_add]
    refine wp_use (out_ok ns _ _ _ _ _ _ _ _ _ _ _ _ _ _ _ _ _ _ j (by
      have h : ∀ a : Int, okRng a = true → a ≤ 63 → a.toNat ≤ 63 := fun a _ h => by omega
      refine Nat.lt_of_lt_of_le hj (Nat.le_trans (h _ hr ?_) (by decide))
      split <;> (try split) <;> omega) s3) ?_
    rintro _ s4 ⟨_, _, _, _, _, _, _, _, _, _, _, _, _, _, _, _, _, _, rfl⟩
    exact ⟨_, _, _, _, _, _, _, _, _, _, _, _, _, _, _, _, _, _, rfl⟩
  · rintro env s3 ⟨_, _, _, _, _, _, _, _, _, _, _, _, _, _, _, _, _, _, rfl⟩
    rw [seqK_nx]
    refine wp_of_end ?_
    rw [tail_ok, wp_ok]
  · rintro d s3 h
    exact h.elim

end Fv.Fw
end

section
set_option Elab.async false
set_option linter.all false
set_option maxRecDepth 100000
set_option maxHeartbeats 4000000
namespace Fv
open PySem PySem.Spec PyProof.Rows L2
open Fw (TT GT NT)
def top (i : Nat) : Stmt := PySem.Challenge.pw_fivestates_k01_formulas_and_values.main.body.getD i (.Pass ⟨0, 0, 0, 0⟩)
def LROWS : List Row := [⟨0, top 26, [("value" : Str)], false⟩,
  ⟨1, top 27, [("value" : Str), ("deep" : Str), ("good" : Str), ("part" : Str)], false⟩,
  ⟨2, top 28, [("formula" : Str), ("part" : Str)], false⟩,
  ⟨3, top 29, [("formula" : Str), ("part" : Str)], false⟩,
  ⟨4, top 30, [("formula" : Str), ("part" : Str)], false⟩,
  ⟨5, top 31, [("value" : Str)], false⟩,
  ⟨6, top 32, [("value" : Str), ("one" : Str), ("other" : Str), ("letter" : Str)], false⟩,
  ⟨7, top 33, [("formula" : Str)], false⟩,
  ⟨8, top 34, [("inputs" : Str)], false⟩,
  ⟨9, top 35, [("number" : Str), ("at" : Str), ("letter" : Str)], false⟩,
  ⟨10, top 36, [("inputs" : Str), ("letter" : Str)], false⟩,
  ⟨11, top 37, [("number" : Str)], false⟩,
  ⟨12, top 38, [("letter" : Str), ("number" : Str)], false⟩,
  ⟨13, top 39, [("formula" : Str), ("known" : Str), ("some" : Str), ("part" : Str)], false⟩,
  ⟨14, top 40, [("formula" : Str), ("letter" : Str)], false⟩,
  ⟨15, top 41, [("formula" : Str), ("inputs" : Str), ("some" : Str), ("part" : Str)], false⟩,
  ⟨16, top 42, [("table" : Str), ("some" : Str), ("inputs" : Str)], false⟩,
  ⟨17, top 44, [("value" : Str)], false⟩,
  ⟨18, top 45, [("formula" : Str)], false⟩,
  ⟨19, top 46, [("formula" : Str)], false⟩,
  ⟨20, top 47, [("formula" : Str), ("inputs" : Str)], false⟩,
  ⟨21, top 48, [("one" : Str), ("other" : Str)], false⟩,
  ⟨22, top 49, [("one" : Str), ("other" : Str)], false⟩,
  ⟨23, top 51, [("script" : Str), ("k" : Str), ("cell" : Str)], false⟩,
  ⟨24, top 52, [("vat" : Str), ("many" : Str), ("wide" : Str), ("found" : Str)], false⟩,
  ⟨25, top 53, [("vat" : Str), ("things" : Str)], false⟩,
  ⟨26, top 54, [("found" : Str), ("due" : Str)], false⟩,
  ⟨27, top 55, [("value" : Str)], false⟩,
  ⟨28, top 56, [("value" : Str), ("part" : Str)], false⟩,
  ⟨29, top 57, [("formula_so" : Str), ("found" : Str), ("part" : Str)], false⟩,
  ⟨30, top 58, [("formula_so" : Str), ("part" : Str)], false⟩,
  ⟨31, top 59, [("formula_so" : Str), ("part" : Str)], false⟩,
  ⟨32, top 60, [("value" : Str)], false⟩,
  ⟨33, top 61, [("formula_so" : Str), ("inputs_so" : Str), ("one" : Str), ("other" : Str)], false⟩,
  ⟨34, top 62, [("found" : Str), ("letter" : Str), ("some" : Str)], false⟩,
  ⟨35, top 63, [("formula_so" : Str), ("inputs_so" : Str)], false⟩,
  ⟨36, top 64, [("vat" : Str), ("many" : Str), ("found" : Str), ("left" : Str)], false⟩,
  ⟨37, top 65, [("vat" : Str), ("most" : Str), ("turn" : Str), ("found" : Str)], false⟩,
  ⟨38, top 66, [("vat" : Str), ("value" : Str), ("way" : Str), ("at" : Str)], false⟩,
  ⟨40, top 68, [("call" : Str), ("e" : Str)], false⟩,
  ⟨41, top 69, [("call" : Str), ("odds" : Str), ("name" : Str), ("odd" : Str)], true⟩,
  ⟨42, top 70, [("one" : Str), ("other" : Str)], false⟩,
  ⟨43, top 71, [("many" : Str), ("found" : Str), ("at" : Str)], false⟩,
  ⟨44, top 72, [("some" : Str), ("found" : Str), ("turn" : Str)], false⟩,
  ⟨45, top 73, [], false⟩,
  ⟨46, top 74, [("script" : Str), ("k" : Str), ("vat" : Str), ("turn" : Str), ("call" : Str), ("a" : Str), ("b" : Str), ("c" : Str), ("one" : Str), ("value" : Str), ("again" : Str), ("inputs_so" : Str), ("other" : Str), ("some" : Str), ("mine" : Str), ("yours" : Str), ("odd" : Str), ("here" : Str), ("there" : Str)], true⟩]
def LFN : List (Option Str) := [some ("is_letter" : Str), some ("is_shape" : Str), some ("leaves_of" : Str), some ("tuples_of" : Str), some ("depth_of" : Str), some ("is_good" : Str), some ("are_inputs" : Str), some ("need_formula" : Str), some ("need_inputs" : Str), some ("lot_of" : Str), some ("number_of" : Str), some ("all_inputs" : Str), some ("letter_table" : Str), some ("table_by" : Str), some ("table_of" : Str), some ("is_true" : Str), some ("first_of" : Str), some ("is_formula" : Str), some ("leaves" : Str), some ("depth" : Str), some ("truth" : Str), some ("alike" : Str), some ("parting" : Str), some ("_law_vat" : Str), some ("_law_under" : Str), some ("_law_some" : Str), some ("_law_truly" : Str), some ("_law_is_letter" : Str), some ("_law_shaped" : Str), some ("_law_letters" : Str), some ("_law_tuples" : Str), some ("_law_depth" : Str), some ("_law_is_formula" : Str), some ("_law_truth" : Str), some ("_law_inputs" : Str), some ("_law_column" : Str), some ("_law_tree" : Str), some ("_law_formula" : Str), some ("_law_spoilt" : Str), none, some ("_law_error" : Str), some ("_law_all_refused" : Str), some ("_law_known" : Str), some ("_law_chain" : Str), some ("_law_bad_formulas" : Str), some ("_law_bad_inputs" : Str), some ("law" : Str)]
def LGL : List (Option (Str × GV)) := [some (("LETTERS" : Str), .str [97, 98, 99, 100, 101, 102]), some (("MOST_LEAVES" : Str), .int (40)), some (("MOST_TUPLES" : Str), .int (60)), some (("LOTS" : Str), .int (64)), some (("FULL" : Str), .int (18446744073709551615))]
def LL : Law := ⟨LROWS, LFN, LGL, some (top 67), TT⟩
def names0 : List PySem.Str := [("ShallowError" : Str), ("InvalidFormula" : Str), ("InvalidInputs" : Str), ("InvalidNumber" : Str), ("InvalidProgram" : Str), ("InvalidShuffle" : Str), ("InvalidShuffles" : Str), ("InvalidSums" : Str), ("InvalidNumbers" : Str), ("InvalidSteps" : Str), ("InvalidRegisters" : Str), ("InvalidLetter" : Str), ("InvalidPlace" : Str), ("InvalidText" : Str), ("TooDeep" : Str), ("Unlike" : Str), ("Ended" : Str), ("NothingToUndo" : Str), ("TooMany" : Str), ("LETTERS" : Str), ("MOST_LEAVES" : Str), ("MOST_TUPLES" : Str), ("LOTS" : Str), ("FULL" : Str), ("is_letter" : Str), ("is_shape" : Str), ("leaves_of" : Str), ("tuples_of" : Str), ("depth_of" : Str), ("is_good" : Str), ("are_inputs" : Str), ("need_formula" : Str), ("need_inputs" : Str), ("lot_of" : Str), ("number_of" : Str)]
def names1 : List PySem.Str := [("all_inputs" : Str), ("letter_table" : Str), ("table_by" : Str), ("table_of" : Str), ("is_true" : Str), ("first_of" : Str), ("is_formula" : Str), ("leaves" : Str), ("depth" : Str), ("truth" : Str), ("alike" : Str), ("parting" : Str), ("_law_vat" : Str), ("_law_under" : Str), ("_law_some" : Str), ("_law_truly" : Str), ("_law_is_letter" : Str), ("_law_shaped" : Str), ("_law_letters" : Str), ("_law_tuples" : Str), ("_law_depth" : Str), ("_law_is_formula" : Str), ("_law_truth" : Str), ("_law_inputs" : Str), ("_law_column" : Str), ("_law_tree" : Str), ("_law_formula" : Str), ("_law_spoilt" : Str), ("_law_names" : Str), ("_law_error" : Str), ("_law_all_refused" : Str), ("_law_known" : Str), ("_law_chain" : Str), ("_law_bad_formulas" : Str), ("_law_bad_inputs" : Str)]
def LNAMES : List PySem.Str := names0 ++ names1
abbrev RR : PySem.W.OpenRow := PySem.W.OpenLaw.row PySem.Challenge.rw_fivestates_k01_formulas_and_values
abbrev QV : Program := PySem.W.view RR.prog [74]
abbrev HK : PySem.W.Hook := He.hookX 6 LL.fa LL.dds [] LL.tf LL.ex
def OB (s : PySem.W.SharedT) : He.AlX := He.obsX 6 LL.fa LL.dds [] LL.tf LL.ex (HandSHeadRun.getT s)
theorem ob_eq (s : PySem.W.SharedT) : OB s = HK.obs s.abs := He.obsX_eq (HandSHeadRun.getT_eq s)
theorem run (w : World) : HandSHeadRun.RunEq RR QV HK OB 60000 LNAMES w := by
  intro os
  kernel_rfl
theorem rows_ok : ∀ r ∈ LROWS, rowB LL r = true := by
  have h : LROWS.all (rowB LL) = true := by decide +kernel
  exact List.all_eq_true.mp h
theorem gl_ok : ∀ i x v, LGL[i]? = some (some (x, v)) → GT i = gvD v
  | 0, x, v, h => by
    have h : some (some ((("LETTERS" : Str), .str [97, 98, 99, 100, 101, 102]) : Str × GV)) = some (some (x, v)) := h
    simp only [Option.some.injEq, Prod.mk.injEq] at h
    rw [← h.2]; rfl
  | 1, x, v, h => by
    have h : some (some ((("MOST_LEAVES" : Str), .int (40)) : Str × GV)) = some (some (x, v)) := h
    simp only [Option.some.injEq, Prod.mk.injEq] at h
    rw [← h.2]; rfl
  | 2, x, v, h => by
    have h : some (some ((("MOST_TUPLES" : Str), .int (60)) : Str × GV)) = some (some (x, v)) := h
    simp only [Option.some.injEq, Prod.mk.injEq] at h
    rw [← h.2]; rfl
  | 3, x, v, h => by
    have h : some (some ((("LOTS" : Str), .int (64)) : Str × GV)) = some (some (x, v)) := h
    simp only [Option.some.injEq, Prod.mk.injEq] at h
    rw [← h.2]; rfl
  | 4, x, v, h => by
    have h : some (some ((("FULL" : Str), .int (18446744073709551615)) : Str × GV)) = some (some (x, v)) := h
    simp only [Option.some.injEq, Prod.mk.injEq] at h
    rw [← h.2]; rfl
  | n + 5, x, v, h => by
    have h : (none : Option (Option (Str × GV))) = some (some (x, v)) := h
    simp at h
theorem nms_ok : ∀ e, e ≠ 18 → namesOf (bsOf e) = NT e := by
  intro e he
  by_cases h : e < 19
  · have d : ∀ e1 : Fin 19, e1.val ≠ 18 → namesOf (bsOf e1.val) = NT e1.val := by decide +kernel
    exact d ⟨e, h⟩ he
  · obtain ⟨j, rfl⟩ : ∃ j, e = j + 19 := ⟨e - 19, by omega⟩
    have e1 : bsOf (j + 19) = bsOf 1 := by
      unfold bsOf; rw [if_neg (by omega)]; rfl
    rw [e1]
    exact (by decide +kernel : namesOf (bsOf 1) = NT 1)
theorem law_ok : LawOk LL := ⟨rows_ok, by decide +kernel, by decide +kernel, gl_ok, fun st h => by cases h; decide +kernel, nms_ok⟩
end Fv

end
open PySem PySem.W PySem.Calls PyProof.Rows
set_option maxRecDepth 100000 in
set_option maxHeartbeats 0 in
theorem PySem.Challenge.cw_fivestates_k01_formulas_and_values_holds : PySem.Challenge.rw_fivestates_k01_formulas_and_values.Holds := by
  w_on; o_law
  refine HandSHeadRun.head_any (r := OpenLaw.row PySem.Challenge.rw_fivestates_k01_formulas_and_values) (q := Fv.QV) (H := Fv.HK) (ob := Fv.OB) (M := 60000) (loose := Fv.LNAMES) (d := HandSHeadRun.topDef (OpenLaw.row PySem.Challenge.rw_fivestates_k01_formulas_and_values).prog 74) (kwd := []) Fv.ob_eq
    (by kernel_rfl) (fun s => by kernel_rfl) Fv.run (by kernel_rfl) (by kernel_rfl) (by kernel_rfl) (by rfl) (by first | assumption | decide +kernel) (by decide +kernel) ⟨rfl, rfl, rfl, rfl, rfl, by decide +kernel⟩ ?hw ?hc
  case hw => w_witness2
  case hc =>
    refine LamX.walk_ofTsE (l := PySem.Challenge.rw_fivestates_k01_formulas_and_values) (n := 63) (k := 150 + 1) (x := "script") (CX := fun w => L2N.CX (PySem.Challenge.rw_fivestates_k01_formulas_and_values).prog w) rfl (by decide) (by kernel_rfl) ⟨rfl, by decide, by decide⟩ ?F Fv.cx_no
    intro w mg fa h Y G hmg0
    obtain ⟨K, KX, c⟩ := Y
    have hmg : mg ("law" : PySem.Str) = some (.ref fa) := by
      have e : (HandSHeadRun.topDef (OpenLaw.row PySem.Challenge.rw_fivestates_k01_formulas_and_values).prog 74).name = ("law" : PySem.Str) := by kernel_rfl
      rw [← e]
      exact hmg0
    exact ⟨K, KX, Fv.law_at (l := PySem.Challenge.rw_fivestates_k01_formulas_and_values) (n := 63) (k := 150) (f := 46) Fv.law_ok c KX G hmg rfl (r := Fv.LROWS.getLast (by decide)) (List.getLast_mem _) rfl (by decide +kernel) (by decide +kernel) Fv.Fw.law_plain⟩

