import PyProof.Rows.All
import Wide.All
import OpenK.AllK
import Wide.FinOn
import HandS.Base
import HandS.Call
import HandS.List
import HandS.Dict
import HandS.Text
import HandS.Comp
import HandS.Exc
import HandS.ExcOwn
import HandS.CallSlots
import HandS.Wide
import HandS.Deep
import HandS.Style
import HandS.TupAny
import HandS.IsInst
import HandS.Conv
import HandS.Words
import HandS.Iter
import HandS.Walk
import HandS.More
import HandS.Star
import HandS.Defaults
import HandS.Ends
import PyProof.P3Eq
import KE.KxText
import KE.KStateDown
import Lean
import HandS.WordsExc
import HandS.Head0
import HandS.Head1
import HandS.Head2
import HandS.HeadEnd
import HandS.HeadHook1
import HandS.HeadHook2
import PySem.Challenge.RW_holdsfast_k01_whole_fractions_in_lowest
set_option Elab.async false
set_option linter.all false
set_option maxRecDepth 100000
/-! Y1: plain values D, a small language of slots (Ex, Sx), its run by values. -/
namespace Y
open PySem L2
abbrev DK := Sum Key (List Key)
/-- a value as a whole; the flag of a list, a dict, an instance: it is held once and may still be changed -/
inductive D where
  | non | bl (b : Bool) | int (i : Int) | str (s : Str) | ty (n : String)
  | tup (xs : List D) | wls (xs : List D) | lst (o : Bool) (xs : List D) | dct (o : Bool) (kvs : List (DK × D)) | ins (o : Bool) (c : Nat) (fs : List (Nat × D))
  deriving Inhabited
/-- shared from now on -/
def D.fz : D → D
  | .lst _ xs => .lst false xs
  | .dct _ kvs => .dct false kvs
  | .ins _ c fs => .ins false c fs
  | d => d
abbrev Rho := List (Option D)
/-- an error: its class, what it keeps -/
abbrev Exc := Nat × List D
inductive Res (A : Type) where
  | ok (a : A) (r : Rho) | exc (x : Exc) (r : Rho) | stuck
/-- what follows, by the three ends -/
def Res.el {A M : Type} (m : Res A) (k : A → Rho → M) (me : Exc → Rho → M) (ms : M) : M := match m with
  | .ok a r => k a r
  | .exc x r => me x r
  | .stuck => ms
abbrev Res.bind {A B : Type} (m : Res A) (k : A → Rho → Res B) : Res B := m.el k .exc .stuck
def Res.fz (m : Res D) : Res D := match m with
  | .ok a r => .ok a.fz r
  | .exc x r => .exc x r
  | .stuck => .stuck
inductive CRes where
  | ok (a : D) (outs : List D) | exc (x : Exc) (outs : List D) | stuck

inductive Op where | add | sub | mul | fdiv | mod | pow
inductive Cm where | eq | ne | lt | le | gt | ge | is | isn | in_ | nin
inductive Bl where | len | abs | int | max2 | min2 | all | any | isi | list | tuple
/-- a target: a slot, or several -/
inductive Tg where
  | nm (i : Nat) | tp (ts : List Tg)
mutual
inductive Ex where
  | var (i : Nat) | lv (i : Nat) | cst (d : D) | glb (x : Str) (d : D)
  | tup (es : List Ex) | lst (es : List Ex)
  | bin (o : Op) (a b : Ex) | neg (a : Ex) | not (a : Ex)
  | cmp (o : Cm) (a b : Ex) | chain (o1 o2 : Cm) (a b c : Ex)
  | and (a : Ex) (r : Ex) | or (a : Ex) (r : Ex)
  | ife (c a b : Ex)
  | idx (a i : Ex) | idxV (s : Nat) (i : Ex)
  | call (f : Nat) (es : List Ex)
  | blt (b : Bl) (es : List Ex)
  | join (a b : Ex)
  | lrng (a b : Ex)
  | lc (elt : Ex) (tg : Tg) (own : List Nat) (it : Ite) (ifs : List Ex)
  | callS (f : Nat) (es : List Ex)
  | nd
  | stop
inductive Ite where
  | seq (e : Ex) | rng1 (a : Ex) | rng2 (a b : Ex)
end
inductive Sx where
  | expr (e : Ex) | asg (t : Tg) (e : Ex) | par (i j : Nat) (a b : Ex) | setV (s : Nat) (i e : Ex)
  | ret (e : Ex) | ifs (c : Ex) (a b : List Sx) | while (c : Ex) (b : List Sx) | for (t : Tg) (it : Ite) (b : List Sx)
  | pass | brk | cnt | stop
inductive Out where
  | nx (r : Rho) | rt (d : D) (r : Rho) | bk (r : Rho) | ct (r : Rho) | exc (x : Exc) (r : Rho) | stuck
/-! ### values -/
mutual
/-- as data of the model's own, where it is data -/
def toPy : D → Option PyData
  | .non => some .none
  | .bl b => some (.bool b)
  | .int i => some (.int i)
  | .str s => some (.str s)
  | .tup xs => (toPys xs).map .tuple
  | .lst _ xs => (toPys xs).map .list
  | _ => none
def toPys : List D → Option (List PyData)
  | [] => some []
  | x :: xs => match toPy x with
    | some y => (match toPys xs with
      | some ys => some (y :: ys)
      | none => none)
    | none => none
end
/-- == of plain data: None, bools, ints, texts, tuples, lists; none: something else within -/
def eqD (a b : D) : Option Bool := match toPy a, toPy b with
  | some x, some y => if SeqAt.shaped x = true ∧ SeqAt.shaped y = true then some (PyData.eqv x y) else none
  | _, _ => none
/-- is it among these -/
def inD (a : D) (xs : List D) : Option Bool := match toPy a, toPys xs with
  | some x, some ys => if SeqAt.shaped x = true ∧ SeqAt.shaped (.list ys) = true then some (ys.any fun z => PyData.eqv z x) else none
  | _, _ => none
def mulOk (i j : Int) : Bool := (decide (-(2 ^ 64) < i) && decide (i < 2 ^ 64)) || (decide (-(2 ^ 64) < j) && decide (j < 2 ^ 64))
def addD : D → D → Option D
  | .int i, .int j => some (.int (i + j))
  | .str a, .str b => if a.length + b.length ≤ sizeLine then some (.str (a ++ b)) else none
  | .tup xs, .tup ys => if xs.length + ys.length ≤ sizeLine then some (.tup (xs ++ ys)) else none
  | .lst _ xs, .lst _ ys => if xs.length + ys.length ≤ sizeLine then some (.lst true (xs ++ ys)) else none
  | _, _ => none
def subD : D → D → Option D
  | .int i, .int j => some (.int (i - j))
  | _, _ => none
def mulD : D → D → Option D
  | .int i, .int j => if mulOk i j = true then some (.int (i * j)) else none
  | .lst _ xs, .int k => if 0 ≤ k ∧ k < 2 ^ 63 ∧ xs.length * k.toNat ≤ sizeLine then some (.lst true (List.replicate k.toNat xs).flatten) else none
  | _, _ => none
def fdivD : D → D → Option D
  | .int i, .int j => if 0 < j ∧ j.natAbs < 2 ^ 200 then some (.int (i / j)) else none
  | _, _ => none
def modD : D → D → Option D
  | .int i, .int j => if 0 < j then some (.int (i % j)) else none
  | _, _ => none
def powD : D → D → Option D
  | .int i, .int j => if 0 ≤ j ∧ j ≤ 1000 ∧ i.natAbs < 2 ^ 200 then some (.int (i ^ j.toNat)) else none
  | _, _ => none
def opD : Op → D → D → Option D
  | .add => addD
  | .sub => subD
  | .mul => mulD
  | .fdiv => fdivD
  | .mod => modD
  | .pow => powD
def ltD : D → D → Option D
  | .int i, .int j => some (.bl (decide (i < j)))
  | .str a, .str b => some (.bl (decide (a.cps.toList < b.cps.toList)))
  | _, _ => none
def leD : D → D → Option D
  | .int i, .int j => some (.bl (decide (i ≤ j)))
  | _, _ => none
def gtD : D → D → Option D
  | .int i, .int j => some (.bl (decide (j < i)))
  | _, _ => none
def geD : D → D → Option D
  | .int i, .int j => some (.bl (decide (j ≤ i)))
  | _, _ => none
def isD : D → D → Option D
  | .bl a, .bl b => some (.bl (decide (a = b)))
  | .non, .non => some (.bl true)
  | .int _, .non => some (.bl false)
  | .bl _, .non => some (.bl false)
  | .str _, .non => some (.bl false)
  | .tup _, .non => some (.bl false)
  | .lst _ _, .non => some (.bl false)
  | .dct _ _, .non => some (.bl false)
  | _, _ => none
def inOf : D → D → Option Bool
  | .str a, .str b => some (!(Builtin.Str.occurrences b a 0 b.length 1).isEmpty)
  | a, .lst _ xs => inD a xs
  | _, _ => none
def cmD : Cm → D → D → Option D
  | .eq => fun a b => (eqD a b).map .bl
  | .ne => fun a b => (eqD a b).map fun c => .bl (!c)
  | .lt => ltD
  | .le => leD
  | .gt => gtD
  | .ge => geD
  | .is => isD
  | .isn => fun a b => match isD a b with
    | some (.bl c) => some (.bl (!c))
    | _ => none
  | .in_ => fun a b => (inOf a b).map .bl
  | .nin => fun a b => (inOf a b).map fun c => .bl (!c)
/-- the built-in class of a value -/
def tyD : D → String
  | .non => "NoneType"
  | .bl _ => "bool"
  | .int _ => "int"
  | .str _ => "str"
  | .ty _ => "type"
  | .tup _ => "tuple"
  | .lst _ _ => "list"
  | .wls _ => "list"
  | .dct _ _ => "dict"
  | .ins _ _ _ => ""
def isiTy (d : String) (n : String) : Option Bool :=
  if n = "int" then some (d = "int" || d = "bool")
  else if n = "bool" ∨ n = "str" ∨ n = "tuple" ∨ n = "list" ∨ n = "dict" then some (d = n) else none
def isiD (d : D) (n : String) : Option Bool := match d with
  | .ty _ => none
  | .ins _ _ _ => none
  | d => isiTy (tyD d) n
def bools : List D → Option (List Bool)
  | [] => some []
  | .bl b :: xs => (match bools xs with
    | some bs => some (b :: bs)
    | none => none)
  | _ => none
def texts : List D → Option (List Str)
  | [] => some []
  | .str b :: xs => (match texts xs with
    | some bs => some (b :: bs)
    | none => none)
  | _ => none
def lenD : List D → Option D
  | [.str s] => if s.length ≤ sizeLine then some (.int s.length) else none
  | [.tup xs] => some (.int xs.length)
  | [.lst _ xs] => some (.int xs.length)
  | [.wls xs] => some (.int xs.length)
  | _ => none
def absD : List D → Option D
  | [.int i] => some (.int (if i < 0 then -i else i))
  | _ => none
def intD : List D → Option D
  | [.int i] => some (.int i)
  | [.bl b] => some (.int (if b then 1 else 0))
  | _ => none
def max2D : List D → Option D
  | [.int i, .int j] => some (.int (if j > i then j else i))
  | _ => none
def min2D : List D → Option D
  | [.int i, .int j] => some (.int (if j < i then j else i))
  | _ => none
def allD : List D → Option D
  | [.lst _ xs] => (bools xs).map fun bs => .bl (bs.all id)
  | _ => none
def anyD : List D → Option D
  | [.lst _ xs] => (bools xs).map fun bs => .bl (bs.any id)
  | _ => none
def isiLD : List D → Option D
  | [d, .ty n] => (isiD d n).map .bl
  | _ => none
def listD : List D → Option D
  | [.tup xs] => some (.lst true xs)
  | [.lst _ xs] => some (.lst true xs)
  | _ => none
def tupleD : List D → Option D
  | [.tup xs] => some (.tup xs)
  | [.lst _ xs] => some (.tup xs)
  | _ => none
def bltD : Bl → List D → Option D
  | .len => lenD
  | .abs => absD
  | .int => intD
  | .max2 => max2D
  | .min2 => min2D
  | .all => allD
  | .any => anyD
  | .isi => isiLD
  | .list => listD
  | .tuple => tupleD
def joinD : D → D → Option D
  | .str a, .lst _ xs => (match texts xs with
    | some ys => if (ys.map Str.length).sum + ys.length * a.length ≤ 16777216 then some (.str (Txt.join a ys)) else none
    | none => none)
  | _, _ => none
/-- the items of a list or a tuple -/
def seqOf : D → Option (List D)
  | .tup xs => some xs
  | .lst _ xs => some xs
  | .wls xs => some xs
  | _ => none
def idxD (d k : D) : Option D := match seqOf d, k with
  | some xs, .int i => (atI xs i).map D.fz
  | _, _ => none
def lrngD : D → D → Option D
  | .int a, .int b => if -(2 ^ 62) ≤ a ∧ a < 2 ^ 62 ∧ -(2 ^ 62) ≤ b ∧ b < 2 ^ 62 ∧ (b - a).toNat ≤ 2 ^ 24 then some (.lst true ((List.range (b - a).toNat).map fun (i : Nat) => .int (a + i))) else none
  | _, _ => none
/-- what a for walks -/
def seqD : D → Option (List D)
  | .tup xs => some xs
  | .lst _ xs => some xs
  | .wls xs => some xs
  | .str s => if s.cps.size ≤ sizeLine then some (s.cps.toList.map fun c => .str ⟨#[c]⟩) else none
  | _ => none
def rngD : D → D → Option (List D)
  | .int a, .int b => if -(2 ^ 62) ≤ a ∧ a < 2 ^ 62 ∧ -(2 ^ 62) ≤ b ∧ b < 2 ^ 62 ∧ (b - a).toNat ≤ 2 ^ 24 then some ((List.range (b - a).toNat).map fun (i : Nat) => .int (a + i)) else none
  | _, _ => none
/-! ### slots -/
def getS (r : Rho) (i : Nat) : Option D := match r[i]? with
  | some (some d) => some d
  | _ => none
mutual
def tgS : Tg → D → Rho → Option Rho
  | .nm i, d, r => if i < r.length then some (r.set i (some d.fz)) else none
  | .tp ts, .tup xs, r => tgSs ts xs r
  | .tp _, _, _ => none
def tgSs : List Tg → List D → Rho → Option Rho
  | [], [], r => some r
  | t :: ts, x :: xs, r => (match tgS t x r with
    | some r' => tgSs ts xs r'
    | none => none)
  | _, _, _ => none
end
mutual
/-- the slots of a target -/
def slT : Tg → List Nat
  | .nm i => [i]
  | .tp ts => slTs ts
def slTs : List Tg → List Nat
  | [] => []
  | t :: ts => slT t ++ slTs ts
end
def wip (r : Rho) : List Nat → Rho
  | [] => r
  | v :: vs => (wip r vs).set v none
def Res.of {A : Type} (o : Option A) (r : Rho) : Res A := match o with
  | some a => .ok a r
  | none => .stuck
/-- the lent slots among the written arguments -/
def lentS : List Ex → List Nat
  | [] => []
  | .lv j :: es => j :: lentS es
  | _ :: es => lentS es
/-- the arguments as they are handed over: lent ones as they stand now -/
def lend (r : Rho) : List Ex → List D → Option (List D)
  | [], [] => some []
  | .lv j :: es, _ :: ds => (match getS r j, lend r es ds with
    | some z, some xs => some (z :: xs)
    | _, _ => none)
  | _ :: es, d :: ds => (match lend r es ds with
    | some xs => some (d :: xs)
    | none => none)
  | _, _ => none
/-- what comes back goes to the lent slots (outs: those of the parameters io) -/
def back (io : List Nat) (outs : List D) : Nat → List Ex → Rho → Option Rho
  | _, [], r => some r
  | k, .lv j :: es, r => (match (io.zip outs).lookup k with
    | some d => back io outs (k + 1) es (r.set j (some d))
    | none => none)
  | k, _ :: es, r => back io outs (k + 1) es r
/-- a comprehension's turns -/
def lcGo (step : D → Rho → Res (Option D)) : List D → List D → Rho → Res (List D)
  | [], acc, r => .ok acc r
  | x :: xs, acc, r => (step x r).el (fun o r' => match o with
    | some y => lcGo step xs (acc ++ [y]) r'
    | none => lcGo step xs acc r') (fun _ _ => .stuck) .stuck
/-- the slots own again as they were in r -/
def unwip (r r' : Rho) : List Nat → Rho
  | [] => r'
  | v :: vs => (unwip r r' vs).set v (match r[v]? with
    | some o => o
    | none => none)
def asB : Res D → Res Bool
  | .ok (.bl b) r => .ok b r
  | .exc x r => .exc x r
  | _ => .stuck
/-- what is called: the lent places of each def, and its run -/
structure Env where
  io : Nat → List Nat
  run : Nat → List D → CRes
mutual
def evO (C : Env) : Ex → Rho → Res D
  | .var i, r => (match getS r i with
    | some d => .ok d.fz (r.set i (some d.fz))
    | none => .stuck)
  | .lv _, _ => .stuck
  | .cst d, r => .ok d r
  | .glb _ d, r => .ok d r
  | .tup es, r => (evL C es r).bind fun ds r => if ds.length ≤ sizeLine then .ok (.tup ds) r else .stuck
  | .lst es, r => (evL C es r).bind fun ds r => if ds.length ≤ sizeLine then .ok (.lst true ds) r else .stuck
  | .bin o a b, r => (evO C a r).bind fun x r => (evO C b r).bind fun y r => .of (opD o x.fz y.fz) r
  | .neg a, r => (evO C a r).bind fun x r => (match x with
    | .int i => .ok (.int (-i)) r
    | _ => .stuck)
  | .not a, r => (asB (evO C a r)).bind fun b r => .ok (.bl (!b)) r
  | .cmp o a b, r => (evO C a r).bind fun x r => (evO C b r).bind fun y r => .of (cmD o x.fz y.fz) r
  | .chain o1 o2 a b c, r => (evO C a r).bind fun x r => (evO C b r).bind fun y r => (asB (.of (cmD o1 x.fz y.fz) r)).bind fun k r =>
      if k = true then (evO C c r).bind fun z r => .of (cmD o2 y.fz z.fz) r else .ok (.bl false) r
  | .and a b, r => (asB (evO C a r)).bind fun k r => if k = true then (evO C b r).bind fun y r => .ok y.fz r else .ok (.bl false) r
  | .or a b, r => (asB (evO C a r)).bind fun k r => if k = true then .ok (.bl true) r else (evO C b r).bind fun y r => .ok y.fz r
  | .ife c a b, r => (asB (evO C c r)).bind fun k r => if k = true then evO C a r else evO C b r
  | .idx a b, r => (evO C a r).bind fun x r => (evO C b r).bind fun y r => .of (idxD x.fz y.fz) r
  | .idxV s b, r => (match getS r s with
    | some _ => (evO C b r).bind fun y r => (match getS r s with
      | some x => .of (idxD x y.fz) r
      | none => .stuck)
    | none => .stuck)
  | .call f es, r => (evA C (C.io f) 0 es r).bind fun ds r => if (lentS es).Nodup then (match lend r es ds with
      | some vs => (match C.run f vs with
        | .ok d outs => (match back (C.io f) outs 0 es r with
          | some r' => .ok d r'
          | none => .stuck)
        | .exc x outs => (match back (C.io f) outs 0 es r with
          | some r' => .exc x r'
          | none => .stuck)
        | .stuck => .stuck)
      | none => .stuck) else .stuck
  | .blt b es, r => (evL C es r).bind fun ds r => .of (bltD b ds) r
  | .join a b, r => (evO C a r).bind fun x r => (match x.fz with
    | .str s => (evO C b r).bind fun y r => .of (joinD (.str s) y.fz) r
    | _ => .stuck)
  | .lrng a b, r => (evO C a r).bind fun x r => (evO C b r).bind fun y r => .of (lrngD x.fz y.fz) r
  | .lc elt tg own it ifs, r => (evI C it r).bind fun xs r => (lcGo (fun x r => match tgS tg x (wip r own) with
      | some r1 => (evT C ifs r1).el (fun b r2 => if b = true then (evO C elt r2).el (fun y r3 => .ok (some y.fz) (wip r3 own)) (fun _ _ => .stuck) .stuck else .ok none (wip r2 own)) (fun _ _ => .stuck) .stuck
      | none => .stuck) xs [] (wip r own)).el (fun ys r' => .ok (.lst true ys) (unwip r r' own)) (fun _ _ => .stuck) .stuck
  | .callS f es, r => (evL C es r).bind fun ds r => if ds.length ≤ sizeLine then (match C.run f [.tup ds] with
      | .ok d _ => .ok d r
      | .exc x _ => .exc x r
      | .stuck => .stuck) else .stuck
  | .nd, r => .ok (.dct true []) r
  | .stop, _ => .stuck
/-- several, each shared -/
def evL (C : Env) : List Ex → Rho → Res (List D)
  | [], r => .ok [] r
  | e :: es, r => (evO C e r).bind fun x r => (evL C es r).bind fun xs r => .ok (x.fz :: xs) r
/-- arguments: at the lent places a slot is left alone, anything else is handed over as it is; elsewhere shared -/
def evA (C : Env) (io : List Nat) : Nat → List Ex → Rho → Res (List D)
  | _, [], r => .ok [] r
  | k, .lv j :: es, r => if k ∈ io ∧ (getS r j).isSome = true then (evA C io (k + 1) es r).bind fun xs r => .ok (.non :: xs) r else .stuck
  | k, e :: es, r => (evO C e r).bind fun x r => (evA C io (k + 1) es r).bind fun xs r => .ok ((if k ∈ io then x else x.fz) :: xs) r
/-- all tests, in order -/
def evT (C : Env) : List Ex → Rho → Res Bool
  | [], r => .ok true r
  | e :: es, r => (asB (evO C e r)).bind fun b r => if b = true then evT C es r else .ok false r
def evI (C : Env) : Ite → Rho → Res (List D)
  | .seq e, r => (evO C e r).bind fun x r => .of (seqD x.fz) r
  | .rng1 a, r => (evO C a r).bind fun x r => .of (rngD (.int 0) x.fz) r
  | .rng2 a b, r => (evO C a r).bind fun x r => (evO C b r).bind fun y r => .of (rngD x.fz y.fz) r
end
/-! ### statements -/
abbrev Res.out {A : Type} (m : Res A) (k : A → Rho → Out) : Out := m.el k .exc .stuck
def Out.seq (m : Out) (k : Rho → Out) : Out := match m with
  | .nx r => k r
  | o => o
def forGo (tg : Tg) (body : Rho → Out) : List D → Rho → Out
  | [], r => .nx r
  | x :: xs, r => (match tgS tg x r with
    | some r1 => (match body r1 with
      | .nx r2 => forGo tg body xs r2
      | .ct r2 => forGo tg body xs r2
      | .bk r2 => .nx r2
      | o => o)
    | none => .stuck)
def whileGo (c : Rho → Res Bool) (body : Rho → Out) : Nat → Rho → Out
  | 0, _ => .stuck
  | n + 1, r => (c r).out fun k r1 => if k = true then (match body r1 with
      | .nx r2 => whileGo c body n r2
      | .ct r2 => whileGo c body n r2
      | .bk r2 => .nx r2
      | o => o) else .nx r1
mutual
def evS (C : Env) (w : Nat) : Sx → Rho → Out
  | .expr e, r => (evO C e r).out fun _ r => .nx r
  | .asg t e, r => (evO C e r).out fun d r => (match t with
    | .nm i => if i < r.length then .nx (r.set i (some d)) else .stuck
    | t => (match tgS t d.fz r with
      | some r' => .nx r'
      | none => .stuck))
  | .par i j a b, r => (evO C a r).out fun x r => (evO C b r).out fun y r => if i ≠ j ∧ i < r.length ∧ j < r.length then .nx ((r.set i (some x.fz)).set j (some y.fz)) else .stuck
  | .setV s i e, r => (evO C e r).out fun y r => (match getS r s with
    | some _ => (evO C i r).out fun k r => (match getS r s, k.fz with
      | some (.lst true xs), .int z => (match ixN xs.length z with
        | some n => .nx (r.set s (some (.lst true (xs.set n y.fz))))
        | none => .stuck)
      | _, _ => .stuck)
    | none => .stuck)
  | .ret e, r => (evO C e r).out fun d r => .rt d r
  | .ifs c a b, r => (asB (evO C c r)).out fun k r => if k = true then evSs C w a r else evSs C w b r
  | .while c b, r => whileGo (fun r => asB (evO C c r)) (fun r => evSs C w b r) w r
  | .for t it b, r => (evI C it r).out fun xs r => forGo t (fun r => evSs C w b r) xs r
  | .pass, r => .nx r
  | .brk, r => .bk r
  | .cnt, r => .ct r
  | .stop, _ => .stuck
def evSs (C : Env) (w : Nat) : List Sx → Rho → Out
  | [], r => .nx r
  | s :: ss, r => (evS C w s r).seq fun r => evSs C w ss r
end
/-- a def: its slots, its parameters, the lent ones among them, its body -/
structure Fn where
  n : Nat
  np : Nat
  io : List Nat
  body : List Sx
def outsOf (io : List Nat) (r : Rho) : Option (List D) := match io with
  | [] => some []
  | i :: is => (match getS r i, outsOf is r with
    | some d, some ds => some (d :: ds)
    | _, _ => none)
/-- one def's run -/
def fnGo (C : Env) (w : Nat) (F : Fn) (ds : List D) : CRes :=
  if ds.length = F.np ∧ F.np ≤ F.n then (match evSs C w F.body (ds.map some ++ List.replicate (F.n - F.np) none) with
    | .rt d r => (match outsOf F.io r with
      | some os => .ok d os
      | none => .stuck)
    | .nx r => (match outsOf F.io r with
      | some os => .ok .non os
      | none => .stuck)
    | .exc x r => (match outsOf F.io r with
      | some os => .exc x os
      | none => .stuck)
    | _ => .stuck) else .stuck
/-- the program's run: n calls deep -/
def runP (w : Nat) (P : Nat → Option Fn) : Nat → Nat → List D → CRes
  | 0, _, _ => .stuck
  | n + 1, f, ds => (match P f with
    | some F => fnGo ⟨fun g => (match P g with
        | some F => F.io
        | none => []), runP w P n⟩ w F ds
    | none => .stuck)
end Y
set_option Elab.async false
set_option linter.all false
set_option maxRecDepth 100000
set_option maxHeartbeats 4000000
/-! Y2: how values stand in the abstract heap; what an evaluation leaves. -/
namespace Y
open PySem PySem.Spec L2
open PyProof.Rows hiding St
abbrev FS := Addr → Prop
def KL (K : PySem.W.Frag) (a : Addr) (vs : List V) : Prop := ∃ (o : Obj) (its : Array Value) (n : Nat), K.lookup a = some o ∧ o.cls = .type "list" ∧ o.dict = none ∧ o.data = .seq its n ∧ its.size ≤ sizeLine ∧ Vals vs its.toList
def KTp (K : PySem.W.Frag) (a : Addr) (vs : List V) : Prop := ∃ (o : Obj) (its : Array Value) (n : Nat), K.lookup a = some o ∧ o.cls = .type "tuple" ∧ o.data = .seq its n ∧ its.size ≤ sizeLine ∧ Vals vs its.toList
section
variable (K : PySem.W.Frag) (F : FS) (H : Hp)
mutual
/-- a shared value: all its objects are among F (or written) -/
def Frz : D → V → Prop
  | .non, v => v = .non
  | .bl b, v => v = .bl b
  | .int i, v => v = .int i
  | .str s, v => v = .str s
  | .ty n, v => v = .ty n
  | .tup ds, v => ∃ a vs, v = .ref a ∧ ((F a ∧ H a = some (.tup vs)) ∨ KTp K a vs) ∧ Frzs ds vs
  | .wls ds, v => ∃ a vs, v = .ref a ∧ ((F a ∧ Rd H a (.lst vs)) ∨ KL K a vs) ∧ Frzs ds vs
  | .lst _ ds, v => ∃ a vs, v = .ref a ∧ (F a ∧ Rd H a (.lst vs)) ∧ Frzs ds vs
  | .dct _ kvs, v => ∃ a, v = .ref a ∧ F a ∧ ((∃ ws, Rd H a (.dK ws) ∧ FrzK kvs ws) ∨ ∃ ws, Rd H a (.dT ws) ∧ FrzT kvs ws)
  | .ins _ _ _, _ => False
def Frzs : List D → List V → Prop
  | [], vs => vs = []
  | d :: ds, vs => ∃ v ws, vs = v :: ws ∧ Frz d v ∧ Frzs ds ws
def FrzK : List (DK × D) → List (Key × V) → Prop
  | [], ws => ws = []
  | (k, d) :: r, ws => ∃ j v ws', ws = (j, v) :: ws' ∧ k = .inl j ∧ Frz d v ∧ FrzK r ws'
def FrzT : List (DK × D) → List (List Key × V) → Prop
  | [], ws => ws = []
  | (k, d) :: r, ws => ∃ j v ws', ws = (j, v) :: ws' ∧ k = .inr j ∧ Frz d v ∧ FrzT r ws'
end
/-- a value held once: q its own objects that may be changed -/
def Own : D → V → List Addr → Prop
  | .lst true ds, v, q => ∃ a vs, v = .ref a ∧ H a = some (.lst vs) ∧ Frzs K F H ds vs ∧ q = [a]
  | .dct true kvs, v, q => ∃ a, v = .ref a ∧ ((∃ ws, H a = some (.dK ws) ∧ FrzK K F H kvs ws) ∨ ∃ ws, H a = some (.dT ws) ∧ FrzT K F H kvs ws) ∧ q = [a]
  | d, v, q => Frz K F H d v ∧ q = []
end
section
variable {K : PySem.W.Frag} {F F' : FS} {H H' : Hp}
theorem rd_same {a : Addr} {u : HO} (h : Rd H a u) (e : H' a = H a) : Rd H' a u := by
  rcases h with h | ⟨o, h⟩
  · exact .inl (e.trans h)
  · exact .inr ⟨o, e.trans h⟩
mutual
theorem Frz.mono (hF : ∀ a, F a → F' a) (hH : ∀ a, F a → H' a = H a) : ∀ (d : D) (v : V), Frz K F H d v → Frz K F' H' d v
  | .non, _, h => h
  | .bl _, _, h => h
  | .int _, _, h => h
  | .str _, _, h => h
  | .ty _, _, h => h
  | .tup ds, v, h => by
    obtain ⟨a, vs, e, h1, h2⟩ := h
    exact ⟨a, vs, e, h1.imp (fun z => ⟨hF a z.1, (hH a z.1).trans z.2⟩) id, Frzs.mono hF hH ds vs h2⟩
  | .lst _ ds, v, h => by
    obtain ⟨a, vs, e, h1, h2⟩ := h
    exact ⟨a, vs, e, ⟨hF a h1.1, rd_same h1.2 (hH a h1.1)⟩, Frzs.mono hF hH ds vs h2⟩
  | .wls ds, v, h => by
    obtain ⟨a, vs, e, h1, h2⟩ := h
    exact ⟨a, vs, e, h1.imp (fun z => ⟨hF a z.1, rd_same z.2 (hH a z.1)⟩) id, Frzs.mono hF hH ds vs h2⟩
  | .dct _ kvs, v, h => by
    obtain ⟨a, e, h1, h2⟩ := h
    refine ⟨a, e, hF a h1, ?_⟩
    rcases h2 with ⟨ws, h3, h4⟩ | ⟨ws, h3, h4⟩
    · exact .inl ⟨ws, rd_same h3 (hH a h1), FrzK.mono hF hH kvs ws h4⟩
    · exact .inr ⟨ws, rd_same h3 (hH a h1), FrzT.mono hF hH kvs ws h4⟩
  | .ins _ _ _, _, h => h
theorem Frzs.mono (hF : ∀ a, F a → F' a) (hH : ∀ a, F a → H' a = H a) : ∀ (ds : List D) (vs : List V), Frzs K F H ds vs → Frzs K F' H' ds vs
  | [], _, h => h
  | d :: ds, vs, h => by
    obtain ⟨v, ws, e, h1, h2⟩ := h
    exact ⟨v, ws, e, Frz.mono hF hH d v h1, Frzs.mono hF hH ds ws h2⟩
theorem FrzK.mono (hF : ∀ a, F a → F' a) (hH : ∀ a, F a → H' a = H a) : ∀ (ds : List (DK × D)) (vs : List (Key × V)), FrzK K F H ds vs → FrzK K F' H' ds vs
  | [], _, h => h
  | (k, d) :: ds, vs, h => by
    obtain ⟨j, v, ws, e, h0, h1, h2⟩ := h
    exact ⟨j, v, ws, e, h0, Frz.mono hF hH d v h1, FrzK.mono hF hH ds ws h2⟩
theorem FrzT.mono (hF : ∀ a, F a → F' a) (hH : ∀ a, F a → H' a = H a) : ∀ (ds : List (DK × D)) (vs : List (List Key × V)), FrzT K F H ds vs → FrzT K F' H' ds vs
  | [], _, h => h
  | (k, d) :: ds, vs, h => by
    obtain ⟨j, v, ws, e, h0, h1, h2⟩ := h
    exact ⟨j, v, ws, e, h0, Frz.mono hF hH d v h1, FrzT.mono hF hH ds ws h2⟩
end
theorem Own.mono (hF : ∀ a, F a → F' a) (hH : ∀ a, F a → H' a = H a) {d : D} {v : V} {q : List Addr} (hq : ∀ a, a ∈ q → H' a = H a) (h : Own K F H d v q) : Own K F' H' d v q := by
  unfold Own at h ⊢
  split at h
  · obtain ⟨a, vs, e, h1, h2, h3⟩ := h
    exact ⟨a, vs, e, (hq a (by simp [h3])).trans h1, Frzs.mono hF hH _ _ h2, h3⟩
  · obtain ⟨a, e, h1, h3⟩ := h
    refine ⟨a, e, ?_, h3⟩
    have ha := hq a (by simp [h3])
    rcases h1 with ⟨ws, h1, h2⟩ | ⟨ws, h1, h2⟩
    · exact .inl ⟨ws, ha.trans h1, FrzK.mono hF hH _ _ h2⟩
    · exact .inr ⟨ws, ha.trans h1, FrzT.mono hF hH _ _ h2⟩
  · exact ⟨Frz.mono hF hH _ _ h.1, h.2⟩
/-- shared by force -/
theorem Own.fz {d : D} {v : V} {q : List Addr} (h : Own K F H d v q) : Frz K (fun a => F a ∨ a ∈ q) H d.fz v := by
  have up : ∀ a, F a → (F a ∨ a ∈ q) := fun a z => .inl z
  have sm : ∀ a, F a → H a = H a := fun _ _ => rfl
  unfold Own at h
  split at h
  · obtain ⟨a, vs, e, h1, h2, h3⟩ := h
    exact ⟨a, vs, e, ⟨.inr (by simp [h3]), .inl h1⟩, Frzs.mono up sm _ _ h2⟩
  · obtain ⟨a, e, h1, h3⟩ := h
    refine ⟨a, e, .inr (by simp [h3]), ?_⟩
    rcases h1 with ⟨ws, h1, h2⟩ | ⟨ws, h1, h2⟩
    · exact .inl ⟨ws, .inl h1, FrzK.mono up sm _ _ h2⟩
    · exact .inr ⟨ws, .inl h1, FrzT.mono up sm _ _ h2⟩
  · obtain ⟨h, _⟩ := h
    have h2 := Frz.mono up sm _ _ h
    cases d <;> exact h2
/-- a shared value is held without own objects -/
theorem Frz.own {d : D} {v : V} (h : Frz K F H d.fz v) : Own K F H d.fz v [] := by
  cases d with
  | lst o ds => exact ⟨h, rfl⟩
  | dct o kvs => exact ⟨h, rfl⟩
  | _ => exact ⟨h, rfl⟩
theorem fz_fz (d : D) : d.fz.fz = d.fz := by cases d <;> rfl
theorem Frz.fz {d : D} {v : V} (h : Frz K F H d v) : Frz K F H d.fz v := by
  cases d <;> exact h
theorem Own.tracked {d : D} {v : V} {q : List Addr} (h : Own K F H d v q) : ∀ a, a ∈ q → ∃ o, H a = some o := by
  unfold Own at h
  intro b hb
  split at h
  · obtain ⟨a, vs, e, h1, h2, h3⟩ := h
    rw [h3] at hb
    simp at hb
    exact ⟨_, hb ▸ h1⟩
  · obtain ⟨a, e, h1, h3⟩ := h
    rw [h3] at hb
    simp at hb
    subst hb
    rcases h1 with ⟨ws, h1, _⟩ | ⟨ws, h1, _⟩
    · exact ⟨_, h1⟩
    · exact ⟨_, h1⟩
  · rw [h.2] at hb
    cases hb
theorem Own.nodup {d : D} {v : V} {q : List Addr} (h : Own K F H d v q) : q.Nodup := by
  unfold Own at h
  split at h
  · obtain ⟨a, vs, e, h1, h2, h3⟩ := h
    rw [h3]
    simp
  · obtain ⟨a, e, h1, h3⟩ := h
    rw [h3]
    simp
  · rw [h.2]
    simp
end
/-! ### the slots -/
/-- all lists and tuples that are tracked have a size within the line -/
def HV (H : Hp) : Prop := (∀ a vs, Rd H a (.lst vs) → vs.length ≤ sizeLine) ∧ (∀ a vs, H a = some (.tup vs) → vs.length ≤ sizeLine)
theorem hv_of {X : Cx} {pins : List (Addr × Obj)} {σ : St} {H : Hp} {s : Shared} (I : Inv X pins σ H s) : HV H :=
  ⟨fun a vs h => (h.ok I.hok).1, fun a vs h => (Rd.ok (.inl h) I.hok).1⟩
structure Rel (K : PySem.W.Frag) (F : FS) (fp : Nat → List Addr) (H : Hp) (σ : St) (r : Rho) : Prop where
  len : r.length = σ.length
  slot : ∀ i d, r[i]? = some (some d) → ∃ v, σ[i]? = some (some v) ∧ Own K F H d v (fp i)
  out : ∀ i, (∀ d, r[i]? ≠ some (some d)) → fp i = []
  dis : ∀ i j a, i ≠ j → a ∈ fp i → a ∉ fp j
  nF : ∀ i a, a ∈ fp i → ¬ F a
  trF : ∀ a, F a → ∃ o, H a = some o
/-- from one heap to a later one: shared things stay shared; what is not owned here is as it was; what is new is new or was owned -/
structure Step (fp : Nat → List Addr) (F : FS) (H : Hp) (fp' : Nat → List Addr) (F' : FS) (H' : Hp) : Prop where
  sub : ∀ a, F a → F' a
  keep : ∀ a o, H a = some o → (∀ i, a ∉ fp i) → H' a = some o
  new : ∀ a, F' a → F a ∨ H a = none ∨ ∃ i, a ∈ fp i
  own : ∀ i a, a ∈ fp' i → H a = none ∨ ∃ j, a ∈ fp j
section
variable {K : PySem.W.Frag} {F F1 F2 : FS} {H H1 H2 : Hp} {fp fp1 fp2 : Nat → List Addr} {σ : St} {r r1 : Rho}
theorem Step.refl : Step fp F H fp F H := ⟨fun _ h => h, fun _ _ h _ => h, fun _ h => .inl h, fun i a h => .inr ⟨i, h⟩⟩
theorem Step.trans (s : Step fp F H fp1 F1 H1) (t : Step fp1 F1 H1 fp2 F2 H2) : Step fp F H fp2 F2 H2 := by
  have back : ∀ a, H1 a = none → H a = none ∨ ∃ i, a ∈ fp i := fun a e => by
    cases q : H a with
    | none => exact .inl rfl
    | some o =>
      by_cases z : ∃ i, a ∈ fp i
      · exact .inr z
      · have := s.keep a o q fun i hi => z ⟨i, hi⟩
        rw [e] at this; cases this
  have bo : ∀ a, (∃ i, a ∈ fp1 i) → H a = none ∨ ∃ i, a ∈ fp i := fun a ⟨i, hi⟩ => s.own i a hi
  refine ⟨fun a h => t.sub a (s.sub a h), fun a o h n => t.keep a o (s.keep a o h n) fun i hi => ?_, fun a h => ?_, fun i a h => ?_⟩
  · rcases s.own i a hi with z | ⟨j, z⟩
    · rw [h] at z; cases z
    · exact n j z
  · rcases t.new a h with z | z | z
    · exact s.new a z
    · exact .inr (back a z)
    · exact .inr (bo a z)
  · rcases t.own i a h with z | z
    · exact back a z
    · exact bo a z
/-- shared objects stay -/
theorem Step.fro (s : Step fp F H fp1 F1 H1) (R : Rel K F fp H σ r) : ∀ a, F a → H1 a = H a := fun a h => by
  obtain ⟨o, e⟩ := R.trF a h
  rw [e]
  exact s.keep a o e fun i hi => R.nF i a hi h
theorem Step.frz (s : Step fp F H fp1 F1 H1) (R : Rel K F fp H σ r) {d : D} {v : V} (h : Frz K F H d v) : Frz K F1 H1 d v := Frz.mono s.sub (s.fro R) d v h
theorem Step.frzs (s : Step fp F H fp1 F1 H1) (R : Rel K F fp H σ r) {d : List D} {v : List V} (h : Frzs K F H d v) : Frzs K F1 H1 d v := Frzs.mono s.sub (s.fro R) d v h
end
/-- a value has come -/
structure Got (K : PySem.W.Frag) (F : FS) (fp : Nat → List Addr) (H : Hp) (σ : St) (F' : FS) (fp' : Nat → List Addr) (H' : Hp) (r' : Rho) (d : D) (v : V) (q : List Addr) : Prop where
  st : Step fp F H fp' F' H'
  rel : Rel K F' fp' H' σ r'
  own : Own K F' H' d v q
  qF : ∀ a, a ∈ q → ¬ F' a
  qfp : ∀ a i, a ∈ q → a ∉ fp' i
  qnew : ∀ a, a ∈ q → H a = none ∨ ∃ i, a ∈ fp i
/-- an error's own dict: what it keeps, under the names of its class -/
def ExcAt (K : PySem.W.Frag) (cls : Nat → Value) (nms : Nat → List Str) (F : FS) (H : Hp) (x : Exc) (c : Value) (dx : Option Addr) : Prop :=
  c = cls x.1 ∧ ((nms x.1 = [] ∧ dx = none) ∨ ∃ a vs, dx = some a ∧ H a = some (.xd ((nms x.1).zip vs)) ∧ Frzs K F H x.2 vs)
/-- the names of the program's errors -/
structure Ec where
  cls : Nat → Value
  nms : Nat → List Str
/-- an expression's reading, by values -/
def tO (K : PySem.W.Frag) (ec : Ec) (W : WX) (f : Rho → Res D) : TE := fun σ H Q => HV H → ∃ F fp r, Rel K F fp H σ r ∧ (match f r with
  | .ok d r' => ∀ F' fp' H' v q, HV H' → Got K F fp H σ F' fp' H' r' d v q → Q v H'
  | .exc x r' => ∀ F' fp' H' c dx, Step fp F H fp' F' H' → Rel K F' fp' H' σ r' → ExcAt K ec.cls ec.nms F' H' x c dx → W c dx σ H'
  | .stuck => False)
/-- .. shared -/
def tR (K : PySem.W.Frag) (ec : Ec) (W : WX) (f : Rho → Res D) : TE := fun σ H Q => HV H → ∃ F fp r, Rel K F fp H σ r ∧ (match f r with
  | .ok d r' => ∀ F' fp' H' v, HV H' → Step fp F H fp' F' H' → Rel K F' fp' H' σ r' → Frz K F' H' d.fz v → Q v H'
  | .exc x r' => ∀ F' fp' H' c dx, Step fp F H fp' F' H' → Rel K F' fp' H' σ r' → ExcAt K ec.cls ec.nms F' H' x c dx → W c dx σ H'
  | .stuck => False)
/-- several, shared -/
def tL (K : PySem.W.Frag) (ec : Ec) (W : WX) (f : Rho → Res (List D)) : TA := fun σ H Q => HV H → ∃ F fp r, Rel K F fp H σ r ∧ (match f r with
  | .ok ds r' => ∀ F' fp' H' vs, HV H' → Step fp F H fp' F' H' → Rel K F' fp' H' σ r' → Frzs K F' H' ds vs → Q vs H'
  | .exc x r' => ∀ F' fp' H' c dx, Step fp F H fp' F' H' → Rel K F' fp' H' σ r' → ExcAt K ec.cls ec.nms F' H' x c dx → W c dx σ H'
  | .stuck => False)
/-- a test -/
def tB (K : PySem.W.Frag) (ec : Ec) (W : WX) (f : Rho → Res Bool) : TT := fun σ H Q => HV H → ∃ F fp r, Rel K F fp H σ r ∧ (match f r with
  | .ok b r' => ∀ F' fp' H', HV H' → Step fp F H fp' F' H' → Rel K F' fp' H' σ r' → Q b H'
  | .exc x r' => ∀ F' fp' H' c dx, Step fp F H fp' F' H' → Rel K F' fp' H' σ r' → ExcAt K ec.cls ec.nms F' H' x c dx → W c dx σ H'
  | .stuck => False)
/-- only new things have come -/
structure Newer (F : FS) (H : Hp) (F' : FS) (H' : Hp) : Prop where
  sub : ∀ a, F a → F' a
  keep : ∀ a o, H a = some o → H' a = some o
  new : ∀ a, F' a → F a ∨ H a = none
  trk : ∀ a, F' a → F a ∨ ∃ o, H' a = some o
section
variable {K : PySem.W.Frag} {F F' F1 : FS} {H H' H1 : Hp} {fp fp' fp1 : Nat → List Addr} {σ : St} {r r' : Rho} {d : D} {v : V} {q : List Addr}
theorem Newer.refl : Newer F H F H := ⟨fun _ h => h, fun _ _ h => h, fun _ h => .inl h, fun _ h => .inl h⟩
/-- one new object, shared -/
theorem Newer.one {p : Addr} {o : HO} (hp : H p = none) : Newer F H (fun a => F a ∨ a = p) (upd H p o) := by
  refine ⟨fun a h => .inl h, fun a u h => ?_, fun a h => ?_, fun a h => ?_⟩
  · rw [upd_ne (ne_of_none h hp)]; exact h
  · rcases h with h | h
    · exact .inl h
    · exact .inr (h ▸ hp)
  · rcases h with h | h
    · exact .inl h
    · exact .inr ⟨o, by rw [h, upd_same]⟩
/-- one new object, not shared -/
theorem Newer.own {p : Addr} {o : HO} (hp : H p = none) : Newer F H F (upd H p o) :=
  ⟨fun a h => h, fun a u h => by rw [upd_ne (ne_of_none h hp)]; exact h, fun a h => .inl h, fun a h => .inl h⟩
theorem Rel.fpT (R : Rel K F fp H σ r) {i : Nat} {a : Addr} (h : a ∈ fp i) : ∃ o, H a = some o := by
  by_cases z : ∃ d, r[i]? = some (some d)
  · obtain ⟨d, e⟩ := z
    obtain ⟨v, _, o⟩ := R.slot i d e
    exact o.tracked a h
  · rw [R.out i fun d e => z ⟨d, e⟩] at h
    cases h
theorem Rel.newer (R : Rel K F fp H σ r) (n : Newer F H F' H') : Rel K F' fp H' σ r := by
  refine ⟨R.len, fun i d e => ?_, R.out, R.dis, fun i a h z => ?_, fun a z => ?_⟩
  · obtain ⟨v, e1, o⟩ := R.slot i d e
    refine ⟨v, e1, o.mono n.sub (fun a z => ?_) fun a z => ?_⟩
    · obtain ⟨u, hu⟩ := R.trF a z
      rw [hu]; exact n.keep a u hu
    · obtain ⟨u, hu⟩ := o.tracked a z
      rw [hu]; exact n.keep a u hu
  · rcases n.new a z with z | z
    · exact R.nF i a h z
    · obtain ⟨u, hu⟩ := R.fpT h
      rw [z] at hu; cases hu
  · rcases n.trk a z with z | z
    · obtain ⟨u, hu⟩ := R.trF a z
      exact ⟨u, n.keep a u hu⟩
    · exact z
theorem Newer.step (n : Newer F H F' H') : Step fp F H fp F' H' :=
  ⟨n.sub, fun a o h _ => n.keep a o h, fun a h => (n.new a h).imp id .inl, fun i a h => .inr ⟨i, h⟩⟩
theorem Got.newer (s : Step fp F H fp1 F1 H1) (R : Rel K F1 fp1 H1 σ r) (n : Newer F1 H1 F' H') (o : Own K F' H' d v q) (hq : ∀ a, a ∈ q → ¬ F' a ∧ H1 a = none) : Got K F fp H σ F' fp1 H' r d v q := by
  refine ⟨s.trans n.step, R.newer n, o, fun a h => (hq a h).1, fun a i h z => ?_, fun a h => ?_⟩
  · obtain ⟨u, hu⟩ := R.fpT z
    rw [(hq a h).2] at hu; cases hu
  · have e := (hq a h).2
    cases q2 : H a with
    | none => exact .inl rfl
    | some u =>
      by_cases z : ∃ i, a ∈ fp i
      · exact .inr z
      · have := s.keep a u q2 fun i hi => z ⟨i, hi⟩
        rw [e] at this; cases this
theorem Got.flat (s : Step fp F H fp1 F1 H1) (R : Rel K F1 fp1 H1 σ r) (o : Frz K F1 H1 d.fz v) : Got K F fp H σ F1 fp1 H1 r d.fz v [] :=
  Got.newer s R Newer.refl o.own fun _ h => nomatch h
/-- what has come is shared -/
theorem Got.share (g : Got K F fp H σ F' fp' H' r' d v q) : Step fp F H fp' (fun a => F' a ∨ a ∈ q) H' ∧ Rel K (fun a => F' a ∨ a ∈ q) fp' H' σ r' ∧ Frz K (fun a => F' a ∨ a ∈ q) H' d.fz v := by
  refine ⟨⟨fun a h => .inl (g.st.sub a h), g.st.keep, fun a h => ?_, g.st.own⟩, ⟨g.rel.len, fun i e h => ?_, g.rel.out, g.rel.dis, fun i a h z => ?_, fun a z => ?_⟩, g.own.fz⟩
  · rcases h with h | h
    · exact g.st.new a h
    · exact .inr (g.qnew a h)
  · obtain ⟨w, e1, e2⟩ := g.rel.slot i e h
    exact ⟨w, e1, e2.mono (fun _ z => .inl z) (fun _ _ => rfl) fun _ _ => rfl⟩
  · rcases z with z | z
    · exact g.rel.nF i a h z
    · exact g.qfp a i z h
  · rcases z with z | z
    · exact g.rel.trF a z
    · exact g.own.tracked a z
/-- a slot is shared from now on -/
theorem Rel.freeze (R : Rel K F fp H σ r) {i : Nat} (e : r[i]? = some (some d)) : ∃ v, σ[i]? = some (some v) ∧ Got K F fp H σ (fun a => F a ∨ a ∈ fp i) (fun j => if j = i then [] else fp j) H (r.set i (some d.fz)) d.fz v [] := by
  obtain ⟨v, e1, o⟩ := R.slot i d e
  have hi : i < r.length := (List.getElem?_eq_some_iff.mp e).1
  refine ⟨v, e1, ⟨⟨fun a h => .inl h, fun a u h _ => h, fun a h => ?_, fun j a h => ?_⟩, ⟨by rw [List.length_set]; exact R.len, fun j x h => ?_, fun j h => ?_, fun j k a n h => ?_, fun j a h z => ?_, fun a z => ?_⟩, o.fz.own, fun a h => (nomatch h), fun a _ h => (nomatch h), fun a h => (nomatch h)⟩⟩
  · rcases h with h | h
    · exact .inl h
    · exact .inr (.inr ⟨i, h⟩)
  · by_cases z : j = i
    · rw [if_pos z] at h; cases h
    · rw [if_neg z] at h; exact .inr ⟨j, h⟩
  · by_cases z : j = i
    · subst z
      rw [List.getElem?_set_self hi] at h
      cases h
      exact ⟨v, e1, by rw [if_pos rfl]; exact o.fz.own⟩
    · rw [List.getElem?_set_ne (Ne.symm z)] at h
      obtain ⟨w, w1, w2⟩ := R.slot j x h
      exact ⟨w, w1, by rw [if_neg z]; exact w2.mono (fun _ q => .inl q) (fun _ _ => rfl) fun _ _ => rfl⟩
  · by_cases z : j = i
    · rw [if_pos z]
    · rw [if_neg z]
      exact R.out j fun x hx => h x (by rw [List.getElem?_set_ne (Ne.symm z)]; exact hx)
  · by_cases z : j = i
    · rw [if_pos z] at h; cases h
    · rw [if_neg z] at h
      by_cases y : k = i
      · rw [if_pos y]; exact fun q => nomatch q
      · rw [if_neg y]; exact R.dis j k a n h
  · by_cases y : j = i
    · rw [if_pos y] at h; cases h
    · rw [if_neg y] at h
      rcases z with z | z
      · exact R.nF j a h z
      · exact R.dis j i a y h z
  · rcases z with z | z
    · exact R.trF a z
    · exact R.fpT z
end
theorem pe_mono {X : Cx} {e : Expr} {t t' : TE} (h : PE X e t) (i : ∀ σ H Q, HV H → t' σ H Q → t σ H fun v H' => HV H' → Q v H') : PE X e t' := ⟨fun pins s σ H Q I q =>
  thn (h.run pins s σ H _ I (i σ H Q (hv_of I) q)) fun u s' ⟨v, H', I', rv, z⟩ => ⟨v, H', I', rv, z (hv_of I')⟩⟩
theorem pt_mono {X : Cx} {e : Expr} {t t' : TT} (h : PT X e t) (i : ∀ σ H Q, HV H → t' σ H Q → t σ H fun v H' => HV H' → Q v H') : PT X e t' := ⟨fun pins s σ H Q I q =>
  thn (h.run pins s σ H _ I (i σ H Q (hv_of I) q)) fun u s' ⟨H', I', z⟩ => ⟨H', I', z (hv_of I')⟩⟩
theorem pw_mono {X : Cx} {e : Expr} {t t' : TT} (h : PW X e t) (i : ∀ σ H Q, HV H → t' σ H Q → t σ H fun v H' => HV H' → Q v H') : PW X e t' := ⟨fun wh pins s σ H Q I q =>
  thn (h.run wh pins s σ H _ I (i σ H Q (hv_of I) q)) fun u s' ⟨H', I', z⟩ => ⟨H', I', z (hv_of I')⟩⟩
theorem pa_mono {X : Cx} {e : List Expr} {t t' : TA} (h : PA X e t) (i : ∀ σ H Q, HV H → t' σ H Q → t σ H fun v H' => HV H' → Q v H') : PA X e t' := ⟨fun pos pins s σ H Q I q =>
  thn (h.run pos pins s σ H _ I (i σ H Q (hv_of I) q)) fun u s' ⟨v, H', I', rv, z⟩ => ⟨v, H', I', rv, z (hv_of I')⟩⟩
theorem pe_share {X : Cx} {e : Expr} {ec : Ec} {W : WX} {f : Rho → Res D} (h : PE X e (tO X.K ec W f)) : PE X e (tR X.K ec W f) := pe_mono h fun σ H Q hv q _ => by
  obtain ⟨F, fp, r, R, z⟩ := q hv
  refine ⟨F, fp, r, R, ?_⟩
  cases e : f r with
  | ok d r' =>
    rw [e] at z
    intro F' fp' H' v qq hv' g _
    obtain ⟨a, b, c⟩ := g.share
    exact z _ fp' H' v hv' a b c
  | exc x r' => rw [e] at z; exact z
  | stuck => rw [e] at z; exact z
end Y
set_option Elab.async false
set_option linter.all false
set_option maxRecDepth 100000
set_option maxHeartbeats 4000000
/-! Y3: operators by values. -/
namespace Y
open PySem PySem.Spec L2
open PyProof.Rows hiding St
/-! ### lists of values -/
section
variable {K : PySem.W.Frag} {F F' : FS} {H H' : Hp}
theorem Frzs.app : ∀ {ds es : List D} {vs ws : List V}, Frzs K F H ds vs → Frzs K F H es ws → Frzs K F H (ds ++ es) (vs ++ ws)
  | [], _, _, _, h, h' => by
    have e : _ = [] := h
    subst e
    exact h'
  | d :: ds, _, _, _, h, h' => by
    obtain ⟨v, ws, rfl, h1, h2⟩ := h
    exact ⟨v, _, rfl, h1, Frzs.app h2 h'⟩
theorem Frzs.len : ∀ {ds : List D} {vs : List V}, Frzs K F H ds vs → ds.length = vs.length
  | [], _, h => by
    have e : _ = [] := h
    subst e
    rfl
  | d :: ds, _, h => by
    obtain ⟨v, ws, rfl, h1, h2⟩ := h
    simp [Frzs.len h2]
theorem Frzs.get : ∀ {ds : List D} {vs : List V} {i : Nat} {d : D}, Frzs K F H ds vs → ds[i]? = some d → ∃ v, vs[i]? = some v ∧ Frz K F H d v
  | [], _, _, _, h, e => by simp at e
  | d :: ds, _, 0, _, h, e => by
    obtain ⟨v, ws, rfl, h1, h2⟩ := h
    simp at e
    subst e
    exact ⟨v, rfl, h1⟩
  | d :: ds, _, i + 1, _, h, e => by
    obtain ⟨v, ws, rfl, h1, h2⟩ := h
    obtain ⟨u, e1, e2⟩ := Frzs.get (i := i) h2 (by simpa using e)
    exact ⟨u, by simpa using e1, e2⟩
theorem Frzs.set : ∀ {ds : List D} {vs : List V} (i : Nat) {d : D} {v : V}, Frzs K F H ds vs → Frz K F H d v → Frzs K F H (ds.set i d) (vs.set i v)
  | [], _, _, _, _, h, _ => by
    have e : _ = [] := h
    subst e
    exact rfl
  | d :: ds, _, 0, _, _, h, h' => by
    obtain ⟨v, ws, rfl, h1, h2⟩ := h
    exact ⟨_, ws, rfl, h', h2⟩
  | d :: ds, _, i + 1, _, _, h, h' => by
    obtain ⟨v, ws, rfl, h1, h2⟩ := h
    exact ⟨v, _, rfl, h1, Frzs.set i h2 h'⟩
theorem Frzs.rep {ds : List D} {vs : List V} (h : Frzs K F H ds vs) : ∀ n : Nat, Frzs K F H (List.replicate n ds).flatten (List.replicate n vs).flatten
  | 0 => by simp [Frzs]
  | n + 1 => by
    rw [List.replicate_succ, List.replicate_succ, List.flatten_cons, List.flatten_cons]
    exact h.app (Frzs.rep h n)
theorem frzs_cons {d : D} {v : V} {ds : List D} {vs : List V} (h : Frz K F H d v) (h' : Frzs K F H ds vs) : Frzs K F H (d :: ds) (v :: vs) := ⟨v, vs, rfl, h, h'⟩
theorem frzs_nil : Frzs K F H [] [] := rfl
theorem frzs_one {d : D} {vs : List V} (h : Frzs K F H [d] vs) : ∃ v, vs = [v] ∧ Frz K F H d v := by
  obtain ⟨v, ws, rfl, h1, h2⟩ := h
  have e : ws = [] := h2
  subst e
  exact ⟨v, rfl, h1⟩
theorem frzs_two {d e : D} {vs : List V} (h : Frzs K F H [d, e] vs) : ∃ v w, vs = [v, w] ∧ Frz K F H d v ∧ Frz K F H e w := by
  obtain ⟨v, ws, rfl, h1, h2⟩ := h
  obtain ⟨w, rfl, h3⟩ := frzs_one h2
  exact ⟨v, w, rfl, h1, h3⟩
theorem frz_tup {ds : List D} {v : V} (h : Frz K F H (.tup ds) v) : ∃ a vs, v = .ref a ∧ SqT K H a vs ∧ Frzs K F H ds vs := by
  obtain ⟨a, vs, e, h1, h2⟩ := h
  exact ⟨a, vs, e, h1.imp (fun z => .inl z.2) id, h2⟩
theorem frz_lst {o : Bool} {ds : List D} {v : V} (h : Frz K F H (.lst o ds) v) : ∃ a vs, v = .ref a ∧ Rd H a (.lst vs) ∧ Frzs K F H ds vs := by
  obtain ⟨a, vs, e, h1, h2⟩ := h
  exact ⟨a, vs, e, h1.2, h2⟩
theorem frz_wls {ds : List D} {v : V} (h : Frz K F H (.wls ds) v) : ∃ a vs, v = .ref a ∧ SqL K H a vs ∧ Frzs K F H ds vs := by
  obtain ⟨a, vs, e, h1, h2⟩ := h
  exact ⟨a, vs, e, h1.imp (fun z => z.2) id, h2⟩
mutual
theorem Frz.dp : ∀ (d : D) (v : V) (x : PyData), toPy d = some x → Frz K F H d v → Dp K H v x
  | .non, _, x, e, h => by
    cases e; cases h; exact .non
  | .bl b, _, x, e, h => by
    cases e; cases h; exact .bl b
  | .int i, _, x, e, h => by
    cases e; cases h; exact .int i
  | .str s, _, x, e, h => by
    cases e; cases h; exact .str s
  | .tup ds, _, x, e, h => by
    obtain ⟨a, vs, rfl, h1, h2⟩ := frz_tup h
    unfold toPy at e
    cases q : toPys ds with
    | none => rw [q] at e; cases e
    | some ys =>
      rw [q] at e
      cases e
      exact .tup h1 (Frzs.dp ds vs ys q h2)
  | .lst _ ds, _, x, e, h => by
    obtain ⟨a, vs, rfl, h1, h2⟩ := frz_lst h
    unfold toPy at e
    cases q : toPys ds with
    | none => rw [q] at e; cases e
    | some ys =>
      rw [q] at e
      cases e
      exact .lst (.inl h1) (Frzs.dp ds vs ys q h2)
  | .ty _, _, x, e, h => by cases e
  | .wls _, _, x, e, h => by cases e
  | .dct _ _, _, x, e, h => by cases e
  | .ins _ _ _, _, x, e, h => by cases e
theorem Frzs.dp : ∀ (ds : List D) (vs : List V) (xs : List PyData), toPys ds = some xs → Frzs K F H ds vs → DpAll K H vs xs
  | [], _, xs, e, h => by
    have z : _ = [] := h
    subst z
    cases e
    exact .nil
  | d :: ds, _, xs, e, h => by
    obtain ⟨v, ws, rfl, h1, h2⟩ := h
    unfold toPys at e
    cases q : toPy d with
    | none => rw [q] at e; cases e
    | some y =>
      rw [q] at e
      cases q2 : toPys ds with
      | none => rw [q2] at e; cases e
      | some ys =>
        rw [q2] at e
        cases e
        exact .cons (Frz.dp d v y q h1) (Frzs.dp ds ws ys q2 h2)
end
end
/-! ### an operator that is told by values -/
def OpOk (K : PySem.W.Frag) (rr : R2) (g : D → D → Option D) : Prop := ∀ (F : FS) (H : Hp) (x y : V) (dx dy d : D) (Q : VK), HV H → (∀ a, F a → ∃ o, H a = some o) → Frz K F H dx x → Frz K F H dy y → g dx dy = some d →
  (∀ F' H' v q, Newer F H F' H' → Own K F' H' d v q → (∀ a, a ∈ q → ¬ F' a ∧ H a = none) → Q v H') → rr x y H Q
section
variable {K : PySem.W.Frag} {F : FS} {H : Hp}
/-- a new list of one's own -/
theorem new_lst {p : Addr} {ds : List D} {vs : List V} (tr : ∀ a, F a → ∃ o, H a = some o) (hp : H p = none) (h : Frzs K F H ds vs) :
    Newer F H F (upd H p (.lst vs)) ∧ Own K F (upd H p (.lst vs)) (.lst true ds) (.ref p) [p] ∧ (∀ a, a ∈ [p] → ¬ F a ∧ H a = none) := by
  refine ⟨.own hp, ⟨p, vs, rfl, upd_same, Frzs.mono (fun _ z => z) (fun a z => ?_) _ _ h, rfl⟩, fun a z => ?_⟩
  · obtain ⟨o, e⟩ := tr a z
    exact upd_ne (ne_of_none e hp)
  · have e : a = p := by simpa using z
    subst e
    refine ⟨fun q => ?_, hp⟩
    obtain ⟨o, e⟩ := tr a q
    rw [hp] at e; cases e
/-- a new tuple -/
theorem new_tup {p : Addr} {ds : List D} {vs : List V} (tr : ∀ a, F a → ∃ o, H a = some o) (hp : H p = none) (h : Frzs K F H ds vs) :
    Newer F H (fun a => F a ∨ a = p) (upd H p (.tup vs)) ∧ Own K (fun a => F a ∨ a = p) (upd H p (.tup vs)) (.tup ds) (.ref p) [] := by
  refine ⟨.one hp, ⟨p, vs, rfl, .inl ⟨.inr rfl, upd_same⟩, Frzs.mono (fun _ z => .inl z) (fun a z => ?_) _ _ h⟩, rfl⟩
  obtain ⟨o, e⟩ := tr a z
  exact upd_ne (ne_of_none e hp)
end
section
variable {X : Cx}
theorem lstR {pins : List (Addr × Obj)} {σ : St} {H : Hp} {s : Shared} {l : Addr} {xs : List V} (I : Inv X pins σ H s) (h : Rd H l (.lst xs)) :
    ∃ (its : List Value) (n : Nat), Vals xs its ∧ xs.length = its.length ∧ s.heap.get? l = some { cls := .type "list", data := .seq its.toArray n } := by
  obtain ⟨z, its, n, r, e⟩ := h.ok I.hok
  exact ⟨its, n, r, r.length, e⟩
/-- list + list -/
def rCatR : R2 := fun x y H Q => ∃ l b xs zs, x = .ref l ∧ y = .ref b ∧ Rd H l (.lst xs) ∧ Rd H b (.lst zs) ∧ xs.length + zs.length ≤ sizeLine ∧ ∀ p, H p = none → Q (.ref p) (upd H p (.lst (xs ++ zs)))
theorem op_catR : OpR X (binaryOp .Add) rCatR := by
  intro pins s σ H x y v u Q I rx ry h
  obtain ⟨l, b, xs, zs, e1, e2, hH, hB, hz, q⟩ := h
  subst e1 e2
  cases rx; cases ry
  obtain ⟨its, n, r, hl, e⟩ := lstR I hH
  obtain ⟨its2, n2, r2, hl2, e2⟩ := lstR I hB
  have hw : its.toArray.size + its2.toArray.size ≤ sizeLine := by
    rw [List.size_toArray, List.size_toArray]; omega
  refine PySem.P.add_list e e2 ?_ hw
  rw [show its.toArray ++ its2.toArray = (its ++ its2).toArray by simp]
  have hz2 : (xs ++ zs).length ≤ sizeLine := by
    rw [List.length_append]; omega
  exact ⟨.ref _, _, I.lnew (t' := s.toks) (r.append r2) hz2, rfl, q _ I.fresh⟩
def rAddAll (K : PySem.W.Frag) : R2 := fun x y H Q => rI0 (fun i j => .int (i + j)) x y H Q ∨ (∃ i j, x = .str i ∧ y = .str j ∧ i.length + j.length ≤ sizeLine ∧ Q (.str (i ++ j)) H) ∨ rCatA K x y H Q ∨ rCatR x y H Q
theorem op_addAll : OpR X (binaryOp .Add) (rAddAll X.K) := op_add.or (op_add_str.or (op_catA.or op_catR))
theorem ok_add {K : PySem.W.Frag} : OpOk K (rAddAll K) (opD .add) := by
  intro F H x y dx dy d Q hv tr hx hy e k
  change addD dx dy = some d at e
  unfold addD at e
  split at e
  · cases hx; cases hy; cases e
    exact .inl ⟨_, _, rfl, rfl, k F H _ [] .refl ⟨rfl, rfl⟩ fun _ z => nomatch z⟩
  · cases hx; cases hy
    split at e
    · cases e
      exact .inr (.inl ⟨_, _, rfl, rfl, by assumption, k F H _ [] .refl ⟨rfl, rfl⟩ fun _ z => nomatch z⟩)
    · cases e
  · rename_i xs ys
    obtain ⟨a, vs, rfl, h1, h2⟩ := frz_tup hx
    obtain ⟨b, ws, rfl, h3, h4⟩ := frz_tup hy
    split at e
    · rename_i hz
      cases e
      refine .inr (.inr (.inl ⟨a, b, vs, ws, rfl, rfl, h1, h3, by rw [← h2.len, ← h4.len]; exact hz, fun z => ?_, fun _ z => ?_, fun _ _ p hp => ?_⟩))
      · have e0 : xs = [] := List.length_eq_zero_iff.mp (by rw [h2.len, z]; rfl)
        subst e0
        exact k F H _ [] .refl ⟨hy, rfl⟩ fun _ z => nomatch z
      · have e0 : ys = [] := List.length_eq_zero_iff.mp (by rw [h4.len, z]; rfl)
        subst e0
        exact k F H _ [] .refl ⟨by rw [List.append_nil]; exact hx, rfl⟩ fun _ z => nomatch z
      · obtain ⟨n1, n2⟩ := new_tup tr hp (h2.app h4)
        exact k _ _ _ [] n1 n2 fun _ z => nomatch z
    · cases e
  · obtain ⟨a, vs, rfl, h1, h2⟩ := frz_lst hx
    obtain ⟨b, ws, rfl, h3, h4⟩ := frz_lst hy
    split at e
    · rename_i hz
      cases e
      refine .inr (.inr (.inr ⟨a, b, vs, ws, rfl, rfl, h1, h3, by rw [← h2.len, ← h4.len]; exact hz, fun p hp => ?_⟩))
      obtain ⟨n1, n2, n3⟩ := new_lst tr hp (h2.app h4)
      exact k _ _ _ _ n1 n2 n3
    · cases e
  · cases e
/-- the answer is flat, the heap as it was -/
theorem ok_flat {K : PySem.W.Frag} {F : FS} {H : Hp} {d : D} {v : V} {Q : VK} (k : ∀ F' H' v q, Newer F H F' H' → Own K F' H' d v q → (∀ a, a ∈ q → ¬ F' a ∧ H a = none) → Q v H') (h : Own K F H d v []) : Q v H :=
  k F H v [] .refl h fun _ z => nomatch z
theorem ok_sub {K : PySem.W.Frag} : OpOk K (rI0 fun i j => .int (i - j)) (opD .sub) := by
  intro F H x y dx dy d Q hv tr hx hy e k
  change subD dx dy = some d at e
  unfold subD at e
  split at e
  · cases hx; cases hy; cases e
    exact ⟨_, _, rfl, rfl, ok_flat k ⟨rfl, rfl⟩⟩
  · cases e
def rRepR : R2 := fun x y H Q => ∃ l k xs, x = .ref l ∧ y = .int k ∧ Rd H l (.lst xs) ∧ 0 ≤ k ∧ k < 2 ^ 63 ∧ xs.length * k.toNat ≤ sizeLine ∧ ∀ p, H p = none → Q (.ref p) (upd H p (.lst (List.replicate k.toNat xs).flatten))
theorem op_repR : OpR X (binaryOp .Mult) rRepR := by
  intro pins s σ H x y v u Q I rx ry h
  obtain ⟨l, k, xs, e1, e2, hH, h1, h2, hz, q⟩ := h
  subst e1 e2
  cases rx
  obtain ⟨t, rfl⟩ := ry
  obtain ⟨its, n, r, hl, e⟩ := lstR I hH
  have hlen : its.toArray.size * k.toNat ≤ sizeLine := by
    rw [List.size_toArray, ← hl]; exact hz
  have hlong : ¬ Builtin.List.listTooLong (its.toArray.size * k.toNat) = true := by
    rw [notLongL hlen]; decide
  have hcap : ¬ its.toArray.size * k.toNat > (2 ^ 63 - 1) / 8 := by
    have : (sizeLine : Nat) ≤ (2 ^ 63 - 1) / 8 := by decide
    omega
  have hfit : ¬ (!Builtin.List.listFitsIndex k) = true := by
    rw [fitsIndex_both (by omega) h2]; decide
  have f0 : ∀ m : Nat, List.foldl (fun x1 x2 => x1 ++ x2) #[] (List.replicate m its.toArray) = (List.replicate m its).flatten.toArray := fun m => by
    have z := foldl_rep its m []
    rw [List.nil_append] at z; exact z
  have hnew : List.foldl (fun x1 x2 => x1 ++ x2) #[] (List.replicate (if its.toArray.isEmpty = true then 0 else k.toNat) its.toArray) = (List.replicate k.toNat its).flatten.toArray := by
    rw [f0]
    cases its with
    | nil => simp
    | cons a r' => simp
  have call : wpAny (model X.prog X.w) X.A (call (.builtin "list.__mul__") [.ref l, .int k t]) (EP X pins σ Q) X.xe s := by
    refine call_meets F.slot_list_mul ⟨_, e, rfl⟩ F.entry_list_mul (F.args_list_mul_2 _ _) (AutoListH.list___mul___list_int_3 l its.toArray n k t hfit hcap hlong) ⟨e, ?_⟩
    rw [hnew]
    have hz2 : (List.replicate k.toNat xs).flatten.length ≤ sizeLine := by
      rw [PyProof.Rows.lm_len_rep_flat, Nat.mul_comm]; exact hz
    exact ⟨.ref _, _, I.lnew (t' := s.toks) (r.rep k.toNat) hz2, rfl, q _ I.fresh⟩
  refine wpAny_binaryOp_repeat_ref (T := "list") (U := "int") (by decide) ⟨_, e, rfl⟩ (fun s' => typeIs_int s' k t) noFill_list_mul F.fills_int_mul F.slot_int_rmul repeat_list F.slot_int_index.lookup ?_
  exact call_meets F.slot_int_rmul (typeIs_int s k t) F.entry_int_rmul (F.args_int_rmul_2 _ _) (int___rmul___int_list k t l its.toArray n) ⟨e, rfl, ⟨_, e, rfl⟩, call⟩
def rMulAll : R2 := fun x y H Q => rI CMul (fun i j => .int (i * j)) x y H Q ∨ rRepR x y H Q
theorem op_mulAll : OpR X (binaryOp .Mult) rMulAll := op_mul.or op_repR
theorem ok_mul {K : PySem.W.Frag} : OpOk K rMulAll (opD .mul) := by
  intro F H x y dx dy d Q hv tr hx hy e k
  change mulD dx dy = some d at e
  unfold mulD at e
  split at e
  · cases hx; cases hy
    split at e
    · rename_i hz
      cases e
      unfold mulOk at hz
      simp only [Bool.or_eq_true, Bool.and_eq_true, decide_eq_true_eq] at hz
      exact .inl ⟨_, _, rfl, rfl, hz, ok_flat k ⟨rfl, rfl⟩⟩
    · cases e
  · obtain ⟨a, vs, rfl, h1, h2⟩ := frz_lst hx
    cases hy
    split at e
    · rename_i hz
      cases e
      refine .inr ⟨a, _, vs, rfl, rfl, h1, hz.1, hz.2.1, by rw [← h2.len]; exact hz.2.2, fun p hp => ?_⟩
      obtain ⟨n1, n2, n3⟩ := new_lst tr hp (h2.rep _)
      exact k _ _ _ _ n1 n2 n3
    · cases e
  · cases e
theorem ok_fdiv {K : PySem.W.Frag} : OpOk K (rI CDivW fun i j => .int (i / j)) (opD .fdiv) := by
  intro F H x y dx dy d Q hv tr hx hy e k
  change fdivD dx dy = some d at e
  unfold fdivD at e
  split at e
  · cases hx; cases hy
    split at e
    · rename_i hz
      cases e
      exact ⟨_, _, rfl, rfl, wide_div (b := 200) hz.1 hz.2 (by decide) (by decide), ok_flat k ⟨rfl, rfl⟩⟩
    · cases e
  · cases e
theorem ok_mod {K : PySem.W.Frag} : OpOk K (rI (fun _ j => 0 < j) fun i j => .int (i % j)) (opD .mod) := by
  intro F H x y dx dy d Q hv tr hx hy e k
  change modD dx dy = some d at e
  unfold modD at e
  split at e
  · cases hx; cases hy
    split at e
    · rename_i hz
      cases e
      exact ⟨_, _, rfl, rfl, hz, ok_flat k ⟨rfl, rfl⟩⟩
    · cases e
  · cases e
def CPowB (i j : Int) : Prop := 0 ≤ j ∧ j ≤ 1000 ∧ i.natAbs < 2 ^ 200
theorem CPowB.ok {i j : Int} (h : CPowB i j) : (Builtin.Int.intBits i : Int) * j ≤ 2 ^ 27 := by
  have h1 : Builtin.Int.intBits i ≤ 1000 := by
    unfold Builtin.Int.intBits
    split
    · omega
    · have := PySem.Flt.log2_lt_of (k := 200) (by decide) h.2.2
      omega
  have h2 : (Builtin.Int.intBits i : Int) * j ≤ 1000 * j := Int.mul_le_mul_of_nonneg_right (by omega) h.1
  have := h.2.1
  omega
theorem op_powB : OpR X (binaryOp .Pow) (rI CPowB fun i j => .int (i ^ j.toNat)) := opI fun _ _ _ _ _ _ _ hc q => pow_int hc.1 hc.ok q
theorem ok_pow {K : PySem.W.Frag} : OpOk K (rI CPowB fun i j => .int (i ^ j.toNat)) (opD .pow) := by
  intro F H x y dx dy d Q hv tr hx hy e k
  change powD dx dy = some d at e
  unfold powD at e
  split at e
  · cases hx; cases hy
    split at e
    · rename_i hz
      cases e
      exact ⟨_, _, rfl, rfl, hz, ok_flat k ⟨rfl, rfl⟩⟩
    · cases e
  · cases e
end
end Y
set_option Elab.async false
set_option linter.all false
set_option maxRecDepth 100000
set_option maxHeartbeats 4000000
/-! Y4: comparisons, built-in calls by values. -/
namespace Y
open PySem PySem.Spec L2
open PyProof.Rows hiding St
section
variable {K : PySem.W.Frag}
theorem ok_eq : OpOk K (rEqD K) (cmD .eq) := by
  intro F H x y dx dy d Q hv tr hx hy e k
  change (eqD dx dy).map D.bl = some d at e
  unfold eqD at e
  split at e
  · rename_i a b h1 h2
    split at e
    · rename_i hs
      cases e
      exact ⟨a, b, Frz.dp _ _ _ h1 hx, Frz.dp _ _ _ h2 hy, hs.1, hs.2, ok_flat k ⟨rfl, rfl⟩⟩
    · cases e
  · cases e
theorem ok_ne : OpOk K (rNeD K) (cmD .ne) := by
  intro F H x y dx dy d Q hv tr hx hy e k
  change (eqD dx dy).map (fun c => D.bl (!c)) = some d at e
  unfold eqD at e
  split at e
  · rename_i a b h1 h2
    split at e
    · rename_i hs
      cases e
      exact ⟨a, b, Frz.dp _ _ _ h1 hx, Frz.dp _ _ _ h2 hy, hs.1, hs.2, ok_flat k ⟨rfl, rfl⟩⟩
    · cases e
  · cases e
def rLtAll : R2 := fun x y H Q => rI0 (fun i j => .bl (decide (i < j))) x y H Q ∨ ∃ i j, x = .str i ∧ y = .str j ∧ Q (.bl (decide (i.cps.toList < j.cps.toList))) H
theorem op_ltAll {X : Cx} : OpR X (compareOp .Lt) rLtAll := op_lt.or op_lt_str
theorem ok_lt : OpOk K rLtAll (cmD .lt) := by
  intro F H x y dx dy d Q hv tr hx hy e k
  change ltD dx dy = some d at e
  unfold ltD at e
  split at e
  · cases hx; cases hy; cases e
    exact .inl ⟨_, _, rfl, rfl, ok_flat k ⟨rfl, rfl⟩⟩
  · cases hx; cases hy; cases e
    exact .inr ⟨_, _, rfl, rfl, ok_flat k ⟨rfl, rfl⟩⟩
  · cases e
theorem ok_le : OpOk K (rI0 fun i j => .bl (decide (i ≤ j))) (cmD .le) := by
  intro F H x y dx dy d Q hv tr hx hy e k
  change leD dx dy = some d at e
  unfold leD at e
  split at e
  · cases hx; cases hy; cases e
    exact ⟨_, _, rfl, rfl, ok_flat k ⟨rfl, rfl⟩⟩
  · cases e
theorem ok_gt : OpOk K (rI0 fun i j => .bl (decide (j < i))) (cmD .gt) := by
  intro F H x y dx dy d Q hv tr hx hy e k
  change gtD dx dy = some d at e
  unfold gtD at e
  split at e
  · cases hx; cases hy; cases e
    exact ⟨_, _, rfl, rfl, ok_flat k ⟨rfl, rfl⟩⟩
  · cases e
theorem ok_ge : OpOk K (rI0 fun i j => .bl (decide (j ≤ i))) (cmD .ge) := by
  intro F H x y dx dy d Q hv tr hx hy e k
  change geD dx dy = some d at e
  unfold geD at e
  split at e
  · cases hx; cases hy; cases e
    exact ⟨_, _, rfl, rfl, ok_flat k ⟨rfl, rfl⟩⟩
  · cases e
def rIsAll : R2 := fun x y H Q => rIsB x y H Q ∨ (y = .non ∧ Q (.bl (decide (x = .non))) H)
theorem op_isAll {X : Cx} : OpR X (compareOp .Is) rIsAll := op_isBl.or op_isN
theorem is_cases {F : FS} {H : Hp} {x y : V} {dx dy d : D} (hx : Frz K F H dx x) (hy : Frz K F H dy y) (e : isD dx dy = some d) :
    ∃ c, d = .bl c ∧ ((∃ a b : Bool, x = .bl a ∧ y = .bl b ∧ c = decide (a = b)) ∨ (y = .non ∧ c = decide (x = .non))) := by
  unfold isD at e
  split at e
  · cases hx; cases hy; cases e
    exact ⟨_, rfl, .inl ⟨_, _, rfl, rfl, rfl⟩⟩
  · cases hx; cases hy; cases e
    exact ⟨_, rfl, .inr ⟨rfl, rfl⟩⟩
  · cases hx; cases hy; cases e
    exact ⟨_, rfl, .inr ⟨rfl, rfl⟩⟩
  · cases hx; cases hy; cases e
    exact ⟨_, rfl, .inr ⟨rfl, rfl⟩⟩
  · cases hx; cases hy; cases e
    exact ⟨_, rfl, .inr ⟨rfl, rfl⟩⟩
  · obtain ⟨a, vs, rfl, _⟩ := hx
    cases hy; cases e
    exact ⟨_, rfl, .inr ⟨rfl, rfl⟩⟩
  · obtain ⟨a, vs, rfl, _⟩ := hx
    cases hy; cases e
    exact ⟨_, rfl, .inr ⟨rfl, rfl⟩⟩
  · obtain ⟨a, rfl, _⟩ := hx
    cases hy; cases e
    exact ⟨_, rfl, .inr ⟨rfl, rfl⟩⟩
  · cases e
theorem ok_is : OpOk K rIsAll (cmD .is) := by
  intro F H x y dx dy d Q hv tr hx hy e k
  obtain ⟨c, rfl, h⟩ := is_cases hx hy e
  rcases h with ⟨a, b, rfl, rfl, rfl⟩ | ⟨rfl, rfl⟩
  · exact .inl ⟨a, b, rfl, rfl, ok_flat k ⟨rfl, rfl⟩⟩
  · exact .inr ⟨rfl, ok_flat k ⟨rfl, rfl⟩⟩
def rIsnAll : R2 := fun x y H Q => rNotB x y H Q ∨ (y = .non ∧ Q (.bl (!decide (x = .non))) H)
theorem op_isnAll {X : Cx} : OpR X (compareOp .IsNot) rIsnAll := op_notBl.or op_notN
theorem ok_isn : OpOk K rIsnAll (cmD .isn) := by
  intro F H x y dx dy d Q hv tr hx hy e k
  change (match isD dx dy with
    | some (.bl c) => some (D.bl (!c))
    | _ => none) = some d at e
  split at e
  · rename_i c h
    cases e
    obtain ⟨c', e', h⟩ := is_cases hx hy h
    cases e'
    rcases h with ⟨a, b, rfl, rfl, rfl⟩ | ⟨rfl, rfl⟩
    · exact .inl ⟨a, b, rfl, rfl, ok_flat k ⟨rfl, rfl⟩⟩
    · exact .inr ⟨rfl, ok_flat k ⟨rfl, rfl⟩⟩
  · cases e
def rInAll (K : PySem.W.Frag) : R2 := fun x y H Q => (∃ i j, x = .str i ∧ y = .str j ∧ Q (.bl (!(Builtin.Str.occurrences j i 0 j.length 1).isEmpty)) H) ∨ rInD K x y H Q
theorem op_inAll {X : Cx} (hu : X.A.units + 65 < cLine) : OpR X (compareOp .In) (rInAll X.K) := op_in_str.or (op_inD hu)
def rNinAll (K : PySem.W.Frag) : R2 := fun x y H Q => (∃ i j, x = .str i ∧ y = .str j ∧ Q (.bl (!(!(Builtin.Str.occurrences j i 0 j.length 1).isEmpty))) H) ∨ rNotInD K x y H Q
theorem op_ninAll {X : Cx} (hu : X.A.units + 65 < cLine) : OpR X (compareOp .NotIn) (rNinAll X.K) := op_notin_str.or (op_notInD hu)
theorem in_cases {F : FS} {H : Hp} {x y : V} {dx dy : D} {c : Bool} (hx : Frz K F H dx x) (hy : Frz K F H dy y) (e : inOf dx dy = some c) :
    (∃ i j, x = .str i ∧ y = .str j ∧ c = !(Builtin.Str.occurrences j i 0 j.length 1).isEmpty) ∨
      ∃ d ds, Dp K H x d ∧ Dp K H y (.list ds) ∧ SeqAt.shaped d = true ∧ SeqAt.shaped (.list ds) = true ∧ c = ds.any fun z => PyData.eqv z d := by
  unfold inOf at e
  split at e
  · cases hx; cases hy; cases e
    exact .inl ⟨_, _, rfl, rfl, rfl⟩
  · obtain ⟨a, vs, rfl, h1, h2⟩ := frz_lst hy
    unfold inD at e
    split at e
    · rename_i p q h3 h4
      split at e
      · rename_i hs
        cases e
        exact .inr ⟨_, _, Frz.dp _ _ _ h3 hx, .lst (.inl h1) (Frzs.dp _ _ _ h4 h2), hs.1, hs.2, rfl⟩
      · cases e
    · cases e
  · cases e
theorem ok_in : OpOk K (rInAll K) (cmD .in_) := by
  intro F H x y dx dy d Q hv tr hx hy e k
  change (inOf dx dy).map D.bl = some d at e
  cases q : inOf dx dy with
  | none => rw [q] at e; cases e
  | some c =>
    rw [q] at e
    cases e
    rcases in_cases hx hy q with ⟨i, j, rfl, rfl, rfl⟩ | ⟨a, b, h1, h2, h3, h4, rfl⟩
    · exact .inl ⟨i, j, rfl, rfl, ok_flat k ⟨rfl, rfl⟩⟩
    · exact .inr ⟨a, b, h1, h2, h3, h4, ok_flat k ⟨rfl, rfl⟩⟩
theorem ok_nin : OpOk K (rNinAll K) (cmD .nin) := by
  intro F H x y dx dy d Q hv tr hx hy e k
  change (inOf dx dy).map (fun c => D.bl (!c)) = some d at e
  cases q : inOf dx dy with
  | none => rw [q] at e; cases e
  | some c =>
    rw [q] at e
    cases e
    rcases in_cases hx hy q with ⟨i, j, rfl, rfl, rfl⟩ | ⟨a, b, h1, h2, h3, h4, rfl⟩
    · exact .inl ⟨i, j, rfl, rfl, ok_flat k ⟨rfl, rfl⟩⟩
    · exact .inr ⟨a, b, h1, h2, h3, h4, ok_flat k ⟨rfl, rfl⟩⟩
/-! ### which rule for which operator -/
def opOf : Op → Operator
  | .add => .Add
  | .sub => .Sub
  | .mul => .Mult
  | .fdiv => .FloorDiv
  | .mod => .Mod
  | .pow => .Pow
def cmOf : Cm → CmpOp
  | .eq => .Eq
  | .ne => .NotEq
  | .lt => .Lt
  | .le => .LtE
  | .gt => .Gt
  | .ge => .GtE
  | .is => .Is
  | .isn => .IsNot
  | .in_ => .In
  | .nin => .NotIn
theorem op_rule (X : Cx) (o : Op) : ∃ rr, OpR X (binaryOp (opOf o)) rr ∧ OpOk X.K rr (opD o) := by
  cases o
  · exact ⟨_, op_addAll, ok_add⟩
  · exact ⟨_, op_sub, ok_sub⟩
  · exact ⟨_, op_mulAll, ok_mul⟩
  · exact ⟨_, op_fdivW, ok_fdiv⟩
  · exact ⟨_, op_mod, ok_mod⟩
  · exact ⟨_, op_powB, ok_pow⟩
theorem cm_rule {X : Cx} (hu : X.A.units + 65 < cLine) (o : Cm) : ∃ rr, OpR X (compareOp (cmOf o)) rr ∧ OpOk X.K rr (cmD o) := by
  have hu' : X.A.units + 64 < cLine := by omega
  cases o
  · exact ⟨_, op_eqD hu', ok_eq⟩
  · exact ⟨_, op_neD hu', ok_ne⟩
  · exact ⟨_, op_ltAll, ok_lt⟩
  · exact ⟨_, op_le, ok_le⟩
  · exact ⟨_, op_gt, ok_gt⟩
  · exact ⟨_, op_ge, ok_ge⟩
  · exact ⟨_, op_isAll, ok_is⟩
  · exact ⟨_, op_isnAll, ok_isn⟩
  · exact ⟨_, op_inAll hu, ok_in⟩
  · exact ⟨_, op_ninAll hu, ok_nin⟩
/-! ### built-in calls -/
def ClOk (K : PySem.W.Frag) (rr : List V → Hp → VK → Prop) (g : List D → Option D) : Prop := ∀ (F : FS) (H : Hp) (vs : List V) (ds : List D) (d : D) (Q : VK), HV H → (∀ a, F a → ∃ o, H a = some o) → Frzs K F H ds vs → g ds = some d →
  (∀ F' H' v q, Newer F H F' H' → Own K F' H' d v q → (∀ a, a ∈ q → ¬ F' a ∧ H a = none) → Q v H') → rr vs H Q
/-- a list that is read -/
theorem frz_seq {d : D} {F : FS} {H : Hp} {v : V} {xs : List D} (e : d = .tup xs ∨ (∃ o, d = .lst o xs) ∨ d = .wls xs) (h : Frz K F H d v) : ∃ a vs, v = .ref a ∧ (SqL K H a vs ∨ SqT K H a vs) ∧ Frzs K F H xs vs := by
  rcases e with rfl | ⟨o, rfl⟩ | rfl
  · obtain ⟨a, vs, rfl, h1, h2⟩ := frz_tup h
    exact ⟨a, vs, rfl, .inr h1, h2⟩
  · obtain ⟨a, vs, rfl, h1, h2⟩ := frz_lst h
    exact ⟨a, vs, rfl, .inl (.inl h1), h2⟩
  · obtain ⟨a, vs, rfl, h1, h2⟩ := frz_wls h
    exact ⟨a, vs, rfl, .inl h1, h2⟩
def rLenAll (K : PySem.W.Frag) : List V → Hp → VK → Prop := fun xs H Q => (∃ p ys, xs = [.ref p] ∧ (SqL K H p ys ∨ SqT K H p ys) ∧ Q (.int ys.length) H) ∨ ∃ z, xs = [.str z] ∧ z.length ≤ sizeLine ∧ Q (.int z.length) H
theorem cl_len {X : Cx} : CallR X (.builtin "len") (rLenAll X.K) := call_len_seq.or call_len_str
theorem ck_len : ClOk K (rLenAll K) (bltD .len) := by
  intro F H vs ds d Q hv tr h e k
  change lenD ds = some d at e
  unfold lenD at e
  split at e
  · obtain ⟨v, rfl, h1⟩ := frzs_one h
    split at e
    · cases h1; cases e
      exact .inr ⟨_, rfl, by assumption, ok_flat k ⟨rfl, rfl⟩⟩
    · cases e
  · obtain ⟨v, rfl, h1⟩ := frzs_one h
    obtain ⟨a, ws, rfl, h2, h3⟩ := frz_seq (.inl rfl) h1
    refine .inl ⟨a, ws, rfl, h2, ?_⟩
    cases e
    rw [← h3.len]
    exact ok_flat k ⟨rfl, rfl⟩
  · obtain ⟨v, rfl, h1⟩ := frzs_one h
    obtain ⟨a, ws, rfl, h2, h3⟩ := frz_seq (.inr (.inl ⟨_, rfl⟩)) h1
    refine .inl ⟨a, ws, rfl, h2, ?_⟩
    cases e
    rw [← h3.len]
    exact ok_flat k ⟨rfl, rfl⟩
  · obtain ⟨v, rfl, h1⟩ := frzs_one h
    obtain ⟨a, ws, rfl, h2, h3⟩ := frz_seq (.inr (.inr rfl)) h1
    refine .inl ⟨a, ws, rfl, h2, ?_⟩
    cases e
    rw [← h3.len]
    exact ok_flat k ⟨rfl, rfl⟩
  · cases e
theorem ck_abs : ClOk K (fun xs H Q => ∃ i, xs = [.int i] ∧ Q (.int (if i < 0 then -i else i)) H) (bltD .abs) := by
  intro F H vs ds d Q hv tr h e k
  change absD ds = some d at e
  unfold absD at e
  split at e
  · obtain ⟨v, rfl, h1⟩ := frzs_one h
    cases h1; cases e
    exact ⟨_, rfl, ok_flat k ⟨rfl, rfl⟩⟩
  · cases e
theorem ck_int : ClOk K (fun xs H Q => (∃ i, xs = [.int i] ∧ Q (.int i) H) ∨ ∃ k, xs = [.bl k] ∧ Q (.int (if k then 1 else 0)) H) (bltD .int) := by
  intro F H vs ds d Q hv tr h e k
  change intD ds = some d at e
  unfold intD at e
  split at e
  · obtain ⟨v, rfl, h1⟩ := frzs_one h
    cases h1; cases e
    exact .inl ⟨_, rfl, ok_flat k ⟨rfl, rfl⟩⟩
  · obtain ⟨v, rfl, h1⟩ := frzs_one h
    cases h1; cases e
    exact .inr ⟨_, rfl, ok_flat k ⟨rfl, rfl⟩⟩
  · cases e
theorem ck_max2 : ClOk K (fun xs H Q => ∃ i j, xs = [.int i, .int j] ∧ Q (.int (if j > i then j else i)) H) (bltD .max2) := by
  intro F H vs ds d Q hv tr h e k
  change max2D ds = some d at e
  unfold max2D at e
  split at e
  · obtain ⟨v, w, rfl, h1, h2⟩ := frzs_two h
    cases h1; cases h2; cases e
    exact ⟨_, _, rfl, ok_flat k ⟨rfl, rfl⟩⟩
  · cases e
theorem ck_min2 : ClOk K (fun xs H Q => ∃ i j, xs = [.int i, .int j] ∧ Q (.int (if j < i then j else i)) H) (bltD .min2) := by
  intro F H vs ds d Q hv tr h e k
  change min2D ds = some d at e
  unfold min2D at e
  split at e
  · obtain ⟨v, w, rfl, h1, h2⟩ := frzs_two h
    cases h1; cases h2; cases e
    exact ⟨_, _, rfl, ok_flat k ⟨rfl, rfl⟩⟩
  · cases e
theorem frzs_bools {F : FS} {H : Hp} : ∀ {ds : List D} {vs : List V} {bs : List Bool}, bools ds = some bs → Frzs K F H ds vs → vs = bs.map V.bl
  | [], vs, bs, e, h => by
    cases e
    exact h
  | d :: ds, vs, bs, e, h => by
    obtain ⟨v, ws, rfl, h1, h2⟩ := h
    unfold bools at e
    split at e
    · rename_i q
      cases q
    · rename_i b xs q
      cases q
      split at e
      · rename_i cs q2
        cases e
        cases h1
        rw [frzs_bools q2 h2]
        rfl
      · cases e
    · cases e
theorem frzs_texts {F : FS} {H : Hp} : ∀ {ds : List D} {vs : List V} {bs : List Str}, texts ds = some bs → Frzs K F H ds vs → vs = bs.map V.str
  | [], vs, bs, e, h => by
    cases e
    exact h
  | d :: ds, vs, bs, e, h => by
    obtain ⟨v, ws, rfl, h1, h2⟩ := h
    unfold texts at e
    split at e
    · rename_i q
      cases q
    · rename_i b xs q
      cases q
      split at e
      · rename_i cs q2
        cases e
        cases h1
        rw [frzs_texts q2 h2]
        rfl
      · cases e
    · cases e
theorem ck_all : ClOk K (rAll K) (bltD .all) := by
  intro F H vs ds d Q hv tr h e k
  change allD ds = some d at e
  unfold allD at e
  split at e
  · rename_i xs
    obtain ⟨v, rfl, h1⟩ := frzs_one h
    obtain ⟨a, ws, rfl, h2, h3⟩ := frz_lst h1
    cases q : bools xs with
    | none => rw [q] at e; cases e
    | some bs =>
      rw [q] at e
      cases e
      have z := frzs_bools q h3
      subst z
      exact ⟨a, bs, rfl, .inl h2, ok_flat k ⟨rfl, rfl⟩⟩
  · cases e
theorem ck_any : ClOk K (rAny K) (bltD .any) := by
  intro F H vs ds d Q hv tr h e k
  change anyD ds = some d at e
  unfold anyD at e
  split at e
  · rename_i xs
    obtain ⟨v, rfl, h1⟩ := frzs_one h
    obtain ⟨a, ws, rfl, h2, h3⟩ := frz_lst h1
    cases q : bools xs with
    | none => rw [q] at e; cases e
    | some bs =>
      rw [q] at e
      cases e
      have z := frzs_bools q h3
      subst z
      exact ⟨a, bs, rfl, .inl h2, ok_flat k ⟨rfl, rfl⟩⟩
  · cases e
theorem ck_list : ClOk K (fun xs H Q => ∃ p ys, xs = [.ref p] ∧ (SqL K H p ys ∨ SqT K H p ys) ∧ ∀ l, H l = none → Q (.ref l) (upd H l (.lst ys))) (bltD .list) := by
  intro F H vs ds d Q hv tr h e k
  change listD ds = some d at e
  have z : ∃ x xs, ds = [x] ∧ (x = .tup xs ∨ (∃ o, x = .lst o xs) ∨ x = .wls xs) ∧ d = .lst true xs := by
    unfold listD at e
    split at e
    · cases e; exact ⟨_, _, rfl, .inl rfl, rfl⟩
    · cases e; exact ⟨_, _, rfl, .inr (.inl ⟨_, rfl⟩), rfl⟩
    · cases e
  obtain ⟨x, xs, rfl, hx, rfl⟩ := z
  obtain ⟨v, rfl, h1⟩ := frzs_one h
  obtain ⟨a, ws, rfl, h2, h3⟩ := frz_seq hx h1
  refine ⟨a, ws, rfl, h2, fun p hp => ?_⟩
  obtain ⟨n1, n2, n3⟩ := new_lst tr hp h3
  exact k _ _ _ _ n1 n2 n3
theorem ck_tuple : ClOk K (fun xs H Q => ∃ p ys, xs = [.ref p] ∧ ((SqL K H p ys ∧ ∀ l, H l = none → Q (.ref l) (upd H l (.tup ys))) ∨ (SqT K H p ys ∧ Q (.ref p) H))) (bltD .tuple) := by
  intro F H vs ds d Q hv tr h e k
  change tupleD ds = some d at e
  unfold tupleD at e
  split at e
  · cases e
    obtain ⟨v, rfl, h1⟩ := frzs_one h
    obtain ⟨a, ws, rfl, h2, h3⟩ := frz_tup h1
    exact ⟨a, ws, rfl, .inr ⟨h2, ok_flat k ⟨h1, rfl⟩⟩⟩
  · cases e
    obtain ⟨v, rfl, h1⟩ := frzs_one h
    obtain ⟨a, ws, rfl, h2, h3⟩ := frz_lst h1
    refine ⟨a, ws, rfl, .inl ⟨.inl h2, fun p hp => ?_⟩⟩
    obtain ⟨n1, n2⟩ := new_tup tr hp h3
    exact k _ _ _ [] n1 n2 fun _ z => nomatch z
  · cases e
/-! isinstance -/
def rIsiAll (K : PySem.W.Frag) : List V → Hp → VK → Prop := fun xs H Q => rIsi K xs H Q ∨ ∃ a o kvs T b, xs = [.ref a, .ty T] ∧ H a = some (.frz o (.dT kvs)) ∧ PySem.W.kitOne K (.type "dict") (.type T) = some b ∧ Q (.bl b) H
theorem cl_isiT {X : Cx} : CallR X (.builtin "isinstance") (fun xs H Q => ∃ a o kvs T b, xs = [.ref a, .ty T] ∧ H a = some (.frz o (.dT kvs)) ∧ PySem.W.kitOne X.K (.type "dict") (.type T) = some b ∧ Q (.bl b) H) := by
  intro pins s σ H xs us Q I r h
  obtain ⟨a, o, kvs, T, b, rfl, ha, e, q⟩ := h
  obtain ⟨u1, u2, rfl, r1, r2⟩ := vals2 r
  cases r1; cases r2
  obtain ⟨_, _, xs, _, ob, es, ep, h1, h2, _⟩ := dt_rd I.hok (.inr ⟨o, ha⟩)
  exact PySem.W.kia_one PySem.W.kitx_dict I.kIn ⟨ob, h1, h2.1⟩ e (fun z => nomatch z) fun tk => ⟨.bl b, H, I.tok tk, rfl, q⟩
theorem cl_isiAll {X : Cx} : CallR X (.builtin "isinstance") (rIsiAll X.K) := call_isi.or cl_isiT
theorem kit_tys {a n : String} {b : Bool} (ha : a = "NoneType" ∨ a = "bool" ∨ a = "int" ∨ a = "str" ∨ a = "tuple" ∨ a = "list" ∨ a = "dict") (h : isiTy a n = some b) : PySem.W.kitOne K (.type a) (.type n) = some b := by
  have hn : n = "int" ∨ n = "bool" ∨ n = "str" ∨ n = "tuple" ∨ n = "list" ∨ n = "dict" := by
    unfold isiTy at h
    split at h
    · exact .inl (by assumption)
    · split at h
      · exact .inr (by assumption)
      · cases h
  refine kit_ty ?_
  rcases hn with rfl | rfl | rfl | rfl | rfl | rfl <;> rcases ha with rfl | rfl | rfl | rfl | rfl | rfl | rfl <;> cases h <;> decide +kernel
theorem ck_isi : ClOk K (rIsiAll K) (bltD .isi) := by
  intro F H vs ds d Q hv tr h e k
  change isiLD ds = some d at e
  unfold isiLD at e
  split at e
  · rename_i x n
    obtain ⟨v, w, rfl, h1, h2⟩ := frzs_two h
    cases h2
    cases q : isiD x n with
    | none => rw [q] at e; cases e
    | some b =>
      rw [q] at e
      cases e
      have fin : ∀ {b' : Bool}, b' = b → Q (.bl b') H := fun z => by
        subst z
        exact ok_flat k ⟨rfl, rfl⟩
      have go : ∀ {t : String}, TyX K H v (.type t) → PySem.W.kitOne K (.type t) (.type n) = some b → rIsiAll K [v, .ty n] H Q := fun ty z => .inl ⟨v, .ty n, _, _, b, rfl, .ty n, ty, z, fin rfl⟩
      cases x with
      | non => cases h1; exact go (.base .non) (kit_tys (by simp) q)
      | bl b => cases h1; exact go (.base (.bl b)) (kit_tys (by simp) q)
      | int i => cases h1; exact go (.base (.int i)) (kit_tys (by simp) q)
      | str s => cases h1; exact go (.base (.str s)) (kit_tys (by simp) q)
      | ty n => cases q
      | tup xs =>
        obtain ⟨a, vs, rfl, h3, h4⟩ := h1
        rcases h3 with h3 | ⟨o, its, m, e1, e2, _⟩
        · exact go (.base (.tup h3.2)) (kit_tys (by simp) q)
        · exact go (.kTuple e1 e2) (kit_tys (by simp) q)
      | lst o xs =>
        obtain ⟨a, vs, rfl, h3, h4⟩ := h1
        rcases h3.2 with h3 | ⟨o, h3⟩
        · exact go (.base (.lst h3)) (kit_tys (by simp) q)
        · exact go (.base (.frz h3)) (kit_tys (by simp) q)
      | wls xs =>
        obtain ⟨a, vs, rfl, h3, h4⟩ := h1
        rcases h3 with h3 | ⟨o, its, m, e1, e2, _⟩
        · rcases h3.2 with h3 | ⟨o, h3⟩
          · exact go (.base (.lst h3)) (kit_tys (by simp) q)
          · exact go (.base (.frz h3)) (kit_tys (by simp) q)
        · exact go (.kList e1 e2) (kit_tys (by simp) q)
      | dct o kvs =>
        obtain ⟨a, rfl, h3, h4⟩ := h1
        rcases h4 with ⟨ws, h4, _⟩ | ⟨ws, h4, _⟩
        · rcases h4 with h4 | ⟨o, h4⟩
          · exact go (.base (.dK h4)) (kit_tys (by simp) q)
          · exact go (.fDict h4) (kit_tys (by simp) q)
        · rcases h4 with h4 | ⟨o, h4⟩
          · exact go (.base (.dT h4)) (kit_tys (by simp) q)
          · exact .inr ⟨a, o, ws, n, b, rfl, h4, kit_tys (by simp) q, fin rfl⟩
      | ins o c fs => cases q
  · cases e
/-! ### which built-in for which -/
def blName : Bl → Str
  | .len => "len"
  | .abs => "abs"
  | .int => "int"
  | .max2 => "max"
  | .min2 => "min"
  | .all => "all"
  | .any => "any"
  | .isi => "isinstance"
  | .list => "list"
  | .tuple => "tuple"
def blVal : Bl → Value
  | .len => .builtin "len"
  | .abs => .builtin "abs"
  | .int => .type "int"
  | .max2 => .builtin "max"
  | .min2 => .builtin "min"
  | .all => .builtin "all"
  | .any => .builtin "any"
  | .isi => .builtin "isinstance"
  | .list => .type "list"
  | .tuple => .type "tuple"
theorem bl_boot (b : Bl) : bootBuiltins (blName b) = some (blVal b) := by
  cases b <;> decide +kernel
theorem bl_rule {X : Cx} (hc : X.calm = true) (b : Bl) : ∃ rr, CallR X (blVal b) rr ∧ ClOk X.K rr (bltD b) := by
  cases b
  · exact ⟨_, cl_len, ck_len⟩
  · exact ⟨_, call_abs, ck_abs⟩
  · exact ⟨_, call_int1, ck_int⟩
  · exact ⟨_, call_max2 hc, ck_max2⟩
  · exact ⟨_, call_min2 hc, ck_min2⟩
  · exact ⟨_, cr_all hc, ck_all⟩
  · exact ⟨_, cr_any hc, ck_any⟩
  · exact ⟨_, cl_isiAll, ck_isi⟩
  · exact ⟨_, call_list_of, ck_list⟩
  · exact ⟨_, call_tuple_of, ck_tuple⟩
end
end Y
set_option Elab.async false
set_option linter.all false
set_option maxRecDepth 100000
set_option maxHeartbeats 4000000
/-! Y5: expressions. -/
namespace Y
open PySem PySem.Spec L2
open PyProof.Rows hiding St
section
variable {K : PySem.W.Frag} {ec : Ec} {W : WX} {σ : St} {H : Hp}
/-- the reading of a part, from the whole's -/
theorem tR_of {f : Rho → Res D} {Q : VK} {F : FS} {fp : Nat → List Addr} {r : Rho} (R : Rel K F fp H σ r) (ns : f r ≠ .stuck)
    (ok : ∀ d r1, f r = .ok d r1 → ∀ F1 fp1 H1 v, HV H1 → Step fp F H fp1 F1 H1 → Rel K F1 fp1 H1 σ r1 → Frz K F1 H1 d.fz v → Q v H1)
    (ex : ∀ x r1, f r = .exc x r1 → ∀ F1 fp1 H1 c dx, Step fp F H fp1 F1 H1 → Rel K F1 fp1 H1 σ r1 → ExcAt K ec.cls ec.nms F1 H1 x c dx → W c dx σ H1) : tR K ec W f σ H Q := by
  intro hv
  refine ⟨F, fp, r, R, ?_⟩
  cases e : f r with
  | ok d r1 => exact fun F1 fp1 H1 v hv1 s1 R1 z => ok d r1 e F1 fp1 H1 v hv1 s1 R1 z
  | exc x r1 => exact fun F1 fp1 H1 c dx s1 R1 z => ex x r1 e F1 fp1 H1 c dx s1 R1 z
  | stuck => exact ns e
theorem tB_of {f : Rho → Res Bool} {Q : Bool → Hp → Prop} {F : FS} {fp : Nat → List Addr} {r : Rho} (R : Rel K F fp H σ r) (ns : f r ≠ .stuck)
    (ok : ∀ d r1, f r = .ok d r1 → ∀ F1 fp1 H1, HV H1 → Step fp F H fp1 F1 H1 → Rel K F1 fp1 H1 σ r1 → Q d H1)
    (ex : ∀ x r1, f r = .exc x r1 → ∀ F1 fp1 H1 c dx, Step fp F H fp1 F1 H1 → Rel K F1 fp1 H1 σ r1 → ExcAt K ec.cls ec.nms F1 H1 x c dx → W c dx σ H1) : tB K ec W f σ H Q := by
  intro hv
  refine ⟨F, fp, r, R, ?_⟩
  cases e : f r with
  | ok d r1 => exact fun F1 fp1 H1 hv1 s1 R1 => ok d r1 e F1 fp1 H1 hv1 s1 R1
  | exc x r1 => exact fun F1 fp1 H1 c dx s1 R1 z => ex x r1 e F1 fp1 H1 c dx s1 R1 z
  | stuck => exact ns e
theorem tO_of {f : Rho → Res D} {Q : VK} {F : FS} {fp : Nat → List Addr} {r : Rho} (R : Rel K F fp H σ r) (ns : f r ≠ .stuck)
    (ok : ∀ d r1, f r = .ok d r1 → ∀ F1 fp1 H1 v q, HV H1 → Got K F fp H σ F1 fp1 H1 r1 d v q → Q v H1)
    (ex : ∀ x r1, f r = .exc x r1 → ∀ F1 fp1 H1 c dx, Step fp F H fp1 F1 H1 → Rel K F1 fp1 H1 σ r1 → ExcAt K ec.cls ec.nms F1 H1 x c dx → W c dx σ H1) : tO K ec W f σ H Q := by
  intro hv
  refine ⟨F, fp, r, R, ?_⟩
  cases e : f r with
  | ok d r1 => exact fun F1 fp1 H1 v q hv1 g => ok d r1 e F1 fp1 H1 v q hv1 g
  | exc x r1 => exact fun F1 fp1 H1 c dx s1 R1 z => ex x r1 e F1 fp1 H1 c dx s1 R1 z
  | stuck => exact ns e
theorem tL_of {f : Rho → Res (List D)} {Q : List V → Hp → Prop} {F : FS} {fp : Nat → List Addr} {r : Rho} (R : Rel K F fp H σ r) (ns : f r ≠ .stuck)
    (ok : ∀ d r1, f r = .ok d r1 → ∀ F1 fp1 H1 v, HV H1 → Step fp F H fp1 F1 H1 → Rel K F1 fp1 H1 σ r1 → Frzs K F1 H1 d v → Q v H1)
    (ex : ∀ x r1, f r = .exc x r1 → ∀ F1 fp1 H1 c dx, Step fp F H fp1 F1 H1 → Rel K F1 fp1 H1 σ r1 → ExcAt K ec.cls ec.nms F1 H1 x c dx → W c dx σ H1) : tL K ec W f σ H Q := by
  intro hv
  refine ⟨F, fp, r, R, ?_⟩
  cases e : f r with
  | ok d r1 => exact fun F1 fp1 H1 v hv1 s1 R1 z => ok d r1 e F1 fp1 H1 v hv1 s1 R1 z
  | exc x r1 => exact fun F1 fp1 H1 c dx s1 R1 z => ex x r1 e F1 fp1 H1 c dx s1 R1 z
  | stuck => exact ns e
/-- what is wanted of an error -/
def WExc (K : PySem.W.Frag) (ec : Ec) (W : WX) (σ : St) (F : FS) (fp : Nat → List Addr) (H : Hp) (x : Exc) (r : Rho) : Prop :=
  ∀ F' fp' H' c dx, Step fp F H fp' F' H' → Rel K F' fp' H' σ r → ExcAt K ec.cls ec.nms F' H' x c dx → W c dx σ H'
/-- what the whole's reading says of its end, whatever it is -/
structure IsEnd (K : PySem.W.Frag) (ec : Ec) (W : WX) (σ : St) {M : Type} (me : Exc → Rho → M) (ms : M) (E : FS → (Nat → List Addr) → Hp → M → Prop) : Prop where
  stuck : ∀ F fp H, ¬ E F fp H ms
  exc : ∀ F fp H x r, E F fp H (me x r) → WExc K ec W σ F fp H x r
  later : ∀ F fp H F1 fp1 H1 m, Step fp F H fp1 F1 H1 → E F fp H m → E F1 fp1 H1 m
section
variable {M : Type} {me : Exc → Rho → M} {ms : M} {E : FS → (Nat → List Addr) → Hp → M → Prop} {F : FS} {fp : Nat → List Addr} {r : Rho}
/-- a part comes first -/
theorem bndR (I : IsEnd K ec W σ me ms E) {f : Rho → Res D} {k : D → Rho → M} {Q : VK} (R : Rel K F fp H σ r) (h : E F fp H ((f r).el k me ms))
    (ok : ∀ d r1 F1 fp1 H1 v, HV H1 → Step fp F H fp1 F1 H1 → Rel K F1 fp1 H1 σ r1 → Frz K F1 H1 d.fz v → E F1 fp1 H1 (k d r1) → Q v H1) : tR K ec W f σ H Q := by
  refine tR_of R (fun e => ?_) (fun d r1 e F1 fp1 H1 v hv1 s1 R1 z => ?_) fun x r1 e => ?_
  · rw [e] at h; exact I.stuck _ _ _ h
  · rw [e] at h
    exact ok d r1 F1 fp1 H1 v hv1 s1 R1 z (I.later _ _ _ _ _ _ _ s1 h)
  · rw [e] at h; exact I.exc _ _ _ _ _ h
theorem bndO (I : IsEnd K ec W σ me ms E) {f : Rho → Res D} {k : D → Rho → M} {Q : VK} (R : Rel K F fp H σ r) (h : E F fp H ((f r).el k me ms))
    (ok : ∀ d r1 F1 fp1 H1 v q, HV H1 → Got K F fp H σ F1 fp1 H1 r1 d v q → E F fp H (k d r1) → Q v H1) : tO K ec W f σ H Q := by
  refine tO_of R (fun e => ?_) (fun d r1 e F1 fp1 H1 v q hv1 g => ?_) fun x r1 e => ?_
  · rw [e] at h; exact I.stuck _ _ _ h
  · rw [e] at h
    exact ok d r1 F1 fp1 H1 v q hv1 g h
  · rw [e] at h; exact I.exc _ _ _ _ _ h
theorem bndL (I : IsEnd K ec W σ me ms E) {f : Rho → Res (List D)} {k : List D → Rho → M} {Q : List V → Hp → Prop} (R : Rel K F fp H σ r) (h : E F fp H ((f r).el k me ms))
    (ok : ∀ d r1 F1 fp1 H1 v, HV H1 → Step fp F H fp1 F1 H1 → Rel K F1 fp1 H1 σ r1 → Frzs K F1 H1 d v → E F1 fp1 H1 (k d r1) → Q v H1) : tL K ec W f σ H Q := by
  refine tL_of R (fun e => ?_) (fun d r1 e F1 fp1 H1 v hv1 s1 R1 z => ?_) fun x r1 e => ?_
  · rw [e] at h; exact I.stuck _ _ _ h
  · rw [e] at h
    exact ok d r1 F1 fp1 H1 v hv1 s1 R1 z (I.later _ _ _ _ _ _ _ s1 h)
  · rw [e] at h; exact I.exc _ _ _ _ _ h
theorem bndB (I : IsEnd K ec W σ me ms E) {f : Rho → Res Bool} {k : Bool → Rho → M} {Q : Bool → Hp → Prop} (R : Rel K F fp H σ r) (h : E F fp H ((f r).el k me ms))
    (ok : ∀ d r1 F1 fp1 H1, HV H1 → Step fp F H fp1 F1 H1 → Rel K F1 fp1 H1 σ r1 → E F1 fp1 H1 (k d r1) → Q d H1) : tB K ec W f σ H Q := by
  refine tB_of R (fun e => ?_) (fun d r1 e F1 fp1 H1 hv1 s1 R1 => ?_) fun x r1 e => ?_
  · rw [e] at h; exact I.stuck _ _ _ h
  · rw [e] at h
    exact ok d r1 F1 fp1 H1 hv1 s1 R1 (I.later _ _ _ _ _ _ _ s1 h)
  · rw [e] at h; exact I.exc _ _ _ _ _ h
end
/-- a value -/
def EndO (K : PySem.W.Frag) (ec : Ec) (W : WX) (σ : St) (Q : VK) (F : FS) (fp : Nat → List Addr) (H : Hp) (m : Res D) : Prop := match m with
  | .ok d r' => ∀ F' fp' H' v q, HV H' → Got K F fp H σ F' fp' H' r' d v q → Q v H'
  | .exc x r' => WExc K ec W σ F fp H x r'
  | .stuck => False
/-- a test -/
def EndB (K : PySem.W.Frag) (ec : Ec) (W : WX) (σ : St) (Q : Bool → Hp → Prop) (F : FS) (fp : Nat → List Addr) (H : Hp) (m : Res Bool) : Prop := match m with
  | .ok b r' => ∀ F' fp' H', HV H' → Step fp F H fp' F' H' → Rel K F' fp' H' σ r' → Q b H'
  | .exc x r' => WExc K ec W σ F fp H x r'
  | .stuck => False
/-- several -/
def EndL (K : PySem.W.Frag) (ec : Ec) (W : WX) (σ : St) (Q : List V → Hp → Prop) (F : FS) (fp : Nat → List Addr) (H : Hp) (m : Res (List D)) : Prop := match m with
  | .ok ds r' => ∀ F' fp' H' vs, HV H' → Step fp F H fp' F' H' → Rel K F' fp' H' σ r' → Frzs K F' H' ds vs → Q vs H'
  | .exc x r' => WExc K ec W σ F fp H x r'
  | .stuck => False
theorem WExc.later {F F1 : FS} {fp fp1 : Nat → List Addr} {H1 : Hp} {x : Exc} {r : Rho} (s : Step fp F H fp1 F1 H1) (h : WExc K ec W σ F fp H x r) : WExc K ec W σ F1 fp1 H1 x r :=
  fun F' fp' H' c dx s' R' z => h F' fp' H' c dx (s.trans s') R' z
/-- free or owned before, from free behind -/
theorem Step.free {F F1 : FS} {fp fp1 : Nat → List Addr} {H1 : Hp} (s : Step fp F H fp1 F1 H1) {a : Addr} (h : H1 a = none ∨ ∃ i, a ∈ fp1 i) : H a = none ∨ ∃ i, a ∈ fp i := by
  rcases h with e | ⟨i, h⟩
  · cases q2 : H a with
    | none => exact .inl rfl
    | some u =>
      by_cases z : ∃ i, a ∈ fp i
      · exact .inr z
      · have := s.keep a u q2 fun i hi => z ⟨i, hi⟩
        rw [e] at this; cases this
  · exact s.own i a h
theorem Got.later {F F1 F' : FS} {fp fp1 fp' : Nat → List Addr} {H1 H' : Hp} {r' : Rho} {d : D} {v : V} {q : List Addr} (s : Step fp F H fp1 F1 H1) (g : Got K F1 fp1 H1 σ F' fp' H' r' d v q) : Got K F fp H σ F' fp' H' r' d v q :=
  ⟨s.trans g.st, g.rel, g.own, g.qF, g.qfp, fun a z => s.free (g.qnew a z)⟩
theorem isO {Q : VK} : IsEnd K ec W σ Res.exc Res.stuck (EndO K ec W σ Q) where
  stuck := fun _ _ _ h => h
  exc := fun _ _ _ _ _ h => h
  later := fun F fp H F1 fp1 H1 m s h => by
    cases m with
    | ok d r' => exact fun F' fp' H' v q hv g => h F' fp' H' v q hv (g.later s)
    | exc x r' => exact WExc.later s h
    | stuck => exact h
theorem isB {Q : Bool → Hp → Prop} : IsEnd K ec W σ Res.exc Res.stuck (EndB K ec W σ Q) where
  stuck := fun _ _ _ h => h
  exc := fun _ _ _ _ _ h => h
  later := fun F fp H F1 fp1 H1 m s h => by
    cases m with
    | ok d r' => exact fun F' fp' H' hv s' R' => h F' fp' H' hv (s.trans s') R'
    | exc x r' => exact WExc.later s h
    | stuck => exact h
theorem isL {Q : List V → Hp → Prop} : IsEnd K ec W σ Res.exc Res.stuck (EndL K ec W σ Q) where
  stuck := fun _ _ _ h => h
  exc := fun _ _ _ _ _ h => h
  later := fun F fp H F1 fp1 H1 m s h => by
    cases m with
    | ok d r' => exact fun F' fp' H' v hv s' R' z => h F' fp' H' v hv (s.trans s') R' z
    | exc x r' => exact WExc.later s h
    | stuck => exact h
/-- a flat end -/
theorem EndO.flat {Q : VK} {F : FS} {fp : Nat → List Addr} {r : Rho} {d : D} {v : V} (h : EndO K ec W σ Q F fp H (.ok d r)) (hv : HV H) (R : Rel K F fp H σ r) (e : d.fz = d) (z : Frz K F H d v) : Q v H := by
  have g := Got.flat (d := d) (v := v) (Step.refl (fp := fp) (F := F) (H := H)) R (by rw [e]; exact z)
  rw [e] at g
  exact h F fp H v [] hv g
/-- an end with new things -/
theorem EndO.new {Q : VK} {F F' : FS} {fp : Nat → List Addr} {H' : Hp} {r : Rho} {d : D} {v : V} {q : List Addr} (h : EndO K ec W σ Q F fp H (.ok d r)) (hv : HV H') (R : Rel K F fp H σ r) (n : Newer F H F' H') (o : Own K F' H' d v q) (hq : ∀ a, a ∈ q → ¬ F' a ∧ H a = none) : Q v H' :=
  h F' fp H' v q hv (Got.newer Step.refl R n o hq)
/-- by an operator -/
theorem EndO.op {Q : VK} {F : FS} {fp : Nat → List Addr} {r : Rho} {dx dy : D} {x y : V} {rr : R2} {g : D → D → Option D} (hg : OpOk K rr g) (hv : HV H) (R : Rel K F fp H σ r) (hx : Frz K F H dx x) (hy : Frz K F H dy y)
    (h : EndO K ec W σ Q F fp H (.of (g dx dy) r)) : rr x y H fun v H' => HV H' → Q v H' := by
  cases e : g dx dy with
  | none => rw [e] at h; exact h.elim
  | some d =>
    rw [e] at h
    exact hg F H x y dx dy d _ hv R.trF hx hy e fun F' H' v q n o hq hv' => EndO.new h hv' R n o hq
theorem EndO.cl {Q : VK} {F : FS} {fp : Nat → List Addr} {r : Rho} {ds : List D} {vs : List V} {rr : List V → Hp → VK → Prop} {g : List D → Option D} (hg : ClOk K rr g) (hv : HV H) (R : Rel K F fp H σ r) (hx : Frzs K F H ds vs)
    (h : EndO K ec W σ Q F fp H (.of (g ds) r)) : rr vs H fun v H' => HV H' → Q v H' := by
  cases e : g ds with
  | none => rw [e] at h; exact h.elim
  | some d =>
    rw [e] at h
    exact hg F H vs ds d _ hv R.trF hx e fun F' H' v q n o hq hv' => EndO.new h hv' R n o hq
/-- a test by an operator -/
theorem EndB.op {M : Type} {me : Exc → Rho → M} {ms : M} {E : FS → (Nat → List Addr) → Hp → M → Prop} (I : IsEnd K ec W σ me ms E) {Q : V → Hp → Prop} {F : FS} {fp : Nat → List Addr} {r : Rho} {dx dy : D} {x y : V} {rr : R2} {g : D → D → Option D} {k : Bool → Rho → M} (hg : OpOk K rr g) (hv : HV H) (R : Rel K F fp H σ r) (hx : Frz K F H dx x) (hy : Frz K F H dy y)
    (h : E F fp H ((asB (.of (g dx dy) r)).el k me ms)) (ok : ∀ b F1 H1, Step fp F H fp F1 H1 → Rel K F1 fp H1 σ r → E F1 fp H1 (k b r) → Q (.bl b) H1) : rr x y H Q := by
  cases e : g dx dy with
  | none => rw [e] at h; exact (I.stuck _ _ _ h).elim
  | some d =>
    rw [e] at h
    refine hg F H x y dx dy d _ hv R.trF hx hy e fun F' H' v q n o hq => ?_
    cases d with
    | bl b =>
      obtain ⟨z, _⟩ := o
      cases z
      exact ok b F' H' n.step (R.newer n) (I.later _ _ _ _ _ _ _ n.step h)
    | _ => exact (I.stuck _ _ _ h).elim
end
section
variable {X : Cx} {ec : Ec} {W : WX} {C : Env}
abbrev PEo (X : Cx) (ec : Ec) (W : WX) (C : Env) (e : Expr) (i : Ex) : Prop := PE X e (tO X.K ec W (evO C i))
abbrev PAl (X : Cx) (ec : Ec) (W : WX) (C : Env) (es : List Expr) (is : List Ex) : Prop := PA X es (tL X.K ec W (evL C is))
abbrev PTb (X : Cx) (ec : Ec) (W : WX) (C : Env) (e : Expr) (i : Ex) : Prop := PT X e (tB X.K ec W (fun r => asB (evO C i r)))
/-- the shape of a rule's proof: the whole's reading, opened -/
theorem tO_open {K : PySem.W.Frag} {f : Rho → Res D} {σ : St} {H : Hp} {Q : VK} (hv : HV H) (h : tO K ec W f σ H Q) : ∃ F fp r, Rel K F fp H σ r ∧ EndO K ec W σ Q F fp H (f r) := h hv
theorem de_var {i : Nat} {x : Str} {pos : Pos} (hN : X.N[i]? = some x) (hv : Vis X.env.scope x) (hd : (x == ("__debug__" : Str)) = false) (hcd : (x == ("__classdict__" : Str)) = false) : PEo X ec W C (.Name x pos) (.var i) :=
  pe_mono (pe_var hN hv hd hcd) fun σ H Q hv' h => by
    obtain ⟨F, fp, r, R, z⟩ := tO_open hv' h
    simp only [evO] at z
    cases e : getS r i with
    | none => rw [e] at z; exact z.elim
    | some d =>
      rw [e] at z
      have e1 : r[i]? = some (some d) := by
        unfold getS at e
        split at e
        · cases e; assumption
        · cases e
      obtain ⟨v, h1, g⟩ := R.freeze e1
      exact ⟨v, h1, fun hv2 => z _ _ _ v [] hv2 g⟩
/-- a constant -/
def cD : Const → Option D
  | .none => some .non
  | .bool b => some (.bl b)
  | .int i => some (.int i)
  | .str s => some (.str s)
  | _ => none
theorem de_cst {c : Const} {d : D} {k : Nat} {pos : Pos} (h : cD c = some d) : PEo X ec W C (.Constant c k pos) (.cst d) := by
  have go : ∀ {v : V}, PE X (.Constant c k pos) (tC v) → d.fz = d → (∀ F H, Frz X.K F H d v) → PEo X ec W C (.Constant c k pos) (.cst d) := fun {v} p e f => pe_mono p fun σ H Q hv z => by
    obtain ⟨F, fp, r, R, y⟩ := tO_open hv z
    exact fun hv2 => EndO.flat (d := d) y hv2 R e (f F H)
  cases c <;> cases h
  · exact go pe_non rfl fun _ _ => rfl
  · exact go pe_bl rfl fun _ _ => rfl
  · exact go pe_int rfl fun _ _ => rfl
  · exact go pe_str rfl fun _ _ => rfl
theorem de_glb {x : Str} {d : D} {v : V} {u : Value} {pos : Pos} (hg : Gl X x) (hm : X.mg x = some u) (r : RelV v u) (e : d.fz = d) (f : ∀ F H, Frz X.K F H d v) (hd : (x == ("__debug__" : Str)) = false) : PEo X ec W C (.Name x pos) (.glb x d) :=
  pe_mono (pe_glob hg hm r hd) fun σ H Q hv z => by
    obtain ⟨F, fp, r, R, y⟩ := tO_open hv z
    exact fun hv2 => EndO.flat (d := d) y hv2 R e (f F H)
theorem de_glbT {x : Str} {n : String} {pos : Pos} (hg : Gl X x) (hm : X.mg x = none) (hb : bootBuiltins x = some (.type n)) (hn : x ≠ "__name__") (hd : (x == ("__debug__" : Str)) = false) : PEo X ec W C (.Name x pos) (.glb x (.ty n)) :=
  pe_mono (pe_bltn (v := .ty n) hg hm hb rfl hn hd) fun σ H Q hv z => by
    obtain ⟨F, fp, r, R, y⟩ := tO_open hv z
    exact fun hv2 => EndO.flat (d := .ty n) y hv2 R rfl rfl
theorem de_nil : PAl X ec W C [] [] := pa_mono pa_nil fun σ H Q hv h => by
  obtain ⟨F, fp, r, R, z⟩ := h hv
  exact fun hv2 => z F fp H [] hv2 .refl R rfl
theorem tL_open {K : PySem.W.Frag} {f : Rho → Res (List D)} {σ : St} {H : Hp} {Q : List V → Hp → Prop} (hv : HV H) (h : tL K ec W f σ H Q) : ∃ F fp r, Rel K F fp H σ r ∧ EndL K ec W σ Q F fp H (f r) := h hv
theorem tB_open {K : PySem.W.Frag} {f : Rho → Res Bool} {σ : St} {H : Hp} {Q : Bool → Hp → Prop} (hv : HV H) (h : tB K ec W f σ H Q) : ∃ F fp r, Rel K F fp H σ r ∧ EndB K ec W σ Q F fp H (f r) := h hv
theorem de_cons {e : Expr} {es : List Expr} {i : Ex} {is : List Ex} (h : PEo X ec W C e i) (hs : PAl X ec W C es is) (hst : starEach (e :: es) X.env = (false, eval e X.env) :: starEach es X.env) : PAl X ec W C (e :: es) (i :: is) :=
  pa_mono (pa_cons (pe_share h) hs hst) fun σ H Q hv z => by
    obtain ⟨F, fp, r, R, y⟩ := tL_open hv z
    simp only [evL] at y
    refine bndR isL R y fun d r1 F1 fp1 H1 v hv1 s1 R1 zf y => ?_
    refine bndL isL R1 y fun ds r2 F2 fp2 H2 vs hv2 s2 R2 zs y => ?_
    exact fun hv3 => y F2 fp2 H2 (v :: vs) hv3 .refl R2 ⟨v, vs, rfl, s2.frz R1 zf, zs⟩
theorem de_tup {es : List Expr} {is : List Ex} {k : Nat} {pos : Pos} (h : PAl X ec W C es is) : PEo X ec W C (.Tuple es k pos) (.tup is) :=
  pe_mono (pe_tup h) fun σ H Q hv z => by
    obtain ⟨F, fp, r, R, y⟩ := tO_open hv z
    simp only [evO] at y
    refine bndL isO R y fun d r1 F1 fp1 H1 vs hv1 s1 R1 zf y => ?_
    split at y
    · rename_i hl
      refine ⟨by rw [← zf.len]; exact hl, fun p hp hv2 => ?_⟩
      obtain ⟨n1, n2⟩ := new_tup R1.trF hp zf
      exact EndO.new y hv2 R1 n1 n2 fun _ z => nomatch z
    · exact y.elim
theorem de_lst {es : List Expr} {is : List Ex} {pos : Pos} (h : PAl X ec W C es is) : PEo X ec W C (.List es pos) (.lst is) :=
  pe_mono (pe_lst h) fun σ H Q hv z => by
    obtain ⟨F, fp, r, R, y⟩ := tO_open hv z
    simp only [evO] at y
    refine bndL isO R y fun d r1 F1 fp1 H1 vs hv1 s1 R1 zf y => ?_
    split at y
    · rename_i hl
      refine ⟨by rw [← zf.len]; exact hl, fun p hp hv2 => ?_⟩
      obtain ⟨n1, n2, n3⟩ := new_lst R1.trF hp zf
      exact EndO.new y hv2 R1 n1 n2 n3
    · exact y.elim
theorem de_bin {o : Op} {a b : Expr} {i j : Ex} {pos : Pos} (ha : PEo X ec W C a i) (hb : PEo X ec W C b j) : PEo X ec W C (.BinOp a (opOf o) b pos) (.bin o i j) := by
  obtain ⟨rr, h1, h2⟩ := op_rule X o
  refine pe_mono (pe_op h1 (pe_share ha) (pe_share hb)) fun σ H Q hv z => ?_
  obtain ⟨F, fp, r, R, y⟩ := tO_open hv z
  simp only [evO] at y
  refine bndR isO R y fun dx r1 F1 fp1 H1 x hv1 s1 R1 zx y => ?_
  refine bndR isO R1 y fun dy r2 F2 fp2 H2 w hv2 s2 R2 zw y => ?_
  exact EndO.op h2 hv2 R2 (s2.frz R1 zx) zw y
theorem de_cmp {o : Cm} {a b : Expr} {i j : Ex} {pos : Pos} (hu : X.A.units + 65 < cLine) (ha : PEo X ec W C a i) (hb : PEo X ec W C b j) (hm : behindInMarks (cmOf o) b = false) : PEo X ec W C (.Compare a [cmOf o] [b] pos) (.cmp o i j) := by
  obtain ⟨rr, h1, h2⟩ := cm_rule hu o
  refine pe_mono (pe_cmpR h1 (pe_share ha) (pe_share hb) hm) fun σ H Q hv z => ?_
  obtain ⟨F, fp, r, R, y⟩ := tO_open hv z
  simp only [evO] at y
  refine bndR isO R y fun dx r1 F1 fp1 H1 x hv1 s1 R1 zx y => ?_
  refine bndR isO R1 y fun dy r2 F2 fp2 H2 w hv2 s2 R2 zw y => ?_
  exact EndO.op h2 hv2 R2 (s2.frz R1 zx) zw y
theorem de_neg {a : Expr} {i : Ex} {pos : Pos} (ha : PEo X ec W C a i) : PEo X ec W C (.UnaryOp .USub a pos) (.neg i) :=
  pe_mono (pe_un un_neg (pe_share ha)) fun σ H Q hv z => by
    obtain ⟨F, fp, r, R, y⟩ := tO_open hv z
    simp only [evO] at y
    refine bndR isO R y fun d r1 F1 fp1 H1 v hv1 s1 R1 zf y => ?_
    cases d with
    | int n =>
      cases zf
      exact ⟨n, rfl, fun hv2 => EndO.flat (d := .int (-n)) y hv2 R1 rfl rfl⟩
    | _ => exact y.elim
theorem el_id {A : Type} (m : Res A) : m.el (fun a r => Res.ok a r) .exc .stuck = m := by cases m <;> rfl
theorem tB_tail {K : PySem.W.Frag} {f : Rho → Res Bool} {σ : St} {H : Hp} {Q : Bool → Hp → Prop} {F : FS} {fp : Nat → List Addr} {r : Rho} (R : Rel K F fp H σ r) (y : EndB K ec W σ Q F fp H (f r)) : tB K ec W f σ H (fun v H' => HV H' → Q v H') :=
  tB_of R (fun e => by rw [e] at y; exact y) (fun d r1 e F1 fp1 H1 hv s1 R1 _ => by rw [e] at y; exact y F1 fp1 H1 hv s1 R1) fun x r1 e => by rw [e] at y; exact y
theorem tO_tail {K : PySem.W.Frag} {f : Rho → Res D} {σ : St} {H : Hp} {Q : VK} {F : FS} {fp : Nat → List Addr} {r : Rho} (R : Rel K F fp H σ r) (y : EndO K ec W σ Q F fp H (f r)) : tO K ec W f σ H (fun v H' => HV H' → Q v H') :=
  tO_of R (fun e => by rw [e] at y; exact y) (fun d r1 e F1 fp1 H1 v q hv g _ => by rw [e] at y; exact y F1 fp1 H1 v q hv g) fun x r1 e => by rw [e] at y; exact y
theorem asB_bind {A : Type} (m : Res A) (k : A → Rho → Res D) : asB (m.bind k) = m.el (fun a r => asB (k a r)) .exc .stuck := by cases m <;> rfl
/-- a test out of a value -/
theorem dt_val {e : Expr} {i : Ex} (h : PEo X ec W C e i) (he : ∀ whole, isTrue e X.env whole = (do let v ← whole; standAt e.pos; holding [v] (truthy v))) : PTb X ec W C e i :=
  pt_mono (pt_val h he) fun σ H Q hv z => by
    obtain ⟨F, fp, r, R, y⟩ := tB_open hv z
    show tO _ _ _ _ σ H _
    refine tO_of R (fun e => ?_) (fun d r1 e F1 fp1 H1 v q hv1 g => ?_) fun x r1 e => ?_
    · rw [e] at y; exact y
    · rw [e] at y
      cases d with
      | bl b =>
        obtain ⟨z, _⟩ := g.own
        cases z
        exact ⟨b, rfl, fun hv2 => y F1 fp1 H1 hv2 g.st g.rel⟩
      | _ => exact y.elim
    · rw [e] at y; exact y
theorem dt_cmp {o : Cm} {a b : Expr} {i j : Ex} {pos : Pos} (hu : X.A.units + 65 < cLine) (ha : PEo X ec W C a i) (hb : PEo X ec W C b j) (hm : behindInMarks (cmOf o) b = false) : PTb X ec W C (.Compare a [cmOf o] [b] pos) (.cmp o i j) := by
  obtain ⟨rr, h1, h2⟩ := cm_rule hu o
  refine pt_mono (pt_cmpR h1 (pe_share ha) (pe_share hb) hm) fun σ H Q hv z => ?_
  obtain ⟨F, fp, r, R, y⟩ := tB_open hv z
  simp only [evO] at y
  rw [asB_bind] at y
  refine bndR isB R y fun dx r1 F1 fp1 H1 x hv1 s1 R1 zx y => ?_
  rw [asB_bind] at y
  refine bndR isB R1 y fun dy r2 F2 fp2 H2 w hv2 s2 R2 zw y => ?_
  rw [← el_id (asB _)] at y
  exact EndB.op isB h2 hv2 R2 (s2.frz R1 zx) zw y fun b F3 H3 s3 R3 y => ⟨b, rfl, fun hv4 => y F3 fp2 H3 hv4 .refl R3⟩
/-- not -/
theorem de_not {a : Expr} {i : Ex} {pos : Pos} (ha : PEo X ec W C a i) : PEo X ec W C (.UnaryOp .Not a pos) (.not i) :=
  pe_mono (pe_not (pe_share ha)) fun σ H Q hv z => by
    obtain ⟨F, fp, r, R, y⟩ := tO_open hv z
    simp only [evO] at y
    show tR _ _ _ _ σ H _
    refine tR_of R (fun e => ?_) (fun d r1 e F1 fp1 H1 v hv1 s1 R1 zf => ?_) fun x r1 e => ?_
    · rw [e] at y; exact y
    · rw [e] at y
      cases d with
      | bl b =>
        cases zf
        exact ⟨b, rfl, fun hv2 => EndO.flat (d := .bl (!b)) (isO.later _ _ _ _ _ _ _ s1 y) hv2 R1 rfl rfl⟩
      | _ => exact y.elim
    · rw [e] at y; exact y
theorem dt_not {a : Expr} {i : Ex} {pos : Pos} (ha : PTb X ec W C a i) : PTb X ec W C (.UnaryOp .Not a pos) (.not i) :=
  pt_mono (pt_not ha) fun σ H Q hv z => by
    obtain ⟨F, fp, r, R, y⟩ := tB_open hv z
    simp only [evO] at y
    rw [asB_bind] at y
    exact bndB isB R y fun b r1 F1 fp1 H1 hv1 s1 R1 y hv2 => y F1 fp1 H1 hv2 .refl R1
/-- a if t else b -/
theorem de_ife {c a b : Expr} {l i j : Ex} {pos : Pos} (hc : PTb X ec W C c l) (ha : PEo X ec W C a i) (hb : PEo X ec W C b j) : PEo X ec W C (.IfExp c a b pos) (.ife l i j) :=
  pe_mono (pe_ifExp hc ha hb) fun σ H Q hv z => by
    obtain ⟨F, fp, r, R, y⟩ := tO_open hv z
    simp only [evO] at y
    refine bndB isO R y fun b r1 F1 fp1 H1 hv1 s1 R1 y => ?_
    cases b with
    | true =>
      rw [if_pos rfl] at y ⊢
      exact tO_tail R1 y
    | false =>
      rw [if_neg (by decide)] at y ⊢
      exact tO_tail R1 y
/-- and, or: as values -/
theorem de_one {op : BoolOp} {a : Expr} {i : Ex} {pos : Pos} (ha : PEo X ec W C a i) : PEo X ec W C (.BoolOp op [a] pos) i := pe_one ha
theorem de_and {a b : Expr} {rest : List Expr} {i j : Ex} {pos : Pos} (ha : PEo X ec W C a i) (hb : PEo X ec W C (.BoolOp .And (b :: rest) pos) j) : PEo X ec W C (.BoolOp .And (a :: b :: rest) pos) (.and i j) :=
  pe_mono (pe_and (pe_share ha) (pe_share hb)) fun σ H Q hv z => by
    obtain ⟨F, fp, r, R, y⟩ := tO_open hv z
    simp only [evO] at y
    show tR _ _ _ _ σ H _
    refine tR_of R (fun e => ?_) (fun d r1 e F1 fp1 H1 v hv1 s1 R1 zf => ?_) fun x r1 e => ?_
    · rw [e] at y; exact y
    · rw [e] at y
      cases d with
      | bl c =>
        cases zf
        refine ⟨c, rfl, ?_⟩
        have y := isO.later _ _ _ _ _ _ _ s1 y
        cases c with
        | true =>
          rw [if_pos rfl]
          refine bndR isO R1 (k := fun y r => Res.ok y.fz r) y fun dy r2 F2 fp2 H2 w hv2 s2 R2 zw y hv3 => ?_
          exact EndO.flat (d := dy.fz) y hv3 R2 (fz_fz dy) zw
        | false =>
          rw [if_neg (by decide)]
          exact fun hv2 => EndO.flat (d := .bl false) y hv2 R1 rfl rfl
      | _ => exact y.elim
    · rw [e] at y; exact y
theorem de_or {a b : Expr} {rest : List Expr} {i j : Ex} {pos : Pos} (ha : PEo X ec W C a i) (hb : PEo X ec W C (.BoolOp .Or (b :: rest) pos) j) : PEo X ec W C (.BoolOp .Or (a :: b :: rest) pos) (.or i j) :=
  pe_mono (pe_or (pe_share ha) (pe_share hb)) fun σ H Q hv z => by
    obtain ⟨F, fp, r, R, y⟩ := tO_open hv z
    simp only [evO] at y
    show tR _ _ _ _ σ H _
    refine tR_of R (fun e => ?_) (fun d r1 e F1 fp1 H1 v hv1 s1 R1 zf => ?_) fun x r1 e => ?_
    · rw [e] at y; exact y
    · rw [e] at y
      cases d with
      | bl c =>
        cases zf
        refine ⟨c, rfl, ?_⟩
        have y := isO.later _ _ _ _ _ _ _ s1 y
        cases c with
        | false =>
          rw [if_neg (by decide)]
          refine bndR isO R1 (k := fun y r => Res.ok y.fz r) y fun dy r2 F2 fp2 H2 w hv2 s2 R2 zw y hv3 => ?_
          exact EndO.flat (d := dy.fz) y hv3 R2 (fz_fz dy) zw
        | true =>
          rw [if_pos rfl]
          exact fun hv2 => EndO.flat (d := .bl true) y hv2 R1 rfl rfl
      | _ => exact y.elim
    · rw [e] at y; exact y
/-- .. as tests -/
abbrev PWb (X : Cx) (ec : Ec) (W : WX) (C : Env) (e : Expr) (i : Ex) : Prop := PW X e (tB X.K ec W (fun r => asB (evO C i r)))
theorem dw_and1 {a : Expr} {i : Ex} {pos : Pos} (ha : PTb X ec W C a i) : PWb X ec W C (.BoolOp .And [a] pos) i := pw_and1 ha
theorem dw_or1 {a : Expr} {i : Ex} {pos : Pos} (ha : PTb X ec W C a i) : PWb X ec W C (.BoolOp .Or [a] pos) i := pw_or1 ha
theorem asB_fz (m : Res D) : asB (m.bind fun y r => .ok y.fz r) = asB m := by
  cases m with
  | ok d r => cases d <;> rfl
  | exc x r => rfl
  | stuck => rfl
theorem dw_and {a b : Expr} {rest : List Expr} {i j : Ex} {pos : Pos} (ha : PTb X ec W C a i) (hb : PWb X ec W C (.BoolOp .And (b :: rest) pos) j) : PWb X ec W C (.BoolOp .And (a :: b :: rest) pos) (.and i j) :=
  pw_mono (pw_and ha hb) fun σ H Q hv z => by
    obtain ⟨F, fp, r, R, y⟩ := tB_open hv z
    simp only [evO] at y
    rw [asB_bind] at y
    refine bndB isB R y fun c r1 F1 fp1 H1 hv1 s1 R1 y => ?_
    cases c with
    | true =>
      rw [if_pos rfl] at y ⊢
      rw [asB_fz] at y
      exact tB_tail R1 y
    | false =>
      rw [if_neg (by decide)] at y ⊢
      exact fun hv2 => y F1 fp1 H1 hv2 .refl R1
theorem dw_or {a b : Expr} {rest : List Expr} {i j : Ex} {pos : Pos} (ha : PTb X ec W C a i) (hb : PWb X ec W C (.BoolOp .Or (b :: rest) pos) j) : PWb X ec W C (.BoolOp .Or (a :: b :: rest) pos) (.or i j) :=
  pw_mono (pw_or ha hb) fun σ H Q hv z => by
    obtain ⟨F, fp, r, R, y⟩ := tB_open hv z
    simp only [evO] at y
    rw [asB_bind] at y
    refine bndB isB R y fun c r1 F1 fp1 H1 hv1 s1 R1 y => ?_
    cases c with
    | false =>
      rw [if_neg (by decide)] at y ⊢
      rw [asB_fz] at y
      exact tB_tail R1 y
    | true =>
      rw [if_pos rfl] at y ⊢
      exact fun hv2 => y F1 fp1 H1 hv2 .refl R1
end
end Y
set_option Elab.async false
set_option linter.all false
set_option maxRecDepth 100000
set_option maxHeartbeats 4000000
/-! Y6: more expressions. -/
namespace Y
open PySem PySem.Spec L2
open PyProof.Rows hiding St

theorem getS_some {r : Rho} {i : Nat} {d : D} (e : getS r i = some d) : r[i]? = some (some d) := by
  unfold getS at e
  split at e
  · cases e; assumption
  · cases e
/-! ### no stars -/
def isStar : Expr → Bool
  | .Starred _ _ => true
  | _ => false
theorem star_ok {e : Expr} {es : List Expr} {env : PySem.Env} (h : isStar e = false) : starEach (e :: es) env = (false, eval e env) :: starEach es env := by
  cases e <;> first | rfl | cases h
def noStars : List Expr → Bool
  | [] => true
  | e :: es => !isStar e && noStars es
theorem noStars_any {pos : Pos} {env : PySem.Env} : ∀ {es : List Expr}, noStars es = true → (backTo pos (starEach es env)).any (·.1) = false
  | [], _ => rfl
  | e :: es, h => by
    unfold noStars at h
    rw [Bool.and_eq_true, Bool.not_eq_true'] at h
    rw [star_ok h.1]
    show (false || (backTo pos (starEach es env)).any (·.1)) = false
    rw [noStars_any h.2]
    rfl
section
variable {X : Cx} {ec : Ec} {W : WX} {C : Env}
theorem de_chain {o1 o2 : Cm} {a b c : Expr} {i j l : Ex} {pos : Pos} (hu : X.A.units + 65 < cLine) (ha : PEo X ec W C a i) (hb : PEo X ec W C b j) (hc : PEo X ec W C c l) (hm : lastMarks [cmOf o1, cmOf o2] [b, c] = false) :
    PEo X ec W C (.Compare a [cmOf o1, cmOf o2] [b, c] pos) (.chain o1 o2 i j l) := by
  obtain ⟨rr, h1, h2⟩ := cm_rule hu o1
  obtain ⟨rr', h3, h4⟩ := cm_rule hu o2
  refine pe_mono (pe_chain h1 h3 (pe_share ha) (pe_share hb) (pe_share hc) hm) fun σ H Q hv z => ?_
  obtain ⟨F, fp, r, R, y⟩ := tO_open hv z
  simp only [evO] at y
  refine bndR isO R y fun dx r1 F1 fp1 H1 x hv1 s1 R1 zx y => ?_
  refine bndR isO R1 y fun dy r2 F2 fp2 H2 w hv2 s2 R2 zw y => ?_
  refine EndB.op isO h2 hv2 R2 (s2.frz R1 zx) zw y fun k F3 H3 s3 R3 y => ⟨k, rfl, ?_⟩
  cases k with
  | false =>
    rw [if_neg (by decide)] at y ⊢
    exact fun hv4 => EndO.flat (d := .bl false) y hv4 R3 rfl rfl
  | true =>
    rw [if_pos rfl] at y ⊢
    refine bndR isO R3 y fun dz r4 F4 fp4 H4 t hv4 s4 R4 zt y => ?_
    exact EndO.op h4 hv4 R4 ((s3.trans s4).frz R2 zw) zt y
theorem dt_chain {o1 o2 : Cm} {a b c : Expr} {i j l : Ex} {pos : Pos} (hu : X.A.units + 65 < cLine) (ha : PEo X ec W C a i) (hb : PEo X ec W C b j) (hc : PEo X ec W C c l) (hm : lastMarks [cmOf o1, cmOf o2] [b, c] = false) :
    PTb X ec W C (.Compare a [cmOf o1, cmOf o2] [b, c] pos) (.chain o1 o2 i j l) := by
  obtain ⟨rr, h1, h2⟩ := cm_rule hu o1
  obtain ⟨rr', h3, h4⟩ := cm_rule hu o2
  refine pt_mono (pt_chain h1 h3 (pe_share ha) (pe_share hb) (pe_share hc) hm) fun σ H Q hv z => ?_
  obtain ⟨F, fp, r, R, y⟩ := tB_open hv z
  simp only [evO] at y
  rw [asB_bind] at y
  refine bndR isB R y fun dx r1 F1 fp1 H1 x hv1 s1 R1 zx y => ?_
  rw [asB_bind] at y
  refine bndR isB R1 y fun dy r2 F2 fp2 H2 w hv2 s2 R2 zw y => ?_
  rw [asB_bind] at y
  refine EndB.op isB h2 hv2 R2 (s2.frz R1 zx) zw y fun k F3 H3 s3 R3 y => ⟨k, rfl, ?_⟩
  cases k with
  | false =>
    rw [if_neg (by decide)] at y ⊢
    exact ⟨false, rfl, fun hv4 => y F3 fp2 H3 hv4 .refl R3⟩
  | true =>
    rw [if_pos rfl] at y ⊢
    rw [asB_bind] at y
    refine bndR isB R3 y fun dz r4 F4 fp4 H4 t hv4 s4 R4 zt y => ?_
    rw [← el_id (asB _)] at y
    exact EndB.op isB h4 hv4 R4 ((s3.trans s4).frz R2 zw) zt y fun b F5 H5 s5 R5 y => ⟨b, rfl, fun hv6 => y F5 fp4 H5 hv6 .refl R5⟩
/-! ### places of lists and tuples -/
def rIxAll (K : PySem.W.Frag) : R2 := fun x y H Q => rIxL K x y H Q ∨ rIxT K x y H Q
theorem ix_all : IxR X (rIxAll X.K) := ix_list.or ix_tup
/-- the item that stands there -/
theorem ix_at {K : PySem.W.Frag} {F : FS} {H : Hp} {xs : List D} {vs : List V} {i : Int} {d : D} (h : Frzs K F H xs vs) (e : atI xs i = some d) : ∃ v, atI vs i = some v ∧ Frz K F H d v := by
  unfold atI at e ⊢
  rw [← h.len]
  cases q : ixN xs.length i with
  | none => rw [q] at e; cases e
  | some j =>
    rw [q] at e
    exact h.get e
theorem fz_id {K : PySem.W.Frag} {F : FS} {H : Hp} {d : D} {v : V} (h : Frz K F H d v) : Own K F H d.fz v [] := h.fz.own
theorem own_seq {K : PySem.W.Frag} {F : FS} {H : Hp} {d : D} {v : V} {q : List Addr} {xs : List D} (h : Own K F H d v q) (e : seqOf d = some xs) : ∃ a vs, v = .ref a ∧ (SqL K H a vs ∨ SqT K H a vs) ∧ Frzs K F H xs vs := by
  cases d with
  | tup ys =>
    cases e
    exact frz_seq (.inl rfl) h.1
  | lst o ys =>
    cases e
    cases o with
    | true =>
      obtain ⟨a, vs, e1, h1, h2, _⟩ := h
      exact ⟨a, vs, e1, .inl (.inl (.inl h1)), h2⟩
    | false => exact frz_seq (.inr (.inl ⟨_, rfl⟩)) h.1
  | wls ys =>
    cases e
    exact frz_seq (.inr (.inr rfl)) h.1
  | _ => cases e
theorem frz_own {K : PySem.W.Frag} {F : FS} {H : Hp} {d : D} {v : V} (h : Frz K F H d v) : Own K F H d.fz v [] := h.fz.own
theorem seqOf_fz (d : D) : seqOf d.fz = seqOf d := by cases d <;> rfl
theorem ix_end {K : PySem.W.Frag} {σ : St} {H : Hp} {Q : VK} {F : FS} {fp : Nat → List Addr} {r : Rho} {dx dy : D} {x y : V} {q : List Addr} (hv : HV H) (R : Rel K F fp H σ r) (hx : Own K F H dx x q) (hy : Frz K F H dy y)
    (h : EndO K ec W σ Q F fp H (.of (idxD dx dy) r)) : rIxAll K x y H fun v H' => HV H' → Q v H' := by
  unfold idxD at h
  split at h
  · rename_i xs i e
    obtain ⟨a, vs, rfl, h1, h2⟩ := own_seq hx e
    cases hy
    cases e : atI xs i with
    | none => rw [e] at h; exact h.elim
    | some d =>
      rw [e] at h
      obtain ⟨v, e1, e2⟩ := ix_at h2 e
      have fin : HV H → Q v H := fun hv3 => EndO.flat (d := d.fz) h hv3 R (fz_fz _) e2.fz
      rcases h1 with h1 | h1
      · exact .inl ⟨a, vs, _, v, rfl, rfl, h1, e1, fin⟩
      · exact .inr ⟨a, vs, _, v, rfl, rfl, h1, e1, fin⟩
  · exact h.elim
theorem de_idx {a b : Expr} {i j : Ex} {pos : Pos} (ha : PEo X ec W C a i) (hb : PEo X ec W C b j) (hs : PlainIx b) : PEo X ec W C (.Subscript a b pos) (.idx i j) := by
  refine pe_mono (pe_ix ix_all (pe_share ha) (pe_share hb) hs) fun σ H Q hv z => ?_
  obtain ⟨F, fp, r, R, y⟩ := tO_open hv z
  simp only [evO] at y
  refine bndR isO R y fun dx r1 F1 fp1 H1 x hv1 s1 R1 zx y => ?_
  refine bndR isO R1 y fun dy r2 F2 fp2 H2 w hv2 s2 R2 zw y => ?_
  exact ix_end hv2 R2 (Frz.own (s2.frz R1 zx)) zw y
/-- a slot's list or tuple, read at a place -/
theorem de_idxV {s : Nat} {x : Str} {b : Expr} {j : Ex} {p pos : Pos} (hN : X.N[s]? = some x) (hv0 : Vis X.env.scope x) (hd : (x == ("__debug__" : Str)) = false) (hcd : (x == ("__classdict__" : Str)) = false) (hb : PEo X ec W C b j) (hs : PlainIx b) : PEo X ec W C (.Subscript (.Name x p) b pos) (.idxV s j) := by
  refine pe_mono (pe_ix ix_all (pe_var hN hv0 hd hcd) (pe_share hb) hs) fun σ H Q hv z => ?_
  obtain ⟨F, fp, r, R, y⟩ := tO_open hv z
  simp only [evO] at y
  cases e : getS r s with
  | none => rw [e] at y; exact y.elim
  | some d0 =>
    rw [e] at y
    obtain ⟨v, e1, _⟩ := R.slot s d0 (getS_some e)
    refine ⟨v, e1, ?_⟩
    refine bndR isO R y fun dy r2 F2 fp2 H2 w hv2 s2 R2 zw y => ?_
    cases e2 : getS r2 s with
    | none => rw [e2] at y; exact y.elim
    | some d =>
      rw [e2] at y
      obtain ⟨v', e3, o⟩ := R2.slot s d (getS_some e2)
      rw [e1] at e3
      cases e3
      exact ix_end hv2 R2 o zw y
/-! ### built-in calls -/
theorem blName_ok (b : Bl) : blName b ≠ "__name__" ∧ (blName b == ("__debug__" : Str)) = false := by
  cases b <;> exact ⟨by decide, by decide⟩
theorem de_blt {b : Bl} {e : Expr} {es : List Expr} {i : Ex} {is : List Ex} {p pos : Pos} (hc : X.calm = true) (hg : Gl X (blName b)) (hm : X.mg (blName b) = none) (hn : noStars (e :: es) = true) (ha : PAl X ec W C (e :: es) is) :
    PEo X ec W C (.Call (.Name (blName b) p) (e :: es) [] pos) (.blt b is) := by
  obtain ⟨rr, h1, h2⟩ := bl_rule hc b
  obtain ⟨n1, n2⟩ := blName_ok b
  have hn2 := hn
  unfold noStars at hn2
  rw [Bool.and_eq_true, Bool.not_eq_true'] at hn2
  have go : ∀ {rr}, ClOk X.K rr (bltD b) → PE X (.Call (.Name (blName b) p) (e :: es) [] pos) (tCB rr (tL X.K ec W (evL C is))) → PEo X ec W C (.Call (.Name (blName b) p) (e :: es) [] pos) (.blt b is) := fun h2 h => pe_mono h fun σ H Q hv z => by
    obtain ⟨F, fp, r, R, y⟩ := tO_open hv z
    simp only [evO] at y
    refine bndL isO R y fun ds r1 F1 fp1 H1 vs hv1 s1 R1 zx y => ?_
    exact EndO.cl h2 hv1 R1 zx y
  have bt := bl_boot b
  cases hb : blVal b with
  | builtin id =>
    rw [hb] at h1 bt
    exact go h2 (pe_callB h1 hg hm bt ha n1 n2 (star_ok hn2.1) (noStars_any hn2.2))
  | type T =>
    rw [hb] at h1 bt
    exact go h2 (pe_callTy h1 hg hm bt ha n1 n2 (star_ok hn2.1) (noStars_any hn2.2))
  | _ => cases b <;> cases hb
/-! ### sep.join(list) -/
def notCall : Expr → Bool
  | .Call _ _ _ _ => false
  | _ => true
theorem base_ok {e : Expr} {a : Str} {env : PySem.Env} {t : Sem Value} (h : notCall e = true) : attributeBase e a env t = t := by
  cases e <;> first | rfl | cases h
theorem de_join {a b : Expr} {i j : Ex} {apos pos : Pos} (ha : PEo X ec W C a i) (hb : PEo X ec W C b j) (hs : isStar b = false) (hn : notCall a = true) (hl : (apos.endLine == pos.line) = true) : PEo X ec W C (.Call (.Attribute a "join" apos) [b] [] pos) (.join i j) := by
  refine pe_mono (pe_join (pe_share ha) (pe_share hb) (star_ok hs) (base_ok hn) hl) fun σ H Q hv z => ?_
  obtain ⟨F, fp, r, R, y⟩ := tO_open hv z
  simp only [evO] at y
  refine bndR isO R y fun dx r1 F1 fp1 H1 x hv1 s1 R1 zx y => ?_
  split at y
  · rename_i s hs
    rw [hs] at zx
    cases zx
    refine ⟨⟨s, rfl⟩, ?_⟩
    refine bndR isO R1 y fun dy r2 F2 fp2 H2 w hv2 s2 R2 zw y => ?_
    generalize dy.fz = dz at zw y
    unfold joinD at y
    split at y
    · rename_i s' o xs q
      cases q
      obtain ⟨a, vs, rfl, h1, h2⟩ := frz_lst zw
      split at y
      · rename_i ys q2
        split at y
        · rename_i hz
          have e := frzs_texts q2 h2
          subst e
          exact ⟨s, a, ys, rfl, rfl, .inl (.inl h1), hz, fun hv3 => EndO.flat (d := .str (Txt.join s ys)) y hv3 R2 rfl rfl⟩
        · exact y.elim
      · exact y.elim
    · exact y.elim
  · exact y.elim
/-! ### list(range(a, b)) -/
theorem frzs_ints {K : PySem.W.Frag} {F : FS} {H : Hp} : ∀ (ns : List Int), Frzs K F H (ns.map D.int) (ns.map V.int)
  | [] => rfl
  | n :: ns => ⟨.int n, _, rfl, rfl, frzs_ints ns⟩
theorem frzs_rg {K : PySem.W.Frag} {F : FS} {H : Hp} (a b : Int) : Frzs K F H ((List.range (b - a).toNat).map fun (i : Nat) => D.int (a + i)) (rgV a b) := by
  have h := frzs_ints (K := K) (F := F) (H := H) ((List.range (b - a).toNat).map fun (i : Nat) => a + (i : Int))
  rw [List.map_map, List.map_map] at h
  exact h
theorem de_lrng {a b : Expr} {i j : Ex} {p p2 pos pos2 : Pos} (hc : X.calm = true) (hg : Gl X "list") (hm : X.mg "list" = none) (hg2 : Gl X "range") (hm2 : X.mg "range" = none) (ha : PEo X ec W C a i) (hb : PEo X ec W C b j) (sa : isStar a = false) (sb : isStar b = false) :
    PEo X ec W C (.Call (.Name "list" p) [.Call (.Name "range" p2) [a, b] [] pos2] [] pos) (.lrng i j) := by
  refine pe_mono (pe_listRg hc hg hm (prg_2 hg2 hm2 (pe_share ha) (pe_share hb) (star_ok sa) (star_ok sb) (noStars_any (by simp [noStars, sb]))) rfl) fun σ H Q hv z => ?_
  obtain ⟨F, fp, r, R, y⟩ := tO_open hv z
  simp only [evO] at y
  refine bndR isO R y fun dx r1 F1 fp1 H1 x hv1 s1 R1 zx y => ?_
  refine bndR isO R1 y fun dy r2 F2 fp2 H2 w hv2 s2 R2 zw y => ?_
  have zx := s2.frz R1 zx
  generalize dx.fz = da at zx y
  generalize dy.fz = db at zw y
  unfold lrngD at y
  split at y
  · cases zx; cases zw
    split at y
    · rename_i hz
      refine ⟨_, _, rfl, rfl, hz, fun q hq hv3 => ?_⟩
      obtain ⟨n1, n2, n3⟩ := new_lst R2.trF hq (frzs_rg _ _)
      exact EndO.new y hv3 R2 n1 n2 n3
    · exact y.elim
  · exact y.elim
end
end Y
set_option Elab.async false
set_option linter.all false
set_option maxRecDepth 100000
set_option maxHeartbeats 4000000
/-! Y7: targets, what is walked. -/
namespace Y
open PySem PySem.Spec L2
open PyProof.Rows hiding St

/-! ### a slot is bound -/
section
variable {K : PySem.W.Frag} {F : FS} {fp : Nat → List Addr} {H : Hp} {σ : St} {r : Rho} {d : D} {v : V} {q : List Addr} {i : Nat}
theorem Rel.put (R : Rel K F fp H σ r) (hi : i < r.length) (o : Own K F H d v q) (qF : ∀ a, a ∈ q → ¬ F a) (qfp : ∀ a j, a ∈ q → a ∉ fp j) : Rel K F (fun j => if j = i then q else fp j) H (σ.set i (some v)) (r.set i (some d)) := by
  refine ⟨by rw [List.length_set, List.length_set]; exact R.len, fun j x h => ?_, fun j h => ?_, fun j k a n h => ?_, fun j a h z => ?_, R.trF⟩
  · by_cases z : j = i
    · subst z
      rw [List.getElem?_set_self hi] at h
      cases h
      exact ⟨v, List.getElem?_set_self (by rw [← R.len]; exact hi), by rw [if_pos rfl]; exact o⟩
    · rw [List.getElem?_set_ne (Ne.symm z)] at h
      obtain ⟨w, w1, w2⟩ := R.slot j x h
      exact ⟨w, by rw [List.getElem?_set_ne (Ne.symm z)]; exact w1, by rw [if_neg z]; exact w2⟩
  · by_cases z : j = i
    · subst z
      exact absurd (List.getElem?_set_self hi) (h d)
    · rw [if_neg z]
      exact R.out j fun x hx => h x (by rw [List.getElem?_set_ne (Ne.symm z)]; exact hx)
  · by_cases z : j = i
    · rw [if_pos z] at h
      rw [if_neg (fun y => n (z.trans y.symm))]
      exact qfp a k h
    · rw [if_neg z] at h
      by_cases y : k = i
      · rw [if_pos y]; exact fun w => qfp a j w h
      · rw [if_neg y]; exact R.dis j k a n h
  · by_cases y : j = i
    · rw [if_pos y] at h; exact qF a h z
    · rw [if_neg y] at h; exact R.nF j a h z
/-- owned things only get fewer -/
theorem step_fewer {fp' : Nat → List Addr} (h : ∀ j a, a ∈ fp' j → ∃ k, a ∈ fp k) : Step fp F H fp' F H := ⟨fun _ z => z, fun _ _ z _ => z, fun _ z => .inl z, fun j a z => .inr (h j a z)⟩
/-- some slots are forgotten -/
theorem Rel.drop (R : Rel K F fp H σ r) (σ' : St) (hl : σ'.length = σ.length) (is : List Nat) (hσ : ∀ j, j ∉ is → σ'[j]? = σ[j]?) (r' : Rho) (hr : r'.length = r.length) (h0 : ∀ j, j ∈ is → ∀ d, r'[j]? ≠ some (some d)) (h1 : ∀ j, j ∉ is → r'[j]? = r[j]?) : Rel K F (fun j => if j ∈ is then [] else fp j) H σ' r' := by
  refine ⟨by rw [hl, hr]; exact R.len, fun j x h => ?_, fun j h => ?_, fun j k a n h => ?_, fun j a h z => ?_, R.trF⟩
  · by_cases z : j ∈ is
    · exact absurd h (h0 j z x)
    · rw [h1 j z] at h
      obtain ⟨w, w1, w2⟩ := R.slot j x h
      exact ⟨w, by rw [hσ j z]; exact w1, by rw [if_neg z]; exact w2⟩
  · by_cases z : j ∈ is
    · rw [if_pos z]
    · rw [if_neg z]
      exact R.out j fun x hx => h x (by rw [h1 j z]; exact hx)
  · by_cases z : j ∈ is
    · rw [if_pos z] at h; cases h
    · rw [if_neg z] at h
      by_cases y : k ∈ is
      · rw [if_pos y]; exact fun w => nomatch w
      · rw [if_neg y]; exact R.dis j k a n h
  · by_cases y : j ∈ is
    · rw [if_pos y] at h; cases h
    · rw [if_neg y] at h; exact R.nF j a h z
end
/-! ### targets -/
def gT (K : PySem.W.Frag) (tg : Tg) : TG := fun v σ H Q => HV H → ∃ F fp r d r', Rel K F fp H σ r ∧ Frz K F H d v ∧ tgS tg d r = some r' ∧
  ∀ σ' fp', Rel K F fp' H σ' r' → (∀ j a, a ∈ fp' j → ∃ k, a ∈ fp k) → σ'.length = σ.length → (∀ j, j ∉ slT tg → σ'[j]? = σ[j]?) → Q σ' H
def gTs (K : PySem.W.Frag) (tgs : List Tg) : TGs := fun vs σ H Q => HV H → ∃ F fp r ds r', Rel K F fp H σ r ∧ Frzs K F H ds vs ∧ tgSs tgs ds r = some r' ∧
  ∀ σ' fp', Rel K F fp' H σ' r' → (∀ j a, a ∈ fp' j → ∃ k, a ∈ fp k) → σ'.length = σ.length → (∀ j, j ∉ slTs tgs → σ'[j]? = σ[j]?) → Q σ' H
theorem pg_mono {X : Cx} {e : Expr} {t t' : TG} (h : PG X e t) (i : ∀ v σ H Q, HV H → t' v σ H Q → t v σ H Q) : PG X e t' := ⟨fun pins s σ H v u Q I rv q => h.run pins s σ H v u Q I rv (i v σ H Q (hv_of I) q)⟩
theorem pgs_mono {X : Cx} {e : List Expr} {t t' : TGs} (h : PGs X e t) (i : ∀ v σ H Q, HV H → t' v σ H Q → t v σ H Q) : PGs X e t' := ⟨fun pins s σ H v u Q I rv q => h.run pins s σ H v u Q I rv (i v σ H Q (hv_of I) q)⟩
section
variable {X : Cx}
theorem dg_nm {i : Nat} {x : Str} {pos : Pos} (hN : X.N.Nodup) (hi : X.N[i]? = some x) (hx : Loc X.env.scope x) (hf : X.fn x = true ∨ X.env.scope.names.lookup x = some .local) : PG X (.Name x pos) (gT X.K (.nm i)) :=
  pg_mono (pg_name hN hi hx hf) fun v σ H Q hv h => by
    obtain ⟨F, fp, r, d, r', R, z, e, k⟩ := h hv
    unfold tgS at e
    split at e
    · rename_i hl
      cases e
      refine k _ _ (R.put hl (Frz.own z.fz) (fun _ z => nomatch z) fun _ _ z => nomatch z) (fun j a h => ?_) (by rw [List.length_set]) fun j hj => ?_
      · by_cases y : j = i
        · rw [if_pos y] at h; cases h
        · rw [if_neg y] at h; exact ⟨j, h⟩
      · rw [List.getElem?_set_ne]
        intro y
        exact hj (by rw [y]; simp [slT])
    · cases e
theorem assign_ok {e : Expr} {es : List Expr} {env : PySem.Env} (h : isStar e = false) : assignEach (e :: es) env = (false, assign e env) :: assignEach es env := by
  cases e <;> first | rfl | cases h
theorem assign_len {env : PySem.Env} : ∀ {es : List Expr}, (assignEach es env).length = es.length
  | [] => rfl
  | e :: es => by
    cases e <;> exact congrArg (· + 1) (assign_len (es := es))
theorem assign_no {env : PySem.Env} : ∀ {es : List Expr}, noStars es = true → (assignEach es env).findIdx? (·.1) = none
  | [], _ => rfl
  | e :: es, h => by
    unfold noStars at h
    rw [Bool.and_eq_true, Bool.not_eq_true'] at h
    rw [assign_ok h.1, List.findIdx?_cons]
    simp [assign_no h.2]
theorem dg_nil : PGs X [] (gTs X.K []) := pgs_mono pgs_nil fun v σ H Q hv h => by
  obtain ⟨F, fp, r, ds, r', R, z, e, k⟩ := h hv
  unfold tgSs at e
  split at e
  · cases e
    exact ⟨z, k σ fp R (fun j a h => ⟨j, h⟩) rfl fun _ _ => rfl⟩
  · rename_i q; cases q
  · cases e
theorem dg_cons {e : Expr} {es : List Expr} {t : Tg} {ts : List Tg} (h1 : PG X e (gT X.K t)) (h2 : PGs X es (gTs X.K ts)) (hs : isStar e = false) : PGs X (e :: es) (gTs X.K (t :: ts)) :=
  pgs_mono (pgs_cons h1 h2 (by rw [assign_ok hs]; rfl)) fun v σ H Q hv h => by
    obtain ⟨F, fp, r, ds, r', R, z, e, k⟩ := h hv
    unfold tgSs at e
    split at e
    · rename_i q; cases q
    · rename_i t0 ts0 x xs q
      cases q
      obtain ⟨v, ws, rfl, z1, z2⟩ := z
      split at e
      · rename_i r1 e1
        refine ⟨v, ws, rfl, fun _ => ⟨F, fp, _, x, r1, R, z1, e1, fun σ1 fp1 R1 hf hl hσ _ => ⟨F, fp1, r1, xs, r', R1, z2, e, fun σ2 fp2 R2 hf2 hl2 hσ2 => ?_⟩⟩⟩
        refine k σ2 fp2 R2 (fun j a h => ?_) (hl2.trans hl) fun j hj => ?_
        · obtain ⟨m, hm⟩ := hf2 j a h
          exact hf m a hm
        · unfold slTs at hj
          rw [List.mem_append, not_or] at hj
          exact (hσ2 j hj.2).trans (hσ j hj.1)
      · cases e
    · cases e
theorem dg_tp {es : List Expr} {ts : List Tg} {k : Nat} {pos : Pos} (hc : X.calm = true) (h : PGs X es (gTs X.K ts)) (hn : noStars es = true) (hl : es.length = ts.length) : PG X (.Tuple es k pos) (gT X.K (.tp ts)) :=
  pg_mono (pg_tup hc h assign_len (assign_no hn)) fun v σ H Q hv h => by
    obtain ⟨F, fp, r, d, r', R, z, e, k⟩ := h hv
    have hlen : ∀ (ts : List Tg) (ds : List D) (r r' : Rho), tgSs ts ds r = some r' → ts.length = ds.length := by
      intro ts
      induction ts with
      | nil =>
        intro ds r r' e
        unfold tgSs at e
        split at e
        · rfl
        · rename_i q; cases q
        · cases e
      | cons t ts ih =>
        intro ds r r' e
        unfold tgSs at e
        split at e
        · rename_i q; cases q
        · rename_i q
          cases q
          split at e
          · simp [ih _ _ _ e]
          · cases e
        · cases e
    unfold tgS at e
    split at e
    · rename_i q; cases q
    · rename_i ts' xs q
      cases q
      obtain ⟨a, vs, rfl, h1, h2⟩ := frz_tup z
      exact ⟨a, vs, rfl, h1, by rw [← h2.len, ← hlen _ _ _ _ e, hl], fun _ => ⟨F, fp, _, xs, r', R, h2, e, k⟩⟩
    · cases e
end
/-! ### what is walked -/
structure WalkD (K : PySem.W.Frag) (F : FS) (H : Hp) (J : It) (ds : List D) : Prop where
  goes : ∀ i H2, i < ds.length → (∀ a, F a → H2 a = H a) → J.go i H2
  stops : ∀ H2, (∀ a, F a → H2 a = H a) → J.stop ds.length H2
  yields : ∀ i H2 x H3 d F2, ds[i]? = some d → (∀ a, F a → H2 a = H a) → (∀ a, F a → F2 a) → (∀ a, F2 a → ∃ o, H2 a = some o) → J.yld i H2 x H3 → ∃ F3, Newer F2 H2 F3 H3 ∧ Frz K F3 H3 d x
def tI (K : PySem.W.Frag) (ec : Ec) (W : WX) (f : Rho → Res (List D)) : TI := fun σ H R => HV H → ∃ F fp r, Rel K F fp H σ r ∧ (match f r with
  | .ok ds r' => ∀ F' fp' H' J, HV H' → Step fp F H fp' F' H' → Rel K F' fp' H' σ r' → ds.length ≤ sizeLine → WalkD K F' H' J ds → R J H'
  | .exc x r' => WExc K ec W σ F fp H x r'
  | .stuck => False)
def EndI (K : PySem.W.Frag) (ec : Ec) (W : WX) (σ : St) (Q : It → Hp → Prop) (F : FS) (fp : Nat → List Addr) (H : Hp) (m : Res (List D)) : Prop := match m with
  | .ok ds r' => ∀ F' fp' H' J, HV H' → Step fp F H fp' F' H' → Rel K F' fp' H' σ r' → ds.length ≤ sizeLine → WalkD K F' H' J ds → Q J H'
  | .exc x r' => WExc K ec W σ F fp H x r'
  | .stuck => False
theorem isI {K : PySem.W.Frag} {ec : Ec} {W : WX} {σ : St} {Q : It → Hp → Prop} : IsEnd K ec W σ Res.exc Res.stuck (EndI K ec W σ Q) where
  stuck := fun _ _ _ h => h
  exc := fun _ _ _ _ _ h => h
  later := fun F fp H F1 fp1 H1 m s h => by
    cases m with
    | ok d r' => exact fun F' fp' H' J hv s' R' hl w => h F' fp' H' J hv (s.trans s') R' hl w
    | exc x r' => exact WExc.later s h
    | stuck => exact h
theorem tI_open {K : PySem.W.Frag} {ec : Ec} {W : WX} {f : Rho → Res (List D)} {σ : St} {H : Hp} {Q : It → Hp → Prop} (hv : HV H) (h : tI K ec W f σ H Q) : ∃ F fp r, Rel K F fp H σ r ∧ EndI K ec W σ Q F fp H (f r) := h hv
theorem pi_mono {X : Cx} {tg e : Expr} {t t' : TI} (h : PI X tg e t) (i : ∀ σ H Q, HV H → t' σ H Q → t σ H fun J H' => HV H' → Q J H') : PI X tg e t' := ⟨fun pins s σ H R I q =>
  thn (h.run pins s σ H _ I (i σ H R (hv_of I) q)) fun v s1 h1 => thn h1 fun itv s2 ⟨it, fp, tn, J, H', e, I', T, t0, f, z⟩ => ⟨it, fp, tn, J, H', e, I', T, t0, f, z (hv_of I')⟩⟩
section
variable {X : Cx} {tg : Expr}
/-- a list, a tuple or a text -/
def iSeq (K : PySem.W.Frag) (te : TE) : TI := fun σ H R => te σ H fun x H1 => (∃ a xs, x = .ref a ∧ SqL K H1 a xs ∧ R (Itl K a) H1) ∨ (∃ a xs, x = .ref a ∧ SqT K H1 a xs ∧ R (Itt K a) H1) ∨ ∃ z, x = .str z ∧ R (Its z) H1
theorem pi_seq {e : Expr} {te : TE} (he : PE X e te) : PI X tg e (iSeq X.K te) := by
  constructor
  intro pins s σ H R I h
  refine thn (he.run pins s σ H _ I h) ?_
  rintro v s1 ⟨x, H1, I1, r1, ⟨a, xs, rfl, hq, q⟩ | ⟨a, xs, rfl, hq, q⟩ | ⟨z, rfl, q⟩⟩
  · cases r1
    obtain ⟨its, rv, p, hz⟩ := I1.list hq
    exact wpAny_pyIter_list p.isList (pi_one (tk := s1.toks) I1 _ (turn_list a _) ⟨_, Heap.get?_push_size _ rfl, rfl, rfl⟩ q)
  · cases r1
    obtain ⟨its, rv, p, hz⟩ := I1.tuple hq
    exact wpAny_pyIter_tuple (show s1.heap.IsTuple a its.toArray from p) (pi_one (tk := s1.toks) I1 _ (turn_tuple a _) ⟨_, Heap.get?_push_size _ rfl, rfl, rfl⟩ q)
  · obtain ⟨t, rfl⟩ := r1
    cases ha : z.cps.all (· < 128) with
    | false => exact wpAny_pyIter_wide ha (pi_one (tk := s1.toks) I1 _ (turn_str _ z t "str_iterator" (.inr rfl)) ⟨_, Heap.get?_push_size _ rfl, rfl, rfl⟩ q)
    | true => exact wpAny_pyIter_ascii ha (pi_one (tk := s1.toks) I1 _ (turn_str _ z t "str_ascii_iterator" (.inl rfl)) ⟨_, Heap.get?_push_size _ rfl, rfl, rfl⟩ q)
end
end Y
set_option Elab.async false
set_option linter.all false
set_option maxRecDepth 100000
set_option maxHeartbeats 4000000
/-! Y8: walks, comprehensions. -/
namespace Y
open PySem PySem.Spec L2
open PyProof.Rows hiding St

section
variable {K : PySem.W.Frag} {F : FS} {H : Hp}
theorem walkD_of {J : It} {vs : List V} {ds : List D} {G : Hp → Prop} (w : Walk J vs.length G (YAt vs)) (hG : ∀ H2, (∀ a, F a → H2 a = H a) → G H2) (z : Frzs K F H ds vs) : WalkD K F H J ds := by
  refine ⟨fun i H2 hi e => w.goes i H2 (by rw [← z.len]; exact hi) (hG H2 e), fun H2 e => by rw [z.len]; exact w.stops H2 (hG H2 e), fun i H2 x H3 d F2 hd e hF tr y => ?_⟩
  have hi : i < vs.length := by
    rw [← z.len]
    exact (List.getElem?_eq_some_iff.mp hd).1
  obtain ⟨e1, e2⟩ := w.yields i H2 x H3 hi (hG H2 e) y
  subst e1
  obtain ⟨v, e3, zv⟩ := z.get hd
  rw [e2] at e3
  cases e3
  exact ⟨F2, .refl, Frz.mono hF e _ _ zv⟩
theorem walkD_list {a : Addr} {vs : List V} {ds : List D} (h : (F a ∧ Rd H a (.lst vs)) ∨ KL K a vs) (z : Frzs K F H ds vs) : WalkD K F H (Itl K a) ds :=
  walkD_of (walk_list (xs := vs)) (fun H2 e => h.imp (fun q => rd_same q.2 (e a q.1)) id) z
theorem walkD_tup {a : Addr} {vs : List V} {ds : List D} (h : (F a ∧ H a = some (.tup vs)) ∨ KTp K a vs) (z : Frzs K F H ds vs) : WalkD K F H (Itt K a) ds :=
  walkD_of (walk_tup (xs := vs)) (fun H2 e => h.imp (fun q => .inl ((e a q.1).trans q.2)) id) z
theorem walkD_str {s : Str} : WalkD K F H (Its s) (s.cps.toList.map fun c => D.str ⟨#[c]⟩) := by
  have hl : (s.cps.toList.map fun c => D.str ⟨#[c]⟩).length = s.cps.size := by simp
  refine ⟨fun i H2 hi e => by rw [hl] at hi; exact hi, fun H2 e => by rw [hl]; exact Nat.le_refl _, fun i H2 x H3 d F2 hd e hF tr y => ?_⟩
  obtain ⟨e1, c, hc, e2⟩ := y
  subst e1 e2
  refine ⟨F2, .refl, ?_⟩
  rw [List.getElem?_map] at hd
  have hc2 : s.cps.toList[i]? = some c := by simpa using hc
  rw [hc2] at hd
  cases hd
  exact rfl
theorem walkD_rng {lo : Int} {n : Nat} : WalkD K F H (Itr lo n) ((List.range n).map fun (i : Nat) => D.int (lo + i)) := by
  have hl : ((List.range n).map fun (i : Nat) => D.int (lo + i)).length = n := by simp
  refine ⟨fun i H2 hi e => by rw [hl] at hi; exact hi, fun H2 e => by rw [hl]; exact Nat.le_refl _, fun i H2 x H3 d F2 hd e hF tr y => ?_⟩
  obtain ⟨e1, e2⟩ := y
  subst e1 e2
  refine ⟨F2, .refl, ?_⟩
  have hi : i < n := by
    have := (List.getElem?_eq_some_iff.mp hd).1
    rw [hl] at this; exact this
  rw [List.getElem?_map, List.getElem?_range hi] at hd
  cases hd
  exact rfl
end
section
variable {X : Cx} {ec : Ec} {W : WX} {C : Env} {tg : Expr}
theorem di_seq {e : Expr} {i : Ex} (he : PEo X ec W C e i) : PI X tg e (tI X.K ec W (evI C (.seq i))) := by
  refine pi_mono (pi_seq (pe_share he)) fun σ H Q hv z => ?_
  obtain ⟨F, fp, r, R, y⟩ := tI_open hv z
  simp only [evI] at y
  refine bndR isI R y fun dx r1 F1 fp1 H1 x hv1 s1 R1 zx y => ?_
  generalize dx.fz = d at zx y
  cases e : seqD d with
  | none => rw [e] at y; exact y.elim
  | some ds =>
    rw [e] at y
    have fin : ∀ {J : It}, ds.length ≤ sizeLine → WalkD X.K F1 H1 J ds → (fun J H' => HV H' → Q J H') J H1 := fun hl w hv2 => y F1 fp1 H1 _ hv2 .refl R1 hl w
    cases d with
    | tup xs =>
      cases e
      obtain ⟨a, vs, rfl, h1, h2⟩ := zx
      have hz : vs.length ≤ sizeLine := by
        rcases h1 with h1 | ⟨o, its, n, _, _, _, hz, hvs⟩
        · exact hv1.2 a vs h1.2
        · rw [hvs.length]; simpa using hz
      exact .inr (.inl ⟨a, vs, rfl, h1.imp (fun z => .inl z.2) id, fin (by rw [h2.len]; exact hz) (walkD_tup h1 h2)⟩)
    | lst o xs =>
      cases e
      obtain ⟨a, vs, rfl, h1, h2⟩ := zx
      exact .inl ⟨a, vs, rfl, .inl h1.2, fin (by rw [h2.len]; exact hv1.1 a vs h1.2) (walkD_list (.inl h1) h2)⟩
    | wls xs =>
      cases e
      obtain ⟨a, vs, rfl, h1, h2⟩ := zx
      have hz : vs.length ≤ sizeLine := by
        rcases h1 with h1 | ⟨o, its, n, _, _, _, _, hz, hvs⟩
        · exact hv1.1 a vs h1.2
        · rw [hvs.length]; simpa using hz
      exact .inl ⟨a, vs, rfl, h1.imp (fun z => z.2) id, fin (by rw [h2.len]; exact hz) (walkD_list h1 h2)⟩
    | str s =>
      change (if s.cps.size ≤ sizeLine then _ else _) = some ds at e
      split at e
      · rename_i hz
        cases e
        cases zx
        exact .inr (.inr ⟨s, rfl, fin (by simpa using hz) walkD_str⟩)
      · cases e
    | _ => cases e
theorem di_rng1 {a : Expr} {i : Ex} {p pos : Pos} (hg : Gl X "range") (hm : X.mg "range" = none) (ha : PEo X ec W C a i) (sa : isStar a = false) : PI X tg (.Call (.Name "range" p) [a] [] pos) (tI X.K ec W (evI C (.rng1 i))) := by
  refine pi_mono (pi_range1 hg hm (pa_cons (pe_share ha) pa_nil (star_ok sa)) (star_ok sa)) fun σ H Q hv z => ?_
  obtain ⟨F, fp, r, R, y⟩ := tI_open hv z
  simp only [evI] at y
  refine bndR isI R y fun dx r1 F1 fp1 H1 x hv1 s1 R1 zx y => ?_
  generalize dx.fz = d at zx y
  unfold rngD at y
  split at y
  · rename_i a0 b0 q1
    cases q1
    cases zx
    split at y
    · rename_i hz
      refine ⟨_, rfl, hz.2.2.1, hz.2.2.2.1, fun hv2 => ?_⟩
      have h0 : ∀ n : Int, (n - 0) = n := fun n => by omega
      rw [h0] at y
      exact y F1 fp1 H1 _ hv2 .refl R1 (by rw [List.length_map, List.length_range]; have := hz.2.2.2.2; rw [h0] at this; exact this) walkD_rng
    · exact y.elim
  · exact y.elim
theorem di_rng2 {a b : Expr} {i j : Ex} {p pos : Pos} (hg : Gl X "range") (hm : X.mg "range" = none) (ha : PEo X ec W C a i) (hb : PEo X ec W C b j) (sa : isStar a = false) (sb : isStar b = false) : PI X tg (.Call (.Name "range" p) [a, b] [] pos) (tI X.K ec W (evI C (.rng2 i j))) := by
  refine pi_mono (pi_range2 hg hm (pa_cons (pe_share ha) (pa_cons (pe_share hb) pa_nil (star_ok sb)) (star_ok sa)) (by rw [star_ok sa, star_ok sb]; rfl) (by rw [star_ok sb]; rfl)) fun σ H Q hv z => ?_
  obtain ⟨F, fp, r, R, y⟩ := tI_open hv z
  simp only [evI] at y
  refine bndR isI R y fun dx r1 F1 fp1 H1 x hv1 s1 R1 zx y => ?_
  refine bndR isI R1 y fun dy r2 F2 fp2 H2 w hv2 s2 R2 zw y => ?_
  have zx := s2.frz R1 zx
  generalize dx.fz = d at zx y
  generalize dy.fz = d2 at zw y
  unfold rngD at y
  split at y
  · cases zx; cases zw
    split at y
    · rename_i hz
      exact ⟨_, _, rfl, ⟨hz.1, hz.2.1, hz.2.2.1, hz.2.2.2.1⟩, fun hv3 => y F2 fp2 H2 _ hv3 .refl R2 (by rw [List.length_map, List.length_range]; exact hz.2.2.2.2) walkD_rng⟩
    · exact y.elim
  · exact y.elim
end
/-! ### list comprehensions -/
abbrev WF : WX := fun _ _ _ _ => False
theorem wip_len (r : Rho) : ∀ vs, (wip r vs).length = r.length
  | [] => rfl
  | v :: vs => by unfold wip; rw [List.length_set, wip_len r vs]
theorem wip_in (r : Rho) : ∀ {vs : List Nat} {j : Nat}, j ∈ vs → ∀ d, (wip r vs)[j]? ≠ some (some d)
  | v :: vs, j, h, d, e => by
    unfold wip at e
    by_cases hj : v = j
    · subst hj
      by_cases hl : v < (wip r vs).length
      · rw [List.getElem?_set_self hl] at e; cases e
      · rw [List.getElem?_eq_none (by simpa using hl)] at e; cases e
    · rw [List.getElem?_set_ne hj] at e
      rcases List.mem_cons.mp h with h | h
      · exact hj h.symm
      · exact wip_in r h d e
theorem wip_out (r : Rho) : ∀ {vs : List Nat} {j : Nat}, j ∉ vs → (wip r vs)[j]? = r[j]?
  | [], _, _ => rfl
  | v :: vs, j, h => by
    unfold wip
    rw [List.mem_cons, not_or] at h
    rw [List.getElem?_set_ne (Ne.symm h.1)]
    exact wip_out r h.2
theorem wipe_out' {σ : St} : ∀ {vs : List Nat} {j : Nat}, j ∉ vs → (wipe σ vs)[j]? = σ[j]? := fun h => wipe_out h
theorem unwip_len (r r' : Rho) : ∀ vs, (unwip r r' vs).length = r'.length
  | [] => rfl
  | v :: vs => by unfold unwip; rw [List.length_set, unwip_len r r' vs]
theorem unwip_in (r r' : Rho) (hl : r'.length = r.length) : ∀ {vs : List Nat} {j : Nat}, j ∈ vs → (unwip r r' vs)[j]? = r[j]?
  | v :: vs, j, h => by
    unfold unwip
    by_cases hj : v = j
    · subst hj
      by_cases hlt : v < r.length
      · rw [List.getElem?_set_self (by rw [unwip_len, hl]; exact hlt), List.getElem?_eq_getElem hlt]
      · rw [List.getElem?_eq_none (by rw [List.length_set, unwip_len, hl]; omega), List.getElem?_eq_none (by omega)]
    · rw [List.getElem?_set_ne hj]
      rcases List.mem_cons.mp h with h | h
      · exact absurd h.symm hj
      · exact unwip_in r r' hl h
theorem unwip_out (r r' : Rho) : ∀ {vs : List Nat} {j : Nat}, j ∉ vs → (unwip r r' vs)[j]? = r'[j]?
  | [], _, _ => rfl
  | v :: vs, j, h => by
    unfold unwip
    rw [List.mem_cons, not_or] at h
    rw [List.getElem?_set_ne (Ne.symm h.1)]
    exact unwip_out r r' h.2
section
variable {K : PySem.W.Frag} {F : FS} {H : Hp} {fp : Nat → List Addr} {σ : St} {r : Rho}
/-- an object that nobody looks at is written -/
theorem Rel.free (R : Rel K F fp H σ r) {D : Addr} {o : HO} (h1 : ¬ F D) (h2 : ∀ j, D ∉ fp j) : Rel K F fp (upd H D o) σ r := by
  have e : ∀ a, F a → upd H D o a = H a := fun a z => upd_ne fun q => h1 (q ▸ z)
  refine ⟨R.len, fun i d h => ?_, R.out, R.dis, R.nF, fun a z => by rw [e a z]; exact R.trF a z⟩
  obtain ⟨v, e1, w⟩ := R.slot i d h
  exact ⟨v, e1, w.mono (fun _ z => z) e fun a z => upd_ne fun q => h2 i (q ▸ z)⟩
/-- between two turns: r2 the slots, the list made so far at L -/
structure LcAt (K : PySem.W.Frag) (F1 : FS) (fp1 : Nat → List Addr) (H1 : Hp) (own : List Nat) (σ : St) (L : Addr) (r2 : Rho) (acc : List D) (H : Hp) (F : FS) (fp : Nat → List Addr) (vs : List V) : Prop where
  rel : Rel K F fp H (wipe σ own) r2
  at_ : H L = some (.lst vs)
  acc : Frzs K F H acc vs
  nF : ¬ F L
  nfp : ∀ j, L ∉ fp j
  st : Step (fun j => if j ∈ own then [] else fp1 j) F1 H1 fp F H
  non : ∀ j, j ∈ own → ∀ d, r2[j]? ≠ some (some d)
/-- the list at L stays through what leaves it alone -/
theorem LcAt.go {F1 : FS} {fp1 : Nat → List Addr} {H1 : Hp} {own : List Nat} {L : Addr} {r2 : Rho} {acc : List D} {vs : List V} {F' : FS} {fp' : Nat → List Addr} {H' : Hp} (a : LcAt K F1 fp1 H1 own σ L r2 acc H F fp vs)
    (s : Step fp F H fp' F' H') : H' L = some (.lst vs) ∧ Frzs K F' H' acc vs ∧ ¬ F' L ∧ (∀ j, L ∉ fp' j) ∧ Step (fun j => if j ∈ own then [] else fp1 j) F1 H1 fp' F' H' := by
  refine ⟨s.keep L _ a.at_ a.nfp, s.frzs a.rel a.acc, fun z => ?_, fun j z => ?_, a.st.trans s⟩
  · rcases s.new L z with z | z | ⟨i, z⟩
    · exact a.nF z
    · rw [a.at_] at z; cases z
    · exact a.nfp i z
  · rcases s.own j L z with z | ⟨i, z⟩
    · rw [a.at_] at z; cases z
    · exact a.nfp i z
/-- from a heap in which L was not -/
theorem step_upd {F1 : FS} {fp1 : Nat → List Addr} {H1 : Hp} {L : Addr} {o : HO} (s : Step fp1 F1 H1 fp F H) (h : H1 L = none) : Step fp1 F1 H1 fp F (upd H L o) :=
  ⟨s.sub, fun a u e n => by rw [upd_ne (ne_of_none e h)]; exact s.keep a u e n, s.new, s.own⟩
theorem wipe_eq {σ σ' : St} {vs : List Nat} (hl : σ'.length = (wipe σ vs).length) (h : ∀ j, j ∉ vs → σ'[j]? = (wipe σ vs)[j]?) : wipe σ' vs = wipe σ vs := by
  refine List.ext_getElem? fun j => ?_
  by_cases hj : j ∈ vs
  · have none_at : ∀ (τ : St), (wipe τ vs)[j]? = if j < τ.length then some none else none := fun τ => by
      have w : ∀ (vs : List Nat), j ∈ vs → (wipe τ vs)[j]? = if j < τ.length then some none else none := by
        intro vs
        induction vs with
        | nil => intro h; cases h
        | cons v vs ih =>
          intro h
          unfold wipe
          by_cases e : v = j
          · subst e
            by_cases hlt : v < τ.length
            · rw [List.getElem?_set_self (by rw [wipe_length]; exact hlt), if_pos hlt]
            · rw [List.getElem?_eq_none (by rw [List.length_set, wipe_length]; omega), if_neg hlt]
          · rw [List.getElem?_set_ne e]
            rcases List.mem_cons.mp h with h | h
            · exact absurd h.symm e
            · exact ih h
      exact w vs hj
    rw [none_at, none_at, hl, wipe_length]
  · rw [wipe_out hj, h j hj]
end
end Y
set_option Elab.async false
set_option linter.all false
set_option maxRecDepth 100000
set_option maxHeartbeats 4000000
/-! Y9: the reading of a comprehension. -/
namespace Y
open PySem PySem.Spec L2
open PyProof.Rows hiding St

/-- one turn -/
def lcStep (C : Env) (elt : Ex) (tg : Tg) (own : List Nat) (ifs : List Ex) (x : D) (r : Rho) : Res (Option D) := match tgS tg x (wip r own) with
  | some r1 => (evT C ifs r1).el (fun b r2 => if b = true then (evO C elt r2).el (fun y r3 => .ok (some y.fz) (wip r3 own)) (fun _ _ => .stuck) .stuck else .ok none (wip r2 own)) (fun _ _ => .stuck) .stuck
  | none => .stuck
theorem evO_lc (C : Env) (elt : Ex) (tg : Tg) (own : List Nat) (it : Ite) (ifs : List Ex) (r : Rho) : evO C (.lc elt tg own it ifs) r = (evI C it r).bind fun xs r => (lcGo (lcStep C elt tg own ifs) xs [] (wip r own)).el (fun ys r' => .ok (.lst true ys) (unwip r r' own)) (fun _ _ => .stuck) .stuck := by
  simp only [evO]
  rfl
section
variable {K : PySem.W.Frag} {ec : Ec} {W : WX} {σ : St} {H : Hp}
theorem bndI {M : Type} {me : Exc → Rho → M} {ms : M} {E : FS → (Nat → List Addr) → Hp → M → Prop} {F : FS} {fp : Nat → List Addr} {r : Rho} (I : IsEnd K ec W σ me ms E) {f : Rho → Res (List D)} {k : List D → Rho → M} {Q : It → Hp → Prop} (R : Rel K F fp H σ r) (h : E F fp H ((f r).el k me ms))
    (ok : ∀ d r1 F1 fp1 H1 J, HV H1 → Step fp F H fp1 F1 H1 → Rel K F1 fp1 H1 σ r1 → d.length ≤ sizeLine → WalkD K F1 H1 J d → E F1 fp1 H1 (k d r1) → Q J H1) : tI K ec W f σ H Q := by
  intro hv
  refine ⟨F, fp, r, R, ?_⟩
  cases e : f r with
  | ok d r1 =>
    rw [e] at h
    exact fun F1 fp1 H1 J hv1 s1 R1 hl w => ok d r1 F1 fp1 H1 J hv1 s1 R1 hl w (I.later _ _ _ _ _ _ _ s1 h)
  | exc x r1 => rw [e] at h; exact I.exc _ _ _ _ _ h
  | stuck => rw [e] at h; exact I.stuck _ _ _ h
/-- the end of a comprehension: the list is there, the outer slots again -/
theorem lc_end {F1 F : FS} {fp1 fp : Nat → List Addr} {H1 : Hp} {own : List Nat} {L : Addr} {r1 r2 : Rho} {acc : List D} {vs : List V} (hL : H1 L = none) (R1 : Rel K F1 fp1 H1 σ r1) (a : LcAt K F1 fp1 H1 own σ L r2 acc H F fp vs) :
    Got K F1 fp1 H1 σ F (fun j => if j ∈ own then fp1 j else fp j) H (unwip r1 r2 own) (.lst true acc) (.ref L) [L] := by
  have hl2 : r2.length = r1.length := by
    rw [a.rel.len, wipe_length]; exact R1.len.symm
  have fpw : ∀ b, (∀ k, b ∉ (fun j => if j ∈ own then [] else fp1 j) k) ↔ ∀ k, k ∉ own → b ∉ fp1 k := fun b =>
    ⟨fun h k hk z => h k (by show b ∈ (if k ∈ own then [] else fp1 k); rw [if_neg hk]; exact z), fun h k z => by
      have z : b ∈ (if k ∈ own then [] else fp1 k) := z
      split at z
      · cases z
      · rename_i hk; exact h k hk z⟩
  have outer : ∀ j b, j ∈ own → b ∈ fp1 j → H b = H1 b ∧ ¬ F b ∧ ∀ k, k ∉ own → b ∉ fp k := fun j b hj hb => by
    obtain ⟨o, ho⟩ := R1.fpT hb
    have nin : ∀ k, k ∉ own → b ∉ fp1 k := fun k hk z => R1.dis j k b (fun e => hk (e ▸ hj)) hb z
    refine ⟨by rw [ho]; exact a.st.keep b o ho ((fpw b).mpr nin), fun z => ?_, fun k hk z => ?_⟩
    · rcases a.st.new b z with z | z | ⟨k, z⟩
      · exact R1.nF j b hb z
      · rw [ho] at z; cases z
      · exact (fpw b).mpr nin k z
    · rcases a.st.own k b z with z | ⟨m, z⟩
      · rw [ho] at z; cases z
      · exact (fpw b).mpr nin m z
  refine ⟨⟨a.st.sub, fun b o e n => a.st.keep b o e ((fpw b).mpr fun k _ => n k), fun b z => ?_, fun j b z => ?_⟩, ⟨by rw [unwip_len, hl2]; exact R1.len, fun j d e => ?_, fun j e => ?_, fun j k b n h => ?_, fun j b h z => ?_, a.rel.trF⟩, ⟨L, vs, rfl, a.at_, a.acc, rfl⟩, fun b h => ?_, fun b j h => ?_, fun b h => ?_⟩
  · rcases a.st.new b z with z | z | ⟨k, z⟩
    · exact .inl z
    · exact .inr (.inl z)
    · have z : b ∈ (if k ∈ own then [] else fp1 k) := z
      split at z
      · cases z
      · exact .inr (.inr ⟨k, z⟩)
  · by_cases hj : j ∈ own
    · rw [if_pos hj] at z; exact .inr ⟨j, z⟩
    · rw [if_neg hj] at z
      rcases a.st.own j b z with z | ⟨k, z⟩
      · exact .inl z
      · have z : b ∈ (if k ∈ own then [] else fp1 k) := z
        split at z
        · cases z
        · exact .inr ⟨k, z⟩
  · by_cases hj : j ∈ own
    · rw [unwip_in r1 r2 hl2 hj] at e
      obtain ⟨v, e1, o⟩ := R1.slot j d e
      refine ⟨v, e1, ?_⟩
      rw [if_pos hj]
      refine o.mono a.st.sub (fun b z => ?_) fun b z => (outer j b hj z).1
      obtain ⟨u, hu⟩ := R1.trF b z
      rw [hu]
      exact a.st.keep b u hu ((fpw b).mpr fun k _ w => R1.nF k b w z)
    · rw [unwip_out r1 r2 hj] at e
      obtain ⟨v, e1, o⟩ := a.rel.slot j d e
      rw [wipe_out hj] at e1
      exact ⟨v, e1, by rw [if_neg hj]; exact o⟩
  · by_cases hj : j ∈ own
    · rw [if_pos hj]
      exact R1.out j fun d h => e d (by rw [unwip_in r1 r2 hl2 hj]; exact h)
    · rw [if_neg hj]
      exact a.rel.out j fun d h => e d (by rw [unwip_out r1 r2 hj]; exact h)
  · by_cases hj : j ∈ own
    · rw [if_pos hj] at h
      by_cases hk : k ∈ own
      · rw [if_pos hk]; exact R1.dis j k b n h
      · rw [if_neg hk]; exact (outer j b hj h).2.2 k hk
    · rw [if_neg hj] at h
      by_cases hk : k ∈ own
      · rw [if_pos hk]
        exact fun z => (outer k b hk z).2.2 j hj h
      · rw [if_neg hk]; exact a.rel.dis j k b n h
  · by_cases hj : j ∈ own
    · rw [if_pos hj] at h; exact (outer j b hj h).2.1 z
    · rw [if_neg hj] at h; exact a.rel.nF j b h z
  · have e : b = L := by simpa using h
    rw [e]; exact a.nF
  · have e : b = L := by simpa using h
    subst e
    by_cases hj : j ∈ own
    · rw [if_pos hj]
      intro z
      obtain ⟨u, hu⟩ := R1.fpT z
      rw [hL] at hu; cases hu
    · rw [if_neg hj]; exact a.nfp j
  · have e : b = L := by simpa using h
    rw [e]; exact .inl hL
/-- the reading of a comprehension -/
theorem lc_read {C : Env} {elt : Ex} {tg : Tg} {own : List Nat} {it : Ite} {ifs : List Ex} {Q : VK} (hsl : ∀ j, j ∈ slT tg → j ∈ own) (hv : HV H) (h : tO K ec W (evO C (.lc elt tg own it ifs)) σ H Q) :
    tLc (tI K ec W (evI C it)) (gT K tg) (tB K ec WF (evT C ifs)) (tR K ec WF (evO C elt)) own σ H fun v H' => HV H' → Q v H' := by
  obtain ⟨F, fp, r, R, y⟩ := tO_open hv h
  rw [evO_lc] at y
  refine bndI isO R y fun ds r1 F1 fp1 H1 J hv1 s1 R1 hlen w y => ?_
  intro L hL
  cases ey : lcGo (lcStep C elt tg own ifs) ds [] (wip r1 own) with
  | exc x r2 => rw [ey] at y; exact y.elim
  | stuck => rw [ey] at y; exact y.elim
  | ok ys r' =>
    rw [ey] at y
    have y : EndO K ec W σ Q F1 fp1 H1 (.ok (.lst true ys) (unwip r1 r' own)) := y
    let fpw : Nat → List Addr := fun j => if j ∈ own then [] else fp1 j
    let P : Nat → Hp → Prop := fun i H => ∃ F fp vs r2 acc, LcAt K F1 fp1 H1 own σ L r2 acc H F fp vs ∧ vs.length ≤ i ∧ lcGo (lcStep C elt tg own ifs) (ds.drop i) acc r2 = .ok ys r'
    refine ⟨fun i m H => m = ds.length - i ∧ i ≤ ds.length ∧ P i H, ⟨ds.length, by simp, Nat.zero_le _, F1, fpw, [], wip r1 own, [], ?_, Nat.le_refl _, ey⟩, ?_⟩
    · have Rw : Rel K F1 fpw H1 (wipe σ own) (wip r1 own) := R1.drop _ (wipe_length σ own) own (fun j hj => wipe_out hj) _ (wip_len r1 own) (fun j hj => wip_in r1 hj) fun j hj => wip_out r1 hj
      have nF : ¬ F1 L := fun z => by
        obtain ⟨u, hu⟩ := R1.trF L z
        rw [hL] at hu; cases hu
      refine ⟨Rw.newer (.own hL), upd_same, rfl, nF, fun j z => ?_, step_upd .refl hL, fun j hj => wip_in r1 hj⟩
      obtain ⟨u, hu⟩ := Rw.fpT z
      rw [hL] at hu; cases hu
    · rintro i m H2 ⟨rfl, hi, F2, fp2, vs, r2, acc, a, hvl, eg⟩
      have ext : ∀ b, F1 b → H2 b = H1 b := fun b z => by
        obtain ⟨u, hu⟩ := R1.trF b z
        rw [hu]
        refine a.st.keep b u hu fun k w => ?_
        have w : b ∈ (if k ∈ own then [] else fp1 k) := w
        split at w
        · cases w
        · exact R1.nF k b w z
      by_cases hlt : i < ds.length
      · right
        refine ⟨w.goes i H2 hlt ext, P (i + 1), fun H' p => ⟨ds.length - (i + 1), by omega, rfl, hlt, p⟩, fun x H3 yl => ?_⟩
        have hd : ds[i]? = some ds[i] := List.getElem?_eq_getElem hlt
        obtain ⟨F3, nw, zx⟩ := w.yields i H2 x H3 ds[i] F2 hd ext a.st.sub a.rel.trF yl
        have hdrop : ds.drop i = ds[i] :: ds.drop (i + 1) := List.drop_eq_getElem_cons hlt
        rw [hdrop] at eg
        unfold lcGo at eg
        obtain ⟨b1, b2, b3, b4, b5⟩ := a.go (nw.step (fp := fp2))
        have R3 : Rel K F3 (fun j => if j ∈ own then [] else fp2 j) H3 (wipe σ own) (wip r2 own) := (a.rel.newer nw).drop _ rfl own (fun _ _ => rfl) _ (wip_len r2 own) (fun j hj => wip_in r2 hj) fun j hj => wip_out r2 hj
        intro hv3
        unfold lcStep at eg
        cases et : tgS tg ds[i] (wip r2 own) with
        | none => rw [et] at eg; cases eg
        | some r3 =>
          rw [et] at eg
          refine ⟨F3, _, wip r2 own, ds[i], r3, R3, zx, et, fun σ4 fp4 R4 hf4 hl4 hσ4 => ⟨wipe_eq hl4 fun j hj => hσ4 j fun z => hj (hsl j z), ?_⟩⟩
          have hf4' : ∀ j b, b ∈ fp4 j → ∃ k, b ∈ fp2 k := fun j b z => by
            obtain ⟨k, z⟩ := hf4 j b z
            by_cases hk : k ∈ own
            · rw [if_pos hk] at z; cases z
            · rw [if_neg hk] at z; exact ⟨k, z⟩
          -- the turn's end
          have fin : ∀ (r5 : Rho) (o : Option D) (F5 : FS) (fp5 : Nat → List Addr) (H5 : Hp) (us : List V) (acc' : List D), Step fp4 F3 H3 fp5 F5 H5 → Rel K F5 fp5 H5 σ4 r5 →
              Frzs K F5 H5 acc' us → us.length ≤ i + 1 → lcGo (lcStep C elt tg own ifs) (ds.drop (i + 1)) acc' (wip r5 own) = .ok ys r' → P (i + 1) (upd H5 L (.lst us)) := by
            intro r5 o F5 fp5 H5 us acc' s5 R5 zs hul eg5
            have s35 : Step fp2 F3 H3 fp5 F5 H5 := (step_fewer hf4').trans s5
            have nF5 : ¬ F5 L := fun z => by
              rcases s35.new L z with z | z | ⟨k, z⟩
              · exact b3 z
              · rw [b1] at z; cases z
              · exact b4 k z
            have nfp5 : ∀ j, L ∉ fp5 j := fun j z => by
              rcases s35.own j L z with z | ⟨k, z⟩
              · rw [b1] at z; cases z
              · exact b4 k z
            have R6 : Rel K F5 (fun j => if j ∈ own then [] else fp5 j) H5 (wipe σ own) (wip r5 own) := R5.drop _ hl4.symm own (fun j hj => (hσ4 j fun z => hj (hsl j z)).symm) _ (wip_len r5 own) (fun j hj => wip_in r5 hj) fun j hj => wip_out r5 hj
            have sub : ∀ j b, b ∈ (if j ∈ own then [] else fp5 j) → b ∈ fp5 j := fun j b z => by
              split at z
              · cases z
              · exact z
            refine ⟨F5, _, us, wip r5 own, acc', ⟨R6.free nF5 fun j z => nfp5 j (sub j L z), upd_same, Frzs.mono (fun _ z => z) (fun b z => upd_ne (fun q : b = L => nF5 (q ▸ z))) _ _ zs, nF5, fun j z => nfp5 j (sub j L z), step_upd ((b5.trans s35).trans (step_fewer fun j b z => ⟨j, sub j b z⟩)) hL, fun j hj => wip_in r5 hj⟩, hul, eg5⟩
          refine tB_of R4 (fun e => ?_) (fun b r4 e F5 fp5 H5 hv5 s5 R5 => ?_) fun x r4 e => ?_
          · simp only [e, Res.el] at eg; cases eg
          · simp only [e, Res.el] at eg
            have s35 : Step fp2 F3 H3 fp5 F5 H5 := (step_fewer hf4').trans s5
            have zacc : Frzs K F5 H5 acc vs := s35.frzs (a.rel.newer nw) b2
            have atL : H5 L = some (.lst vs) := s35.keep L _ b1 b4
            cases b with
            | true =>
              rw [if_pos rfl] at eg ⊢
              refine tR_of R5 (fun e2 => ?_) (fun dy r6 e2 F6 fp6 H6 v hv6 s6 R6 zv => ?_) fun x r6 e2 => ?_
              · simp only [e2] at eg; cases eg
              · simp only [e2] at eg
                have nfp5 : ∀ j, L ∉ fp5 j := fun j z => by
                  rcases s35.own j L z with z | ⟨k, z⟩
                  · rw [b1] at z; cases z
                  · exact b4 k z
                refine ⟨vs, s6.keep L _ atL nfp5, ?_, ?_⟩
                · have : i < sizeLine := Nat.lt_of_lt_of_le hlt hlen
                  omega
                · exact fin r6 none F6 fp6 H6 (vs ++ [v]) (acc ++ [dy.fz]) (s5.trans s6) R6 ((s6.frzs R5 zacc).app ⟨v, [], rfl, zv, rfl⟩) (by rw [List.length_append]; simp; exact hvl) eg
              · simp only [e2] at eg; cases eg
            | false =>
              rw [if_neg (by decide)] at eg ⊢
              have q := fin r4 none F5 fp5 H5 vs acc s5 R5 zacc (by omega) eg
              rw [show upd H5 L (.lst vs) = H5 from funext fun b => by
                unfold upd
                split
                · rename_i e; rw [e, atL]
                · rfl] at q
              exact q
          · simp only [e, Res.el] at eg; cases eg
      · have e : i = ds.length := by omega
        subst e
        left
        refine ⟨w.stops H2 ext, fun hv2 => ?_⟩
        rw [List.drop_length] at eg
        unfold lcGo at eg
        cases eg
        exact y F2 _ H2 _ [L] hv2 (lc_end hL R1 a)
end
end Y
set_option Elab.async false
set_option linter.all false
set_option maxRecDepth 100000
set_option maxHeartbeats 4000000
/-! Y10: statements. -/
namespace Y
open PySem PySem.Spec L2
open PyProof.Rows hiding St

/-! ### comprehensions, as values -/
section
variable {X : Cx} {ec : Ec} {W : WX} {C : Env}
/-- a comprehension's parts hold in every block -/
structure LcOk (X : Cx) (ec : Ec) (W : WX) (C : Env) (elt tg iter : Expr) (ifs : List Expr) (scope : Scope) (own : List (Str × Nat)) (ie : Ex) (it : Tg) (ii : Ite) (ic : List Ex) : Prop where
  hi : PI X tg iter (tI X.K ec W (evI C ii))
  ok : BlkOk X.N X.env.scope scope own
  hg : ∀ (s : Shared) (H : Hp) (A : Addr) (cl : List (Str × Addr)) (fp : List Addr), PG (X.blk s H scope (compEnvC scope cl A X.env) fp) tg (gT X.K it)
  ht : ∀ (s : Shared) (H : Hp) (A : Addr) (cl : List (Str × Addr)) (fp : List Addr), PTs (X.blk s H scope (compEnvC scope cl A X.env) fp) ifs (tB X.K ec WF (evT C ic))
  he : ∀ (s : Shared) (H : Hp) (A : Addr) (cl : List (Str × Addr)) (fp : List Addr), PEo (X.blk s H scope (compEnvC scope cl A X.env) fp) ec WF C elt ie
  hs : ∀ x, foldedSetIterable iter X.env x = pure x
  sl : ∀ j, j ∈ slT it → j ∈ own.map (·.2)
theorem de_lc {elt tg iter : Expr} {ifs : List Expr} {scope : Scope} {own : List (Str × Nat)} {ie : Ex} {it : Tg} {ii : Ite} {ic : List Ex} {pos : Pos} (hc : X.calm = true) (hN : X.N.Nodup) (L : LcOk X ec W C elt tg iter ifs scope own ie it ii ic) :
    PEo X ec W C (.ListComp elt [⟨tg, iter, ifs, 0⟩] scope pos) (.lc ie it (own.map (·.2)) ii ic) :=
  pe_mono (pe_lc hc hN L.hi L.ok L.hg L.ht (fun s H A cl fp => pe_share (X := X.blk s H scope (compEnvC scope cl A X.env) fp) (L.he s H A cl fp)) L.hs) fun σ H Q hv h => lc_read L.sl hv h
end
/-! ### statements -/
def Agr (pr : List Nat) (σ0 σ : St) : Prop := σ.length = σ0.length ∧ ∀ i, i ∈ pr → σ[i]? = σ0[i]?
theorem Agr.refl {pr : List Nat} {σ : St} : Agr pr σ σ := ⟨rfl, fun _ _ => rfl⟩
theorem Agr.trans {pr : List Nat} {σ0 σ1 σ2 : St} (a : Agr pr σ0 σ1) (b : Agr pr σ1 σ2) : Agr pr σ0 σ2 := ⟨b.1.trans a.1, fun i h => (b.2 i h).trans (a.2 i h)⟩
def EndS (K : PySem.W.Frag) (ec : Ec) (W : WX) (pr : List Nat) (σ0 : St) (E : Ends) (F : FS) (fp : Nat → List Addr) (H : Hp) (m : Out) : Prop := match m with
  | .nx r' => ∀ F' fp' H' σ', HV H' → Step fp F H fp' F' H' → Rel K F' fp' H' σ' r' → Agr pr σ0 σ' → E.nx σ' H'
  | .bk r' => ∀ F' fp' H' σ', HV H' → Step fp F H fp' F' H' → Rel K F' fp' H' σ' r' → Agr pr σ0 σ' → E.bk σ' H'
  | .ct r' => ∀ F' fp' H' σ', HV H' → Step fp F H fp' F' H' → Rel K F' fp' H' σ' r' → Agr pr σ0 σ' → E.ct σ' H'
  | .rt d r' => ∀ F' fp' H' σ' v q, HV H' → Got K F fp H σ' F' fp' H' r' d v q → Agr pr σ0 σ' → E.rt v H'
  | .exc x r' => ∀ F' fp' H' σ' c dx, Step fp F H fp' F' H' → Rel K F' fp' H' σ' r' → Agr pr σ0 σ' → ExcAt K ec.cls ec.nms F' H' x c dx → W c dx σ' H'
  | .stuck => False
def tS (K : PySem.W.Frag) (ec : Ec) (W : WX) (pr : List Nat) (f : Rho → Out) : TS := fun E σ H => HV H → ∃ F fp r, Rel K F fp H σ r ∧ EndS K ec W pr σ E F fp H (f r)
theorem isS {K : PySem.W.Frag} {ec : Ec} {W : WX} {pr : List Nat} {σ0 σ : St} {E : Ends} (a : Agr pr σ0 σ) : IsEnd K ec W σ Out.exc Out.stuck (EndS K ec W pr σ0 E) where
  stuck := fun _ _ _ h => h
  exc := fun _ _ _ _ _ h F' fp' H' c dx s R z => h F' fp' H' σ c dx s R a z
  later := fun F fp H F1 fp1 H1 m s h => by
    cases m with
    | nx r' => exact fun F' fp' H' σ' hv s' R' a' => h F' fp' H' σ' hv (s.trans s') R' a'
    | bk r' => exact fun F' fp' H' σ' hv s' R' a' => h F' fp' H' σ' hv (s.trans s') R' a'
    | ct r' => exact fun F' fp' H' σ' hv s' R' a' => h F' fp' H' σ' hv (s.trans s') R' a'
    | rt d r' => exact fun F' fp' H' σ' v q hv g a' => h F' fp' H' σ' v q hv (g.later s) a'
    | exc x r' => exact fun F' fp' H' σ' c dx s' R' a' z => h F' fp' H' σ' c dx (s.trans s') R' a' z
    | stuck => exact h
def Ends.hv (E : Ends) : Ends := ⟨fun σ H => HV H → E.nx σ H, fun v H => HV H → E.rt v H, fun σ H => HV H → E.bk σ H, fun σ H => HV H → E.ct σ H⟩
theorem sp_hv {X : Cx} {pins : List (Addr × Obj)} {E : Ends} {f : Flow} {s : Shared} (h : SP X pins (Ends.hv E) f s) : SP X pins E f s := by
  cases f with
  | next => obtain ⟨σ, H, I, z⟩ := h; exact ⟨σ, H, I, z (hv_of I)⟩
  | brk => obtain ⟨σ, H, I, z⟩ := h; exact ⟨σ, H, I, z (hv_of I)⟩
  | cont => obtain ⟨σ, H, I, z⟩ := h; exact ⟨σ, H, I, z (hv_of I)⟩
  | ret u => obtain ⟨v, σ, H, I, rv, z⟩ := h; exact ⟨v, σ, H, I, rv, z (hv_of I)⟩
theorem ps_mono {X : Cx} {st : Stmt} {t t' : TS} (h : PS X st t) (i : ∀ E σ H, HV H → t' E σ H → t (Ends.hv E) σ H) : PS X st t' := ⟨fun pins s σ H E I q => thn (h.run pins s σ H _ I (i E σ H (hv_of I) q)) fun f s' z => sp_hv z⟩
theorem pss_mono {X : Cx} {st : List Stmt} {t t' : TS} (h : PSs X st t) (i : ∀ E σ H, HV H → t' E σ H → t (Ends.hv E) σ H) : PSs X st t' := ⟨fun pins s σ H E I q => thn (h.run pins s σ H _ I (i E σ H (hv_of I) q)) fun f s' z => sp_hv z⟩
section
variable {X : Cx} {ec : Ec} {W : WX} {C : Env} {w : Nat} {pr : List Nat}
abbrev PSt (X : Cx) (ec : Ec) (W : WX) (C : Env) (w : Nat) (pr : List Nat) (st : Stmt) (i : Sx) : Prop := PS X st (tS X.K ec W pr (evS C w i))
abbrev PSts (X : Cx) (ec : Ec) (W : WX) (C : Env) (w : Nat) (pr : List Nat) (st : List Stmt) (i : List Sx) : Prop := PSs X st (tS X.K ec W pr (evSs C w i))
def noComp : Expr → Bool
  | .ListComp _ _ _ _ => false
  | .SetComp _ _ _ _ => false
  | .DictComp _ _ _ _ _ => false
  | _ => true
theorem swaps_no {e : Expr} {t : Option Expr} {l : Nat} {env : PySem.Env} (h : noComp e = true) : swapsWith e t l env = pure false := by
  cases e <;> first | rfl | cases h
theorem sole_no {t e : Expr} {l : Nat} {env : PySem.Env} (h : noComp e = true) : swapsWithSole [t] e l env = pure false := swaps_no (t := some t) h
theorem ds_expr {e : Expr} {i : Ex} {pos : Pos} (he : PEo X ec W C e i) (hn : noComp e = true) : PSt X ec W C w pr (.Expr e pos) (.expr i) :=
  ps_mono (ps_expr he (swaps_no hn)) fun E σ H hv z => by
    obtain ⟨F, fp, r, R, y⟩ := z hv
    simp only [evS] at y
    show tO _ _ _ _ σ H _
    refine bndO (isS .refl) R y fun d r1 F1 fp1 H1 v q hv1 g y => ?_
    exact fun hv2 => y F1 fp1 H1 σ hv2 g.st g.rel .refl
theorem ds_ret {e : Expr} {i : Ex} {pos : Pos} (he : PEo X ec W C e i) : PSt X ec W C w pr (.Return (some e) pos) (.ret i) :=
  ps_mono (ps_ret he) fun E σ H hv z => by
    obtain ⟨F, fp, r, R, y⟩ := z hv
    simp only [evS] at y
    show tO _ _ _ _ σ H _
    refine bndO (isS .refl) R y fun d r1 F1 fp1 H1 v q hv1 g y => ?_
    exact fun hv2 => y F1 fp1 H1 σ v q hv2 g .refl
theorem ds_pass {pos : Pos} : PSt X ec W C w pr (.Pass pos) .pass := ps_mono ps_pass fun E σ H hv z => by
  obtain ⟨F, fp, r, R, y⟩ := z hv
  exact fun hv2 => y F fp H σ hv2 .refl R .refl
theorem ds_brk {pos : Pos} : PSt X ec W C w pr (.Break pos) .brk := ps_mono ps_break fun E σ H hv z => by
  obtain ⟨F, fp, r, R, y⟩ := z hv
  exact fun hv2 => y F fp H σ hv2 .refl R .refl
theorem ds_cnt {pos : Pos} : PSt X ec W C w pr (.Continue pos) .cnt := ps_mono ps_continue fun E σ H hv z => by
  obtain ⟨F, fp, r, R, y⟩ := z hv
  exact fun hv2 => y F fp H σ hv2 .refl R .refl
/-- a slot not protected is set -/
theorem agr_set {σ : St} {i : Nat} {v : V} (h : i ∉ pr) : Agr pr σ (σ.set i (some v)) := ⟨by rw [List.length_set], fun j hj => List.getElem?_set_ne (fun e : i = j => h (e ▸ hj))⟩
theorem put_step {K : PySem.W.Frag} {F F1 : FS} {fp fp1 : Nat → List Addr} {H H1 : Hp} {σ : St} {r1 : Rho} {d : D} {v : V} {q : List Addr} {i : Nat} (g : Got K F fp H σ F1 fp1 H1 r1 d v q) (hi : i < r1.length) :
    Step fp F H (fun j => if j = i then q else fp1 j) F1 H1 ∧ Rel K F1 (fun j => if j = i then q else fp1 j) H1 (σ.set i (some v)) (r1.set i (some d)) := by
  refine ⟨⟨g.st.sub, g.st.keep, g.st.new, fun j a z => ?_⟩, g.rel.put hi g.own g.qF g.qfp⟩
  by_cases y : j = i
  · rw [if_pos y] at z; exact g.qnew a z
  · rw [if_neg y] at z; exact g.st.own j a z
theorem tLc_mono {K : PySem.W.Frag} {f : Rho → Res (List D)} {g : TG} {tt : TT} {te : TE} {vs : List Nat} {σ : St} {H : Hp} {Q Q' : VK} (h : tLc (tI K ec W f) g tt te vs σ H Q) (i : ∀ v H, Q v H → Q' v H) : tLc (tI K ec W f) g tt te vs σ H Q' := by
  intro hv
  obtain ⟨F, fp, r, R, y⟩ := h hv
  refine ⟨F, fp, r, R, ?_⟩
  cases e : f r with
  | ok ds r' =>
    rw [e] at y
    intro F' fp' H' J hv' s R' hl w L hL
    obtain ⟨W, h0, hs⟩ := y F' fp' H' J hv' s R' hl w L hL
    refine ⟨W, h0, fun k m H w => ?_⟩
    rcases hs k m H w with ⟨a, b⟩ | b
    · exact .inl ⟨a, i _ _ b⟩
    · exact .inr b
  | exc x r' => rw [e] at y; exact y
  | stuck => rw [e] at y; exact y
/-- name = e, by a reading that stores -/
theorem asg_read {K : PySem.W.Frag} {i : Nat} {e : Ex} {E : Ends} {σ : St} {H : Hp} (hp : i ∉ pr) (hv : HV H) (z : tS K ec W pr (evS C w (.asg (.nm i) e)) E σ H) : tO K ec W (evO C e) σ H fun x H1 => (gName i) x σ H1 (Ends.hv E).nx := by
  obtain ⟨F, fp, r, R, y⟩ := z hv
  simp only [evS] at y
  refine bndO (isS .refl) R y fun d r1 F1 fp1 H1 v q hv1 g y => ?_
  intro hv2
  split at y
  · rename_i hi
    obtain ⟨s2, R2⟩ := put_step g hi
    exact y _ _ _ _ hv2 s2 R2 (agr_set hp)
  · exact y.elim
theorem ds_set {i : Nat} {x : Str} {e : Expr} {ie : Ex} {pos pos' : Pos} (hN : X.N.Nodup) (hi : X.N[i]? = some x) (hx : Loc X.env.scope x) (hf : X.fn x = true ∨ X.env.scope.names.lookup x = some .local) (hp : i ∉ pr) (he : PEo X ec W C e ie) (hn : swapsWith e (some (.Name x pos')) pos.line X.env = pure false) : PSt X ec W C w pr (.Assign [.Name x pos'] e pos) (.asg (.nm i) ie) :=
  ps_mono (ps_set hN hi hx he hn hf) fun E σ H hv z => asg_read hp hv z
theorem ds_setLc {i : Nat} {x : Str} {elt tg iter : Expr} {ifs : List Expr} {scope : Scope} {own : List (Str × Nat)} {ie : Ex} {it : Tg} {ii : Ite} {ic : List Ex} {lpos pos pos' : Pos} (hc : X.calm = true) (hN : X.N.Nodup) (hi : X.N[i]? = some x) (hx : X.env.scope.names.lookup x = some .local) (hp : i ∉ pr)
    (hsw : swapsWith (.ListComp elt [⟨tg, iter, ifs, 0⟩] scope lpos) (some (.Name x pos')) pos.line X.env = pure true) (L : LcOk X ec W C elt tg iter ifs scope own ie it ii ic) :
    PSt X ec W C w pr (.Assign [.Name x pos'] (.ListComp elt [⟨tg, iter, ifs, 0⟩] scope lpos) pos) (.asg (.nm i) (.lc ie it (own.map (·.2)) ii ic)) := by
  have hE : ∀ (s : Shared) (H : Hp) (A : Addr) (cl : List (Str × Addr)) (fp : List Addr), PE (X.blk s H scope (compEnvC scope cl A X.env) fp) elt (tR X.K ec WF (evO C ie)) := fun s H A cl fp => pe_share (X := X.blk s H scope (compEnvC scope cl A X.env) fp) (L.he s H A cl fp)
  refine ps_mono (ps_setLc hc hN hi hx hsw L.hi L.ok L.hg L.ht hE L.hs) fun E σ H hv z => ?_
  exact tLc_mono (lc_read L.sl hv (asg_read hp hv z)) fun v H' h hv2 => h hv2 hv2
/-- several targets -/
theorem ds_tp {tgx e : Expr} {t : Tg} {ie : Ex} {pos : Pos} (he : PEo X ec W C e ie) (hg : PG X tgx (gT X.K t)) (ht : ∀ i, t ≠ .nm i) (hp : ∀ i, i ∈ slT t → i ∉ pr) (hs : swapsWithSole [tgx] e pos.line X.env = pure false) (hw : swappedStores [tgx] e X.env = pure none) (st : isStar tgx = false) : PSt X ec W C w pr (.Assign [tgx] e pos) (.asg t ie) :=
  ps_mono (ps_asg (pe_share he) hg hs hw (by rw [assign_ok st]; rfl)) fun E σ H hv z => by
    obtain ⟨F, fp, r, R, y⟩ := z hv
    simp only [evS] at y
    show tR _ _ _ _ σ H _
    refine bndR (isS .refl) R y fun d r1 F1 fp1 H1 v hv1 s1 R1 zf y => ?_
    intro hv2
    cases t with
    | nm i => exact absurd rfl (ht i)
    | tp ts =>
      have y : EndS X.K ec W pr σ E F1 fp1 H1 (match tgS (.tp ts) d.fz r1 with
        | some r' => .nx r'
        | none => .stuck) := y
      cases e : tgS (.tp ts) d.fz r1 with
      | none => rw [e] at y; exact y.elim
      | some r' =>
        rw [e] at y
        refine ⟨F1, fp1, r1, d.fz, r', R1, zf, e, fun σ' fp' R' hf hl hσ hv3 => ?_⟩
        exact y F1 fp' H1 σ' hv3 (step_fewer hf) R' ⟨hl, fun i hi => hσ i fun z => hp i z hi⟩
theorem ds_par {i j : Nat} {x y : Str} {a b : Expr} {ia ib : Ex} {px py pt pos : Pos} {kt k2 pt2} (hc : X.calm = true) (hN : X.N.Nodup) (hi : X.N[i]? = some x) (hj : X.N[j]? = some y) (hx : X.env.scope.names.lookup x = some .local) (hy : X.env.scope.names.lookup y = some .local)
    (hpi : i ∉ pr) (hpj : j ∉ pr) (hij : i ≠ j) (ha : PEo X ec W C a ia) (hb : PEo X ec W C b ib) (sa : isStar a = false) (sb : isStar b = false) (hw : swappedStores [.Tuple [.Name x px, .Name y py] kt pt] (.Tuple [a, b] k2 pt2) X.env = pure (some [x, y])) :
    PSt X ec W C w pr (.Assign [.Tuple [.Name x px, .Name y py] kt pt] (.Tuple [a, b] k2 pt2) pos) (.par i j ia ib) :=
  ps_mono (ps_par hc hN hi hj hij hx hy (pa_cons (pe_share ha) (pa_cons (pe_share hb) pa_nil (star_ok sb)) (star_ok sa)) hw (sole_no rfl)) fun E σ H hv z => by
    obtain ⟨F, fp, r, R, y⟩ := z hv
    simp only [evS] at y
    show tR _ _ _ _ σ H _
    refine bndR (isS .refl) R y fun d r1 F1 fp1 H1 v hv1 s1 R1 zf y => ?_
    refine bndR (isS .refl) R1 y fun d2 r2 F2 fp2 H2 v2 hv2 s2 R2 zf2 y => ?_
    refine ⟨v, v2, rfl, fun hv3 => ?_⟩
    split at y
    · rename_i h
      have g1 := Got.flat (.refl (fp := fp2) (F := F2) (H := H2)) R2 (s2.frz R1 zf)
      obtain ⟨s3, R3⟩ := put_step g1 h.2.1
      have g2 := Got.flat (d := d2) (v := v2) (.refl (fp := _) (F := F2) (H := H2)) R3 zf2
      obtain ⟨s4, R4⟩ := put_step g2 (i := j) (by rw [List.length_set]; exact h.2.2)
      exact y _ _ _ _ hv3 (s3.trans s4) R4 ((agr_set hpi).trans (agr_set hpj))
    · exact y.elim
/-- xs[i] = e, xs a slot's own list -/
theorem ds_setV {s : Nat} {x : Str} {ix e : Expr} {ii ie : Ex} {p ps pos : Pos} (hN : X.N[s]? = some x) (hv0 : Vis X.env.scope x) (hd : (x == ("__debug__" : Str)) = false) (hcd : (x == ("__classdict__" : Str)) = false) (hi : PEo X ec W C ix ii) (he : PEo X ec W C e ie) (hn : noComp e = true)
    (ha : ∀ v, assign (.Subscript (.Name x p) ix ps) X.env v = (do
      let ov ← holding [v] (eval (.Name x p) X.env)
      let iv ← holding [v, ov] (eval ix X.env)
      standAt ps
      holding [v, ov, iv] (setItem ov iv v)
      release [v, ov, iv] [])) : PSt X ec W C w pr (.Assign [.Subscript (.Name x p) ix ps] e pos) (.setV s ii ie) :=
  ps_mono (ps_asg (pe_share he) (pg_sub (pe_var hN hv0 hd hcd) (pe_share hi) set_list ha) (sole_no hn) (by rfl) (by rfl)) fun E σ H hv z => by
    obtain ⟨F, fp, r, R, y⟩ := z hv
    simp only [evS] at y
    show tR _ _ _ _ σ H _
    refine bndR (isS .refl) R y fun d r1 F1 fp1 H1 v hv1 s1 R1 zf y => ?_
    cases e0 : getS r1 s with
    | none => rw [e0] at y; exact y.elim
    | some d0 =>
      rw [e0] at y
      obtain ⟨u, e1, _⟩ := R1.slot s d0 (getS_some e0)
      refine ⟨u, e1, ?_⟩
      refine bndR (isS .refl) R1 y fun d2 r2 F2 fp2 H2 v2 hv2 s2 R2 zf2 y => ?_
      split at y
      · rename_i xs z e2 e3
        obtain ⟨u', e4, o⟩ := R2.slot s _ (getS_some e2)
        rw [e1] at e4
        cases e4
        obtain ⟨a, vs, rfl, h1, h2, h3⟩ := o
        rw [e3] at zf2
        cases zf2
        cases e5 : ixN xs.length z with
        | none => rw [e5] at y; exact y.elim
        | some n =>
          rw [e5] at y
          refine ⟨a, vs, z, n, rfl, rfl, h1, by rw [← h2.len]; exact e5, fun hv3 => ?_⟩
          have nF : ¬ F2 a := R2.nF s a (by rw [h3]; simp)
          have fr : ∀ b, F2 b → upd H2 a (.lst (vs.set n v)) b = H2 b := fun b z => upd_ne (fun q : b = a => nF (q ▸ z))
          have hs : s < r2.length := (List.getElem?_eq_some_iff.mp (getS_some e2)).1
          have nj : ∀ j, j ≠ s → a ∉ fp2 j := fun j hj z => R2.dis j s a hj z (by rw [h3]; simp)
          refine y F2 fp2 _ σ hv3 ⟨fun _ z => z, fun b o e n => ?_, fun _ z => .inl z, fun j b z => .inr ⟨j, z⟩⟩ ⟨by rw [List.length_set]; exact R2.len, fun j x e => ?_, fun j h => ?_, R2.dis, R2.nF, fun b z => by rw [fr b z]; exact R2.trF b z⟩ .refl
          · rw [upd_ne (fun q : b = a => n s (by rw [q, h3]; simp))]; exact e
          · by_cases hj : j = s
            · subst hj
              rw [List.getElem?_set_self hs] at e
              cases e
              exact ⟨_, e1, a, _, rfl, upd_same, (Frzs.mono (fun _ z => z) fr _ _ h2).set n (Frz.mono (fun _ z => z) fr _ _ (s2.frz R1 zf)), h3⟩
            · rw [List.getElem?_set_ne (Ne.symm hj)] at e
              obtain ⟨t, t1, t2⟩ := R2.slot j x e
              exact ⟨t, t1, t2.mono (fun _ z => z) fr fun b z => upd_ne (fun q : b = a => nj j hj (q ▸ z))⟩
          · refine R2.out j fun x e => ?_
            by_cases hj : j = s
            · subst hj
              exact h _ (List.getElem?_set_self hs)
            · exact h x (by rw [List.getElem?_set_ne (Ne.symm hj)]; exact e)
      · exact y.elim
theorem ds_nil : PSts X ec W C w pr [] [] := pss_mono pss_nil fun E σ H hv z => by
  obtain ⟨F, fp, r, R, y⟩ := z hv
  exact fun hv2 => y F fp H σ hv2 .refl R .refl
theorem EndS.seq {K : PySem.W.Frag} {σ : St} {H : Hp} {E : Ends} {F : FS} {fp : Nat → List Addr} {m : Out} {k : Rho → Out} (y : EndS K ec W pr σ E F fp H (m.seq k)) :
    EndS K ec W pr σ { Ends.hv E with nx := tS K ec W pr k (Ends.hv E) } F fp H m := by
  cases m with
  | nx r' =>
    intro F' fp' H' σ' hv s R a hv2
    refine ⟨F', fp', r', R, ?_⟩
    have y : EndS K ec W pr σ E F fp H (k r') := y
    have y := (isS (ec := ec) (W := W) (K := K) (E := E) (Agr.refl (pr := pr) (σ := σ))).later _ _ _ _ _ _ _ s y
    revert y
    cases k r' with
    | nx r'' => exact fun y F2 fp2 H2 σ2 hv s R a2 _ => y F2 fp2 H2 σ2 hv s R (a.trans a2)
    | bk r'' => exact fun y F2 fp2 H2 σ2 hv s R a2 _ => y F2 fp2 H2 σ2 hv s R (a.trans a2)
    | ct r'' => exact fun y F2 fp2 H2 σ2 hv s R a2 _ => y F2 fp2 H2 σ2 hv s R (a.trans a2)
    | rt d r'' => exact fun y F2 fp2 H2 σ2 v q hv g a2 _ => y F2 fp2 H2 σ2 v q hv g (a.trans a2)
    | exc x r'' => exact fun y F2 fp2 H2 σ2 c dx s R a2 z => y F2 fp2 H2 σ2 c dx s R (a.trans a2) z
    | stuck => exact fun y => y
  | bk r' => exact fun F2 fp2 H2 σ2 hv s R a2 _ => y F2 fp2 H2 σ2 hv s R a2
  | ct r' => exact fun F2 fp2 H2 σ2 hv s R a2 _ => y F2 fp2 H2 σ2 hv s R a2
  | rt d r' => exact fun F2 fp2 H2 σ2 v q hv g a2 _ => y F2 fp2 H2 σ2 v q hv g a2
  | exc x r' => exact y
  | stuck => exact y
theorem ds_cons {st : Stmt} {sts : List Stmt} {i : Sx} {is : List Sx} (h1 : PSt X ec W C w pr st i) (h2 : PSts X ec W C w pr sts is) : PSts X ec W C w pr (st :: sts) (i :: is) :=
  pss_mono (pss_cons h1 h2) fun E σ H hv z => by
    obtain ⟨F, fp, r, R, y⟩ := z hv
    simp only [evSs] at y
    exact fun _ => ⟨F, fp, r, R, EndS.seq y⟩
/-- the end of a block as the statement's end -/
theorem EndS.up {K : PySem.W.Frag} {σ σ1 : St} {H : Hp} {E : Ends} {F : FS} {fp : Nat → List Addr} {m : Out} (a : Agr pr σ σ1) (y : EndS K ec W pr σ E F fp H m) : EndS K ec W pr σ1 (Ends.hv E) F fp H m := by
  cases m with
  | nx r'' => exact fun F2 fp2 H2 σ2 hv s R a2 _ => y F2 fp2 H2 σ2 hv s R (a.trans a2)
  | bk r'' => exact fun F2 fp2 H2 σ2 hv s R a2 _ => y F2 fp2 H2 σ2 hv s R (a.trans a2)
  | ct r'' => exact fun F2 fp2 H2 σ2 hv s R a2 _ => y F2 fp2 H2 σ2 hv s R (a.trans a2)
  | rt d r'' => exact fun F2 fp2 H2 σ2 v q hv g a2 _ => y F2 fp2 H2 σ2 v q hv g (a.trans a2)
  | exc x r'' => exact fun F2 fp2 H2 σ2 c dx s R a2 z => y F2 fp2 H2 σ2 c dx s R (a.trans a2) z
  | stuck => exact y
theorem ds_if {c : Expr} {a b : List Stmt} {ic : Ex} {ia ib : List Sx} {pos : Pos} (hc : PTb X ec W C c ic) (ha : PSts X ec W C w pr a ia) (hb : PSts X ec W C w pr b ib) : PSt X ec W C w pr (.If c a b pos) (.ifs ic ia ib) :=
  ps_mono (ps_if hc ha hb) fun E σ H hv z => by
    obtain ⟨F, fp, r, R, y⟩ := z hv
    simp only [evS] at y
    refine bndB (isS .refl) R y fun k r1 F1 fp1 H1 hv1 s1 R1 y => ?_
    cases k with
    | true =>
      rw [if_pos rfl] at y ⊢
      exact fun _ => ⟨F1, fp1, r1, R1, EndS.up .refl y⟩
    | false =>
      rw [if_neg (by decide)] at y ⊢
      exact fun _ => ⟨F1, fp1, r1, R1, EndS.up .refl y⟩
/-! ### loops -/
theorem ds_while {c : Expr} {b : List Stmt} {ic : Ex} {ib : List Sx} {pos : Pos} (hp : PassesOwn (model X.prog X.w) X.A X.env X.xe) (hc : PTb X ec W C c ic) (hb : PSts X ec W C w pr b ib) : PSt X ec W C w pr (.While c b [] pos) (.while ic ib) :=
  ps_mono (ps_while hp hc hb) fun E σ H hv z => by
    obtain ⟨F, fp, r, R, y⟩ := z hv
    simp only [evS] at y
    let P : Nat → St → Hp → Prop := fun m σ1 H1 => HV H1 → ∃ F1 fp1 r1, Rel X.K F1 fp1 H1 σ1 r1 ∧ Agr pr σ σ1 ∧ EndS X.K ec W pr σ E F1 fp1 H1 (whileGo (fun r => asB (evO C ic r)) (fun r => evSs C w ib r) m r1)
    refine ⟨P, ⟨w, fun _ => ⟨F, fp, r, R, .refl, y⟩⟩, fun m σ1 H1 h => ?_⟩
    intro hv1
    obtain ⟨F1, fp1, r1, R1, a1, y1⟩ := h hv1
    cases m with
    | zero => exact y1.elim
    | succ m =>
      unfold whileGo at y1
      refine bndB (isS a1) (f := fun r => asB (evO C ic r)) R1 y1 (fun k r2 F2 fp2 H2 hv2 s2 R2 y => ?_) hv1
      cases k with
      | false =>
        rw [if_neg (by decide)] at y ⊢
        exact fun hv3 => y F2 fp2 H2 σ1 hv3 .refl R2 a1
      | true =>
        rw [if_pos rfl] at y ⊢
        refine ⟨fun σ2 H2 => P m σ2 H2, fun σ2 H2 p => ⟨m, Nat.lt_succ_self m, p⟩, fun _ => ⟨F2, fp2, r2, R2, ?_⟩⟩
        cases e : evSs C w ib r2 with
        | nx r3 =>
          rw [e] at y
          exact fun F3 fp3 H3 σ3 hv3 s3 R3 a3 _ => ⟨F3, fp3, r3, R3, a1.trans a3, (isS (a1.trans a3)).later _ _ _ _ _ _ _ s3 y⟩
        | ct r3 =>
          rw [e] at y
          exact fun F3 fp3 H3 σ3 hv3 s3 R3 a3 _ => ⟨F3, fp3, r3, R3, a1.trans a3, (isS (a1.trans a3)).later _ _ _ _ _ _ _ s3 y⟩
        | bk r3 =>
          rw [e] at y
          exact fun F3 fp3 H3 σ3 hv3 s3 R3 a3 _ => y F3 fp3 H3 σ3 hv3 s3 R3 (a1.trans a3)
        | rt d r3 =>
          rw [e] at y
          exact fun F3 fp3 H3 σ3 v q hv3 g a3 _ => y F3 fp3 H3 σ3 v q hv3 g (a1.trans a3)
        | exc x r3 =>
          rw [e] at y
          exact fun F3 fp3 H3 σ3 c dx s3 R3 a3 zx => y F3 fp3 H3 σ3 c dx s3 R3 (a1.trans a3) zx
        | stuck => rw [e] at y; exact y
theorem ds_for {tgx iter : Expr} {b : List Stmt} {t : Tg} {ii : Ite} {ib : List Sx} {pos : Pos} (hp : PassesOwn (model X.prog X.w) X.A X.env X.xe) (hc : X.calm = true) (hi : PI X tgx iter (tI X.K ec W (evI C ii))) (hg : PG X tgx (gT X.K t)) (hb : PSts X ec W C w pr b ib)
    (hpr : ∀ i, i ∈ slT t → i ∉ pr) (hs : ∀ x, foldedSetIterable iter X.env x = pure x) : PSt X ec W C w pr (.For tgx iter b [] pos) (.for t ii ib) :=
  ps_mono (ps_for hp hc hi hg hb hs) fun E σ H hv z => by
    obtain ⟨F, fp, r, R, y⟩ := z hv
    simp only [evS] at y
    show tI _ _ _ _ σ H _
    refine bndI (isS .refl) R y fun ds r1 F1 fp1 H1 J hv1 s1 R1 hl wk y => ?_
    let P : Nat → St → Hp → Prop := fun i σ2 H2 => ∃ F2 fp2 r2, Rel X.K F2 fp2 H2 σ2 r2 ∧ Agr pr σ σ2 ∧ Step fp1 F1 H1 fp2 F2 H2 ∧ EndS X.K ec W pr σ E F2 fp2 H2 (forGo t (fun r => evSs C w ib r) (ds.drop i) r2)
    refine ⟨fun i m σ2 H2 => m = ds.length - i ∧ i ≤ ds.length ∧ P i σ2 H2, ⟨ds.length, by simp, Nat.zero_le _, F1, fp1, r1, R1, .refl, .refl, y⟩, ?_⟩
    rintro i m σ2 H2 ⟨rfl, hi, F2, fp2, r2, R2, a2, s2, y2⟩
    have ext : ∀ a, F1 a → H2 a = H1 a := s2.fro R1
    by_cases hlt : i < ds.length
    · right
      refine ⟨wk.goes i H2 hlt ext, P (i + 1), fun σ' H' p => ⟨ds.length - (i + 1), by omega, rfl, hlt, p⟩, fun x H3 yl => ?_⟩
      have hd : ds[i]? = some ds[i] := List.getElem?_eq_getElem hlt
      obtain ⟨F3, nw, zx⟩ := wk.yields i H2 x H3 ds[i] F2 hd ext s2.sub R2.trF yl
      rw [List.drop_eq_getElem_cons hlt] at y2
      unfold forGo at y2
      intro hv3
      cases et : tgS t ds[i] r2 with
      | none => rw [et] at y2; exact y2.elim
      | some r3 =>
        rw [et] at y2
        dsimp only at y2
        refine ⟨F3, fp2, r2, ds[i], r3, R2.newer nw, zx, et, fun σ4 fp4 R4 hf4 hl4 hσ4 => ?_⟩
        have a4 : Agr pr σ σ4 := a2.trans ⟨hl4, fun j hj => hσ4 j fun z => hpr j z hj⟩
        have s4 : Step fp2 F2 H2 fp4 F3 H3 := nw.step.trans (step_fewer hf4)
        have y4 := (isS (ec := ec) (W := W) (K := X.K) (E := E) a4).later _ _ _ _ _ _ _ s4 y2
        refine fun _ => ⟨F3, fp4, r3, R4, ?_⟩
        cases e : evSs C w ib r3 with
        | nx r5 =>
          rw [e] at y4
          exact fun F5 fp5 H5 σ5 hv5 s5 R5 a5 => ⟨F5, fp5, r5, R5, a4.trans a5, (s2.trans s4).trans s5, (isS (a4.trans a5)).later _ _ _ _ _ _ _ s5 y4⟩
        | ct r5 =>
          rw [e] at y4
          exact fun F5 fp5 H5 σ5 hv5 s5 R5 a5 => ⟨F5, fp5, r5, R5, a4.trans a5, (s2.trans s4).trans s5, (isS (a4.trans a5)).later _ _ _ _ _ _ _ s5 y4⟩
        | bk r5 =>
          rw [e] at y4
          exact fun F5 fp5 H5 σ5 hv5 s5 R5 a5 _ => y4 F5 fp5 H5 σ5 hv5 s5 R5 (a4.trans a5)
        | rt d r5 =>
          rw [e] at y4
          exact fun F5 fp5 H5 σ5 v q hv5 g a5 _ => y4 F5 fp5 H5 σ5 v q hv5 g (a4.trans a5)
        | exc x r5 =>
          rw [e] at y4
          exact fun F5 fp5 H5 σ5 c dx s5 R5 a5 zx => y4 F5 fp5 H5 σ5 c dx s5 R5 (a4.trans a5) zx
        | stuck => rw [e] at y4; exact y4
    · have e : i = ds.length := by omega
      subst e
      left
      rw [List.drop_length] at y2
      unfold forGo at y2
      exact ⟨wk.stops H2 ext, fun hv2 => y2 F2 fp2 H2 σ2 hv2 .refl R2 a2⟩
end
end Y
set_option Elab.async false
set_option linter.all false
set_option maxRecDepth 100000
set_option maxHeartbeats 4000000
/-! Y11: calls. -/
namespace Y
open PySem PySem.Spec L2
open PyProof.Rows hiding St

/-! ### calls: the arguments -/
def Dsj (p q : List Addr) : Prop := ∀ a, a ∈ p → a ∉ q
/-- the arguments as they were found: a lent slot's value; anything else with its own objects -/
inductive ArgL (K : PySem.W.Frag) (F : FS) (H : Hp) (σ : St) : List Ex → List D → List V → List (List Addr) → Prop where
  | nil : ArgL K F H σ [] [] [] []
  | lv {j : Nat} {es : List Ex} {d : D} {ds : List D} {v : V} {vs : List V} {qs : List (List Addr)} : σ[j]? = some (some v) → ArgL K F H σ es ds vs qs → ArgL K F H σ (.lv j :: es) (d :: ds) (v :: vs) ([] :: qs)
  | ex {e : Ex} {es : List Ex} {d : D} {ds : List D} {v : V} {vs : List V} {q : List Addr} {qs : List (List Addr)} : (∀ j, e ≠ .lv j) → Own K F H d v q → ArgL K F H σ es ds vs qs → ArgL K F H σ (e :: es) (d :: ds) (v :: vs) (q :: qs)
/-- the new things among them are apart -/
structure TmpOk (F : FS) (fp : Nat → List Addr) (H : Hp) (F' : FS) (fp' : Nat → List Addr) (qs : List (List Addr)) : Prop where
  apart : qs.Pairwise Dsj
  out : ∀ q, q ∈ qs → ∀ a, a ∈ q → ¬ F' a ∧ (∀ i, a ∉ fp' i) ∧ (H a = none ∨ ∃ i, a ∈ fp i)
def tA (K : PySem.W.Frag) (ec : Ec) (W : WX) (es : List Ex) (f : Rho → Res (List D)) : TA := fun σ H Q => HV H → ∃ F fp r, Rel K F fp H σ r ∧ (match f r with
  | .ok ds r' => ∀ F' fp' H' vs qs, HV H' → Step fp F H fp' F' H' → Rel K F' fp' H' σ r' → ArgL K F' H' σ es ds vs qs → TmpOk F fp H F' fp' qs → Q vs H'
  | .exc x r' => WExc K ec W σ F fp H x r'
  | .stuck => False)
def EndA (K : PySem.W.Frag) (ec : Ec) (W : WX) (σ : St) (es : List Ex) (Q : List V → Hp → Prop) (F : FS) (fp : Nat → List Addr) (H : Hp) (m : Res (List D)) : Prop := match m with
  | .ok ds r' => ∀ F' fp' H' vs qs, HV H' → Step fp F H fp' F' H' → Rel K F' fp' H' σ r' → ArgL K F' H' σ es ds vs qs → TmpOk F fp H F' fp' qs → Q vs H'
  | .exc x r' => WExc K ec W σ F fp H x r'
  | .stuck => False
section
variable {K : PySem.W.Frag} {ec : Ec} {W : WX} {σ : St} {H : Hp}
theorem TmpOk.later {F F1 F' : FS} {fp fp1 fp' : Nat → List Addr} {H1 : Hp} {qs : List (List Addr)} (s : Step fp F H fp1 F1 H1) (t : TmpOk F1 fp1 H1 F' fp' qs) : TmpOk F fp H F' fp' qs :=
  ⟨t.apart, fun q h a z => ⟨(t.out q h a z).1, (t.out q h a z).2.1, s.free (t.out q h a z).2.2⟩⟩
theorem isA {es : List Ex} {Q : List V → Hp → Prop} : IsEnd K ec W σ Res.exc Res.stuck (EndA K ec W σ es Q) where
  stuck := fun _ _ _ h => h
  exc := fun _ _ _ _ _ h => h
  later := fun F fp H F1 fp1 H1 m s h => by
    cases m with
    | ok d r' => exact fun F' fp' H' v qs hv s' R' z t => h F' fp' H' v qs hv (s.trans s') R' z (t.later s)
    | exc x r' => exact WExc.later s h
    | stuck => exact h
theorem bndA {M : Type} {me : Exc → Rho → M} {ms : M} {E : FS → (Nat → List Addr) → Hp → M → Prop} {F : FS} {fp : Nat → List Addr} {r : Rho} (I : IsEnd K ec W σ me ms E) {es : List Ex} {f : Rho → Res (List D)} {k : List D → Rho → M} {Q : List V → Hp → Prop} (R : Rel K F fp H σ r) (h : E F fp H ((f r).el k me ms))
    (ok : ∀ d r1, f r = .ok d r1 → ∀ F1 fp1 H1 vs qs, HV H1 → Step fp F H fp1 F1 H1 → Rel K F1 fp1 H1 σ r1 → ArgL K F1 H1 σ es d vs qs → TmpOk F fp H F1 fp1 qs → Q vs H1) : tA K ec W es f σ H Q := by
  intro hv
  refine ⟨F, fp, r, R, ?_⟩
  cases e : f r with
  | ok d r1 =>
    rw [e] at h
    exact fun F1 fp1 H1 vs qs hv1 s1 R1 z t => ok d r1 e F1 fp1 H1 vs qs hv1 s1 R1 z t
  | exc x r1 => rw [e] at h; exact I.exc _ _ _ _ _ h
  | stuck => rw [e] at h; exact I.stuck _ _ _ h
theorem tA_open {es : List Ex} {f : Rho → Res (List D)} {Q : List V → Hp → Prop} (hv : HV H) (h : tA K ec W es f σ H Q) : ∃ F fp r, Rel K F fp H σ r ∧ EndA K ec W σ es Q F fp H (f r) := h hv
end
section
variable {X : Cx} {ec : Ec} {W : WX} {C : Env} {io : List Nat}
abbrev PAa (X : Cx) (ec : Ec) (W : WX) (C : Env) (io : List Nat) (k : Nat) (es : List Expr) (is : List Ex) : Prop := PA X es (tA X.K ec W is (evA C io k is))
theorem da_nil {k : Nat} : PAa X ec W C io k [] [] := pa_mono pa_nil fun σ H Q hv h => by
  obtain ⟨F, fp, r, R, z⟩ := tA_open hv h
  exact fun hv2 => z F fp H [] [] hv2 .refl R .nil ⟨.nil, fun q h => nomatch h⟩
theorem da_lv {k j : Nat} {x : Str} {p : Pos} {es : List Expr} {is : List Ex} (hN : X.N[j]? = some x) (hv0 : Vis X.env.scope x) (hd : (x == ("__debug__" : Str)) = false) (hcd : (x == ("__classdict__" : Str)) = false) (h : PAa X ec W C io (k + 1) es is) : PAa X ec W C io k (.Name x p :: es) (.lv j :: is) :=
  pa_mono (pa_cons (pe_var hN hv0 hd hcd) h (star_ok rfl)) fun σ H Q hv z => by
    obtain ⟨F, fp, r, R, y⟩ := tA_open hv z
    simp only [evA] at y
    split at y
    · rename_i hk
      obtain ⟨d, hd⟩ := Option.isSome_iff_exists.mp hk.2
      obtain ⟨v, e1, _⟩ := R.slot j d (getS_some hd)
      refine ⟨v, e1, ?_⟩
      refine bndA isA R y fun ds r1 ea F1 fp1 H1 vs qs hv1 s1 R1 z t => ?_
      rw [ea] at y
      intro hv2
      refine y F1 fp1 H1 (v :: vs) ([] :: qs) hv2 s1 R1 (.lv e1 z) ⟨.cons (fun q _ a h => nomatch h) t.apart, fun q h => ?_⟩
      rcases List.mem_cons.mp h with h | h
      · rw [h]; exact fun a z => nomatch z
      · exact t.out q h
    · exact y.elim
theorem da_ex {k : Nat} {e : Expr} {es : List Expr} {i : Ex} {is : List Ex} (hne : ∀ j, i ≠ .lv j) (he : PEo X ec W C e i) (hst : isStar e = false) (h : PAa X ec W C io (k + 1) es is) : PAa X ec W C io k (e :: es) (i :: is) := by
  have e1 : ∀ r, evA C io k (i :: is) r = (evO C i r).bind fun x r => (evA C io (k + 1) is r).bind fun xs r => .ok ((if k ∈ io then x else x.fz) :: xs) r := fun r => by
    cases i <;> first | rfl | exact absurd rfl (hne _)
  refine pa_mono (pa_cons he h (star_ok hst)) fun σ H Q hv z => ?_
  obtain ⟨F, fp, r, R, y⟩ := tA_open hv z
  rw [e1] at y
  show tO _ _ _ _ σ H _
  refine bndO isA R y fun d r1 F1 fp1 H1 v q hv1 g y => ?_
  have go : ∀ (F1' : FS) (d' : D) (q' : List Addr), Step fp F H fp1 F1' H1 → Rel X.K F1' fp1 H1 σ r1 → Own X.K F1' H1 d' v q' → (∀ a, a ∈ q' → ¬ F1' a ∧ (∀ i, a ∉ fp1 i) ∧ (H a = none ∨ ∃ i, a ∈ fp i)) → d' = (if k ∈ io then d else d.fz) → tA X.K ec W is (evA C io (k + 1) is) σ H1 fun xs H2 => HV H2 → Q (v :: xs) H2 := by
    intro F1' d' q' s1 R1 o hq ed
    refine bndA isA R1 (isA.later _ _ _ _ _ _ _ s1 y) fun ds r2 ea F2 fp2 H2 vs qs hv2 s2 R2 z t => ?_
    intro hv3
    have kq : ∀ a, a ∈ q' → H2 a = H1 a := fun a ha => by
      obtain ⟨u, hu⟩ := o.tracked a ha
      rw [hu]
      exact s2.keep a u hu (hq a ha).2.1
    have y2 : EndA X.K ec W σ (i :: is) Q F fp H (.ok (d' :: ds) r2) := by
      rw [ea, ← ed] at y
      exact y
    refine y2 F2 fp2 H2 (v :: vs) (q' :: qs) hv3 (s1.trans s2) R2 (.ex hne (o.mono s2.sub (s2.fro R1) kq) z) ⟨.cons (fun p hp a ha hb => ?_) t.apart, fun p hp a ha => ?_⟩
    · obtain ⟨u, hu⟩ := o.tracked a ha
      rcases (t.out p hp a hb).2.2 with z | ⟨m, z⟩
      · rw [hu] at z; cases z
      · exact (hq a ha).2.1 m z
    · rcases List.mem_cons.mp hp with e | hp
      · subst e
        obtain ⟨u, hu⟩ := o.tracked a ha
        refine ⟨fun z => ?_, fun m z => ?_, (hq a ha).2.2⟩
        · rcases s2.new a z with z | z | ⟨m, z⟩
          · exact (hq a ha).1 z
          · rw [hu] at z; cases z
          · exact (hq a ha).2.1 m z
        · rcases s2.own m a z with z | ⟨m, z⟩
          · rw [hu] at z; cases z
          · exact (hq a ha).2.1 m z
      · exact ⟨(t.out p hp a ha).1, (t.out p hp a ha).2.1, s1.free (t.out p hp a ha).2.2⟩
  by_cases hk : k ∈ io
  · exact go F1 d q g.st g.rel g.own (fun a ha => ⟨g.qF a ha, fun i => g.qfp a i ha, g.qnew a ha⟩) (by rw [if_pos hk])
  · obtain ⟨a, b, c⟩ := g.share
    exact go _ d.fz [] a b c.own (fun _ z => nomatch z) (by rw [if_neg hk])
end
end Y
set_option Elab.async false
set_option linter.all false
set_option maxRecDepth 100000
set_option maxHeartbeats 4000000
/-! Y12: calls, place by place. -/
namespace Y
open PySem PySem.Spec L2
open PyProof.Rows hiding St

/-! ### calls: what is handed over, what comes back -/
def outR (np : Nat) (io : List Nat) (outs : List D) : Rho := (List.range np).map fun i => (io.zip outs).lookup i
theorem outR_get {np : Nat} {io : List Nat} {outs : List D} {k : Nat} {d : D} : (outR np io outs)[k]? = some (some d) ↔ k < np ∧ (io.zip outs).lookup k = some d := by
  unfold outR
  rw [List.getElem?_map]
  by_cases h : k < np
  · rw [List.getElem?_range h]
    simp [h]
  · rw [List.getElem?_eq_none (by simpa using h)]
    simp [h]
/-- a def's promise, by values -/
def spF (K : PySem.W.Frag) (ec : Ec) (np : Nat) (io : List Nat) (run : List D → CRes) : Sp := fun vs H Q E => vs.length = np ∧ (HV H → ∃ F fp ds, Rel K F fp H (vs.map some) (ds.map some) ∧ (match run ds with
  | .ok d outs => ∀ F' fp' H' v q, HV H' → Got K F fp H (vs.map some) F' fp' H' (outR np io outs) d v q → Q v H'
  | .exc x outs => ∀ F' fp' H' c dx, Step fp F H fp' F' H' → Rel K F' fp' H' (vs.map some) (outR np io outs) → ExcAt K ec.cls ec.nms F' H' x c dx → E c dx H'
  | .stuck => False))
def isLv : Ex → Option Nat
  | .lv j => some j
  | _ => none
def lentIx : List Ex → Nat → Option Nat
  | [], _ => none
  | e :: es, j => if isLv e = some j then some 0 else (lentIx es j).map (· + 1)
theorem lentS_cons (e : Ex) (es : List Ex) : lentS (e :: es) = (match isLv e with
    | some j => j :: lentS es
    | none => lentS es) := by cases e <;> rfl
theorem lentIx_get : ∀ {es : List Ex} {j k : Nat}, lentIx es j = some k → ∃ e, es[k]? = some e ∧ isLv e = some j
  | [], _, _, h => by cases h
  | e :: es, j, k, h => by
    unfold lentIx at h
    split at h
    · cases h
      exact ⟨e, rfl, by assumption⟩
    · cases q : lentIx es j with
      | none => rw [q] at h; cases h
      | some m =>
        rw [q] at h
        cases h
        obtain ⟨e', h1, h2⟩ := lentIx_get q
        exact ⟨e', by simpa using h1, h2⟩
theorem lentIx_mem : ∀ {es : List Ex} {j : Nat}, lentIx es j = none → j ∉ lentS es
  | [], _, _ => by simp [lentS]
  | e :: es, j, h => by
    unfold lentIx at h
    split at h
    · cases h
    · rename_i hn
      have q : lentIx es j = none := by
        cases q : lentIx es j with
        | none => rfl
        | some m => rw [q] at h; cases h
      rw [lentS_cons]
      split
      · rename_i i hi
        rw [List.mem_cons, not_or]
        exact ⟨fun e => hn (by rw [hi, e]), lentIx_mem q⟩
      · exact lentIx_mem q
theorem lentIx_of : ∀ {es : List Ex} {j k : Nat} {e : Ex}, (lentS es).Nodup → es[k]? = some e → isLv e = some j → lentIx es j = some k
  | [], _, _, _, _, h, _ => by simp at h
  | e0 :: es, j, 0, e, nd, h, hl => by
    simp at h
    subst h
    unfold lentIx
    rw [if_pos hl]
  | e0 :: es, j, k + 1, e, nd, h, hl => by
    have h : es[k]? = some e := by simpa using h
    unfold lentIx
    have nd2 : (lentS es).Nodup := by
      rw [lentS_cons] at nd
      split at nd
      · exact (List.nodup_cons.mp nd).2
      · exact nd
    have ih := lentIx_of nd2 h hl
    rw [ih]
    split
    · rename_i hi
      rw [lentS_cons, hi] at nd
      have : j ∈ lentS es := by
        cases q : lentIx es j with
        | none => rw [q] at ih; cases ih
        | some m =>
          have mem : ∀ {es : List Ex} {k : Nat} {e : Ex}, es[k]? = some e → isLv e = some j → j ∈ lentS es := by
            intro es
            induction es with
            | nil => intro k e h _; simp at h
            | cons a l ihl =>
              intro k e h hl
              rw [lentS_cons]
              cases k with
              | zero =>
                simp at h
                subst h
                rw [hl]
                exact List.mem_cons_self
              | succ k =>
                have := ihl (k := k) (by simpa using h) hl
                split
                · exact List.mem_cons_of_mem _ this
                · exact this
          exact mem h hl
      exact absurd this (List.nodup_cons.mp nd).1
    · rfl
def flOf (fp : Nat → List Addr) : List Ex → List (List Addr) → List (List Addr)
  | e :: es, q :: qs => (match isLv e with
    | some j => fp j
    | none => q) :: flOf fp es qs
  | _, _ => []
section
variable {K : PySem.W.Frag} {F : FS} {H : Hp} {σ : St} {fp : Nat → List Addr} {r : Rho}
/-- the arguments, place by place -/
theorem argL_at : ∀ {es : List Ex} {ds : List D} {vs : List V} {qs : List (List Addr)} {xs : List D}, ArgL K F H σ es ds vs qs → lend r es ds = some xs → Rel K F fp H σ r →
    xs.length = vs.length ∧ es.length = vs.length ∧ ∀ (k : Nat) (x : D), xs[k]? = some x → ∃ v e q, vs[k]? = some v ∧ es[k]? = some e ∧ (flOf fp es qs)[k]? = some q ∧ Own K F H x v q ∧ (∀ j, isLv e = some j → q = fp j ∧ σ[j]? = some (some v) ∧ getS r j = some x) ∧ (isLv e = none → q ∈ qs)
  | _, _, _, _, _, .nil, h, R => by
    cases h
    exact ⟨rfl, rfl, fun k x h => by simp at h⟩
  | _, _, _, _, xs, .lv (j := j) (vs := vs) (es := es) (qs := qs) (ds := ds) (v := v) hj a, h, R => by
    unfold lend at h
    cases h1 : getS r j with
    | none => rw [h1] at h; cases h
    | some z =>
      cases h2 : lend r es ds with
      | none => rw [h1, h2] at h; cases h
      | some ys =>
        rw [h1, h2] at h
        cases h
        obtain ⟨l1, l2, ih⟩ := argL_at a h2 R
        refine ⟨by simp [l1], by simp [l2], fun k x hk => ?_⟩
        cases k with
        | zero =>
          simp at hk
          subst hk
          obtain ⟨v', e1, o⟩ := R.slot j z (getS_some h1)
          rw [hj] at e1
          cases e1
          exact ⟨v, _, fp j, rfl, rfl, rfl, o, fun j' e => by cases e; exact ⟨rfl, hj, h1⟩, fun e => nomatch e⟩
        | succ k =>
          obtain ⟨v', e, q, a1, a2, a3, a4, a5, a6⟩ := ih k x (by simpa using hk)
          exact ⟨v', e, q, by simpa using a1, by simpa using a2, by simpa [flOf] using a3, a4, a5, fun z => List.mem_cons_of_mem _ (a6 z)⟩
  | _, _, _, _, xs, .ex (e := e) (vs := vs) (es := es) (qs := qs) (ds := ds) (v := v) (d := d) (q := q) hne o a, h, R => by
    have nl : isLv e = none := by
      cases e with
      | lv j => exact absurd rfl (hne j)
      | _ => rfl
    have h : (match lend r es ds with
      | some xs => some (d :: xs)
      | none => none) = some xs := by
      cases e with
      | lv j => exact absurd rfl (hne j)
      | _ => exact h
    cases h2 : lend r es ds with
    | none => rw [h2] at h; cases h
    | some ys =>
      rw [h2] at h
      cases h
      obtain ⟨l1, l2, ih⟩ := argL_at a h2 R
      refine ⟨by simp [l1], by simp [l2], fun k x hk => ?_⟩
      cases k with
      | zero =>
        simp at hk
        subst hk
        exact ⟨v, e, q, rfl, rfl, by simp [flOf, nl], o, fun j' z => (by rw [nl] at z; cases z), fun _ => List.mem_cons_self⟩
      | succ k =>
        obtain ⟨v', e', q', a1, a2, a3, a4, a5, a6⟩ := ih k x (by simpa using hk)
        exact ⟨v', e', q', by simpa using a1, by simpa using a2, by simpa [flOf] using a3, a4, a5, fun z => List.mem_cons_of_mem _ (a6 z)⟩
theorem flOf_mem : ∀ {es : List Ex} {qs : List (List Addr)} {k : Nat} {q : List Addr}, (flOf fp es qs)[k]? = some q → (∃ j e, es[k]? = some e ∧ isLv e = some j ∧ q = fp j) ∨ (∃ e, es[k]? = some e ∧ isLv e = none ∧ qs[k]? = some q)
  | [], _, _, _, h => by simp [flOf] at h
  | _ :: _, [], _, _, h => by simp [flOf] at h
  | e :: es, q0 :: qs, 0, q, h => by
    simp [flOf] at h
    cases he : isLv e with
    | some j =>
      rw [he] at h
      exact .inl ⟨j, e, rfl, he, h.symm⟩
    | none =>
      rw [he] at h
      exact .inr ⟨e, rfl, he, by simp [h]⟩
  | e :: es, q0 :: qs, k + 1, q, h => by
    rcases flOf_mem (es := es) (qs := qs) (k := k) (q := q) (by simpa [flOf] using h) with ⟨j, e', a, b, c⟩ | ⟨e', a, b, c⟩
    · exact .inl ⟨j, e', by simpa using a, b, c⟩
    · exact .inr ⟨e', by simpa using a, b, by simpa using c⟩
theorem pairwise_at {qs : List (List Addr)} (h : qs.Pairwise Dsj) {i j : Nat} {p q : List Addr} (hp : qs[i]? = some p) (hq : qs[j]? = some q) (n : i ≠ j) : Dsj p q := by
  obtain ⟨h1, e1⟩ := List.getElem?_eq_some_iff.mp hp
  obtain ⟨h2, e2⟩ := List.getElem?_eq_some_iff.mp hq
  have g := List.pairwise_iff_getElem.mp h
  rcases Nat.lt_or_gt_of_ne n with z | z
  · have := g i j h1 h2 z
    rw [e1, e2] at this
    exact this
  · have := g j i h2 h1 z
    rw [e1, e2] at this
    exact fun a ha hb => this a hb ha
def fpC (fp : Nat → List Addr) (es : List Ex) (qs : List (List Addr)) (k : Nat) : List Addr := ((flOf fp es qs)[k]?).getD []
theorem fpC_some {es : List Ex} {qs : List (List Addr)} {k : Nat} {a : Addr} (h : a ∈ fpC fp es qs k) : ∃ q, (flOf fp es qs)[k]? = some q ∧ a ∈ q := by
  unfold fpC at h
  cases e : (flOf fp es qs)[k]? with
  | none => rw [e] at h; simp at h
  | some q =>
    rw [e] at h
    exact ⟨q, rfl, h⟩
/-- the callee's slots -/
theorem call_rel {F0 : FS} {fp0 : Nat → List Addr} {H0 : Hp} {es : List Ex} {ds : List D} {vs : List V} {qs : List (List Addr)} {xs : List D} (R : Rel K F fp H σ r) (A : ArgL K F H σ es ds vs qs) (T : TmpOk F0 fp0 H0 F fp qs) (hl : lend r es ds = some xs) (nd : (lentS es).Nodup) :
    Rel K F (fpC fp es qs) H (vs.map some) (xs.map some) := by
  obtain ⟨l1, l2, at_⟩ := argL_at A hl R
  refine ⟨by simp [l1], fun k x h => ?_, fun k h => ?_, fun k m a n h hm => ?_, fun k a h z => ?_, R.trF⟩
  · rw [List.getElem?_map] at h
    cases e : xs[k]? with
    | none => rw [e] at h; cases h
    | some y =>
      rw [e] at h
      cases h
      obtain ⟨v, e', q, a1, a2, a3, a4, _⟩ := at_ k x e
      refine ⟨v, by rw [List.getElem?_map, a1]; rfl, ?_⟩
      unfold fpC
      rw [a3]
      exact a4
  · have hx : xs[k]? = none := by
      cases e : xs[k]? with
      | none => rfl
      | some y => exact absurd (by rw [List.getElem?_map, e]; rfl) (h y)
    have hk : vs.length ≤ k := by
      rw [← l1]
      exact List.getElem?_eq_none_iff.mp hx
    unfold fpC
    cases e : (flOf fp es qs)[k]? with
    | none => rfl
    | some q =>
      rcases flOf_mem e with ⟨j, e', a, _⟩ | ⟨e', a, _⟩
      · have := (List.getElem?_eq_some_iff.mp a).1
        omega
      · have := (List.getElem?_eq_some_iff.mp a).1
        omega
  · obtain ⟨p, hp, ha⟩ := fpC_some h
    obtain ⟨q, hq, hb⟩ := fpC_some hm
    rcases flOf_mem hp with ⟨j, e1, a1, b1, rfl⟩ | ⟨e1, a1, b1, c1⟩
    · rcases flOf_mem hq with ⟨j2, e2, a2, b2, rfl⟩ | ⟨e2, a2, b2, c2⟩
      · by_cases ej : j = j2
        · subst ej
          have u1 := lentIx_of nd a1 b1
          have u2 := lentIx_of nd a2 b2
          rw [u1] at u2
          cases u2
          exact n rfl
        · exact R.dis j j2 a ej ha hb
      · exact (T.out q (List.mem_of_getElem? c2) a hb).2.1 j ha
    · rcases flOf_mem hq with ⟨j2, e2, a2, b2, rfl⟩ | ⟨e2, a2, b2, c2⟩
      · exact (T.out p (List.mem_of_getElem? c1) a ha).2.1 j2 hb
      · exact pairwise_at T.apart c1 c2 n a ha hb
  · obtain ⟨p, hp, ha⟩ := fpC_some h
    rcases flOf_mem hp with ⟨j, e1, a1, b1, rfl⟩ | ⟨e1, a1, b1, c1⟩
    · exact R.nF j a ha z
    · exact (T.out p (List.mem_of_getElem? c1) a ha).1 z
/-- what comes back, slot by slot -/
theorem back_at {io : List Nat} {outs : List D} : ∀ {es : List Ex} {k : Nat} {r r' : Rho}, (lentS es).Nodup → back io outs k es r = some r' → r'.length = r.length ∧ (∀ j, j ∉ lentS es → r'[j]? = r[j]?) ∧
    ∀ j m, lentIx es j = some m → j < r.length → ∃ d, (io.zip outs).lookup (k + m) = some d ∧ r'[j]? = some (some d)
  | [], _, _, _, _, h => by
    cases h
    exact ⟨rfl, fun _ _ => rfl, fun j m e => nomatch e⟩
  | e :: es, k, r, r', nd, h => by
    cases he : isLv e with
    | none =>
      have h : back io outs (k + 1) es r = some r' := by
        cases e with
        | lv j => cases he
        | _ => exact h
      have nd2 : (lentS es).Nodup := by
        rw [lentS_cons, he] at nd
        exact nd
      obtain ⟨a, b, c⟩ := back_at nd2 h
      refine ⟨a, fun j hj => b j (by rw [lentS_cons, he] at hj; exact hj), fun j m hm hl => ?_⟩
      unfold lentIx at hm
      rw [he, if_neg (by simp)] at hm
      cases q : lentIx es j with
      | none => rw [q] at hm; cases hm
      | some m' =>
        rw [q] at hm
        cases hm
        obtain ⟨d, h1, h2⟩ := c j m' q hl
        exact ⟨d, by rw [show k + (m' + 1) = k + 1 + m' by omega]; exact h1, h2⟩
    | some i =>
      have h : (match (io.zip outs).lookup k with
        | some d => back io outs (k + 1) es (r.set i (some d))
        | none => none) = some r' := by
        cases e with
        | lv j => cases he; exact h
        | _ => cases he
      cases hd : (io.zip outs).lookup k with
      | none => rw [hd] at h; cases h
      | some d =>
        rw [hd] at h
        rw [lentS_cons, he] at nd
        have nd := List.nodup_cons.mp nd
        obtain ⟨a, b, c⟩ := back_at nd.2 h
        rw [List.length_set] at a
        refine ⟨a, fun j hj => ?_, fun j m hm hl => ?_⟩
        · rw [lentS_cons, he] at hj
          have hj := not_or.mp (fun z => hj (List.mem_cons.mpr z))
          rw [b j hj.2, List.getElem?_set_ne (Ne.symm hj.1)]
        · unfold lentIx at hm
          rw [he] at hm
          split at hm
          · rename_i e1
            cases e1
            cases hm
            refine ⟨d, by simpa using hd, ?_⟩
            rw [b i nd.1, List.getElem?_set_self hl]
          · cases q : lentIx es j with
            | none => rw [q] at hm; cases hm
            | some m' =>
              rw [q] at hm
              cases hm
              obtain ⟨d', h1, h2⟩ := c j m' q (by rw [List.length_set]; exact hl)
              exact ⟨d', by rw [show k + (m' + 1) = k + 1 + m' by omega]; exact h1, h2⟩
end
end Y
set_option Elab.async false
set_option linter.all false
set_option maxRecDepth 100000
set_option maxHeartbeats 4000000
/-! Y13: the call. -/
namespace Y
open PySem PySem.Spec L2
open PyProof.Rows hiding St

section
variable {K : PySem.W.Frag} {F F1 F' : FS} {H H1 H' : Hp} {σ : St} {fp fp1 fpc' : Nat → List Addr} {r1 r' : Rho} {es : List Ex} {ds : List D} {vs : List V} {qs : List (List Addr)} {xs : List D} {np : Nat} {io : List Nat} {outs : List D}
def fpB (fp1 fpc' : Nat → List Addr) (es : List Ex) (j : Nat) : List Addr := match lentIx es j with
  | some k => fpc' k
  | none => fp1 j
theorem call_free (s1 : Step fp F H fp1 F1 H1) (T : TmpOk F fp H F1 fp1 qs) {a : Addr} (h : H1 a = none ∨ ∃ k, a ∈ fpC fp1 es qs k) : H a = none ∨ ∃ i, a ∈ fp i := by
  rcases h with h | ⟨k, h⟩
  · exact s1.free (.inl h)
  · obtain ⟨q, hq, ha⟩ := fpC_some h
    rcases flOf_mem hq with ⟨j, e, _, _, rfl⟩ | ⟨e, _, _, c⟩
    · exact s1.free (.inr ⟨j, ha⟩)
    · exact (T.out q (List.mem_of_getElem? c) a ha).2.2
/-- an object of a slot that is not lent is none of the callee's -/
theorem call_apart (R1 : Rel K F1 fp1 H1 σ r1) (T : TmpOk F fp H F1 fp1 qs) (nd : (lentS es).Nodup) {j : Nat} (hj : lentIx es j = none) {a : Addr} (ha : a ∈ fp1 j) : ∀ k, a ∉ fpC fp1 es qs k := fun k h => by
  obtain ⟨q, hq, hb⟩ := fpC_some h
  rcases flOf_mem hq with ⟨j2, e, h1, h2, rfl⟩ | ⟨e, _, _, c⟩
  · by_cases e2 : j = j2
    · subst e2
      have := lentIx_of nd h1 h2
      rw [hj] at this; cases this
    · exact R1.dis j j2 a e2 ha hb
  · exact (T.out q (List.mem_of_getElem? c) a hb).2.1 j ha
theorem call_back (s1 : Step fp F H fp1 F1 H1) (R1 : Rel K F1 fp1 H1 σ r1) (A : ArgL K F1 H1 σ es ds vs qs) (T : TmpOk F fp H F1 fp1 qs) (hl : lend r1 es ds = some xs) (nd : (lentS es).Nodup) (hnp : es.length = np)
    (s2 : Step (fpC fp1 es qs) F1 H1 fpc' F' H') (G : Rel K F' fpc' H' (vs.map some) (outR np io outs)) (hb : back io outs 0 es r1 = some r') :
    Step fp F H (fpB fp1 fpc' es) F' H' ∧ Rel K F' (fpB fp1 fpc' es) H' σ r' := by
  have RC := call_rel R1 A T hl nd
  obtain ⟨l1, l2, at_⟩ := argL_at A hl R1
  obtain ⟨b1, b2, b3⟩ := back_at nd hb
  have apart : ∀ j, lentIx es j = none → ∀ a, a ∈ fp1 j → (∃ o, H1 a = some o) ∧ ∀ k, a ∉ fpC fp1 es qs k := fun j hj a ha => ⟨R1.fpT ha, call_apart R1 T nd hj ha⟩
  have lent : ∀ j k, lentIx es j = some k → ∃ x v d, xs[k]? = some x ∧ vs[k]? = some v ∧ σ[j]? = some (some v) ∧ k < np ∧ j < r1.length ∧ (io.zip outs).lookup k = some d ∧ r'[j]? = some (some d) := fun j k hk => by
    obtain ⟨e, h1, h2⟩ := lentIx_get hk
    have hlt : k < es.length := (List.getElem?_eq_some_iff.mp h1).1
    have hx : k < xs.length := by omega
    obtain ⟨v, e', q, a1, a2, a3, a4, a5, _⟩ := at_ k xs[k] (List.getElem?_eq_getElem hx)
    rw [h1] at a2
    cases a2
    obtain ⟨c1, c2, c3⟩ := a5 j h2
    have hj : j < r1.length := (List.getElem?_eq_some_iff.mp (getS_some c3)).1
    obtain ⟨d, d1, d2⟩ := b3 j k hk hj
    exact ⟨xs[k], v, d, List.getElem?_eq_getElem hx, a1, c2, by omega, hj, by simpa using d1, d2⟩
  refine ⟨⟨fun a h => s2.sub a (s1.sub a h), fun a o h n => ?_, fun a h => ?_, fun j a h => ?_⟩, ⟨by rw [b1]; exact R1.len, fun j d h => ?_, fun j h => ?_, fun j m a n h z => ?_, fun j a h z => ?_, G.trF⟩⟩
  · refine s2.keep a o (s1.keep a o h n) fun k z => ?_
    rcases call_free s1 T (.inr ⟨k, z⟩) with z | ⟨i, z⟩
    · rw [h] at z; cases z
    · exact n i z
  · rcases s2.new a h with h | h
    · exact s1.new a h
    · exact .inr (call_free s1 T h)
  · unfold fpB at h
    split at h
    · exact call_free s1 T (s2.own _ a h)
    · exact s1.own j a h
  · unfold fpB
    cases hk : lentIx es j with
    | some k =>
      obtain ⟨x, v, d', _, h2, h3, h4, _, h6, h7⟩ := lent j k hk
      rw [h7] at h
      cases h
      obtain ⟨v', e1, o⟩ := G.slot k d (outR_get.mpr ⟨h4, h6⟩)
      rw [List.getElem?_map, h2] at e1
      cases e1
      exact ⟨v, h3, o⟩
    | none =>
      rw [b2 j (lentIx_mem hk)] at h
      obtain ⟨v, e1, o⟩ := R1.slot j d h
      refine ⟨v, e1, o.mono s2.sub (s2.fro RC) fun a ha => ?_⟩
      obtain ⟨⟨u, hu⟩, na⟩ := apart j hk a ha
      rw [hu]
      exact s2.keep a u hu na
  · unfold fpB
    cases hk : lentIx es j with
    | some k =>
      obtain ⟨x, v, d', _, _, _, _, _, _, h7⟩ := lent j k hk
      exact absurd h7 (h d')
    | none => exact R1.out j fun d e => h d (by rw [b2 j (lentIx_mem hk)]; exact e)
  · unfold fpB at h z
    cases hk : lentIx es j with
    | some k =>
      rw [hk] at h
      cases hm : lentIx es m with
      | some k2 =>
        rw [hm] at z
        refine G.dis k k2 a (fun e => ?_) h z
        subst e
        obtain ⟨e1, q1, q2⟩ := lentIx_get hk
        obtain ⟨e2, q3, q4⟩ := lentIx_get hm
        rw [q1] at q3
        cases q3
        rw [q2] at q4
        cases q4
        exact n rfl
      | none =>
        rw [hm] at z
        obtain ⟨⟨u, hu⟩, na⟩ := apart m hm a z
        rcases s2.own k a h with y | ⟨i, y⟩
        · rw [hu] at y; cases y
        · exact na i y
    | none =>
      rw [hk] at h
      obtain ⟨⟨u, hu⟩, na⟩ := apart j hk a h
      cases hm : lentIx es m with
      | some k2 =>
        rw [hm] at z
        rcases s2.own k2 a z with y | ⟨i, y⟩
        · rw [hu] at y; cases y
        · exact na i y
      | none =>
        rw [hm] at z
        exact R1.dis j m a n h z
  · unfold fpB at h
    cases hk : lentIx es j with
    | some k => rw [hk] at h; exact G.nF k a h z
    | none =>
      rw [hk] at h
      obtain ⟨⟨u, hu⟩, na⟩ := apart j hk a h
      rcases s2.new a z with y | y | ⟨i, y⟩
      · exact R1.nF j a h y
      · rw [hu] at y; cases y
      · exact na i y
end
section
variable {X : Cx} {ec : Ec} {W : WX} {C : Env}
theorem de_call {f k np : Nat} {ad : Addr} {fd : FuncData} {ps : List Str} {x : Str} {e : Expr} {es : List Expr} {is : List Ex} {p pos : Pos} (F : FnOk X.prog X.w X.K X.mg X.base (CX X.prog X.w) k ad fd ps (spF X.K ec np (C.io f) (C.run f))) (hr : Room k X.A) (hg : Gl X x) (hm : X.mg x = some (.ref ad)) (hk : PySem.W.keepIn X.K (.ref ad) = true) (hb : Binds X.K fd ps [])
    (hx : ∀ σ, PassesAt (CX X.prog X.w) X σ (WE W σ)) (hdb : (x == ("__debug__" : Str)) = false) (ha : PAa X ec W C (C.io f) 0 (e :: es) is) (hn : noStars (e :: es) = true) (hnp : is.length = np) : PEo X ec W C (.Call (.Name x p) (e :: es) [] pos) (.call f is) := by
  have hn2 := hn
  unfold noStars at hn2
  rw [Bool.and_eq_true, Bool.not_eq_true'] at hn2
  refine pe_mono (pe_callSD (dvs := []) (ds := []) (E := WE W) F hr hg hm hk hb .nil hx ha hdb (star_ok hn2.1) (noStars_any hn2.2)) fun σ H Q hv z => ?_
  obtain ⟨F0, fp0, r0, R0, y⟩ := tO_open hv z
  simp only [evO] at y
  refine bndA isO R0 y fun ds r1 ea F1 fp1 H1 vs qs hv1 s1 R1 A T => ?_
  rw [ea] at y
  have y : EndO X.K ec W σ Q F0 fp0 H (if (lentS is).Nodup then (match lend r1 is ds with
      | some vs => (match C.run f vs with
        | .ok d outs => (match back (C.io f) outs 0 is r1 with
          | some r' => .ok d r'
          | none => .stuck)
        | .exc x outs => (match back (C.io f) outs 0 is r1 with
          | some r' => .exc x r'
          | none => .stuck)
        | .stuck => .stuck)
      | none => .stuck) else .stuck) := y
  split at y
  · rename_i nd
    cases hl : lend r1 is ds with
    | none => rw [hl] at y; exact y.elim
    | some xs =>
      rw [hl] at y
      dsimp only at y
      obtain ⟨l1, l2, _⟩ := argL_at A hl R1
      rw [List.append_nil]
      refine ⟨by omega, fun _ => ⟨F1, fpC fp1 is qs, xs, call_rel R1 A T hl nd, ?_⟩⟩
      cases er : C.run f xs with
      | stuck => rw [er] at y; exact y.elim
      | ok d outs =>
        rw [er] at y
        dsimp only at y
        cases hbk : back (C.io f) outs 0 is r1 with
        | none => rw [hbk] at y; exact y.elim
        | some r' =>
          rw [hbk] at y
          intro F' fp' H' v q hv' g hv2
          obtain ⟨s3, R3⟩ := call_back s1 R1 A T hl nd hnp g.st g.rel hbk
          refine y F' _ H' v q hv2 ⟨s3, R3, g.own, g.qF, fun a j h z => ?_, fun a h => call_free s1 T (g.qnew a h)⟩
          unfold fpB at z
          cases hj : lentIx is j with
          | some m => rw [hj] at z; exact g.qfp a m h z
          | none =>
            rw [hj] at z
            obtain ⟨u, hu⟩ := R1.fpT z
            rcases g.qnew a h with w | ⟨i, w⟩
            · rw [hu] at w; cases w
            · exact call_apart R1 T nd hj z i w
      | exc x outs =>
        rw [er] at y
        dsimp only at y
        cases hbk : back (C.io f) outs 0 is r1 with
        | none => rw [hbk] at y; exact y.elim
        | some r' =>
          rw [hbk] at y
          intro F' fp' H' c dx s2 R2 zx
          obtain ⟨s3, R3⟩ := call_back s1 R1 A T hl nd hnp s2 R2 hbk
          exact y F' _ H' c dx s3 R3 zx
  · exact y.elim
end
/-! ### a def keeps its promise -/
theorem start_rel {K : PySem.W.Frag} {F : FS} {fp : Nat → List Addr} {H : Hp} {vs : List V} {ds : List D} {n : Nat} {N : List Str} (R : Rel K F fp H (vs.map some) (ds.map some)) (hn : n = N.length) : Rel K F fp H (L2.start N vs) (ds.map some ++ List.replicate (n - ds.length) none) := by
  have hl : ds.length = vs.length := by simpa using R.len
  have lo : ∀ (i : Nat) (x : D), (ds.map some ++ List.replicate (n - ds.length) none)[i]? = some (some x) → (ds.map some)[i]? = some (some x) := fun i x h => by
    by_cases hi : i < ds.length
    · rw [List.getElem?_append_left (by simpa using hi)] at h; exact h
    · rw [List.getElem?_append_right (by simpa using hi), List.getElem?_replicate] at h
      split at h <;> cases h
  refine ⟨?_, fun i x h => ?_, fun i h => ?_, R.dis, R.nF, R.trF⟩
  · unfold L2.start
    simp [hl, hn]
  · obtain ⟨v, e, o⟩ := R.slot i x (lo i x h)
    refine ⟨v, ?_, o⟩
    unfold L2.start
    have hi : i < (vs.map some).length := (List.getElem?_eq_some_iff.mp e).1
    rw [List.getElem?_append_left hi]
    exact e
  · refine R.out i fun x e => h x ?_
    have hi : i < (ds.map some).length := (List.getElem?_eq_some_iff.mp e).1
    rw [List.getElem?_append_left hi]
    exact e
theorem outs_at {r : Rho} : ∀ {io : List Nat} {outs : List D} {k : Nat} {d : D}, outsOf io r = some outs → (io.zip outs).lookup k = some d → k ∈ io ∧ getS r k = some d
  | [], _, _, _, _, h => by simp at h
  | i :: io, outs, k, d, e, h => by
    unfold outsOf at e
    cases h1 : getS r i with
    | none => rw [h1] at e; cases e
    | some x =>
      cases h2 : outsOf io r with
      | none => rw [h1, h2] at e; cases e
      | some ys =>
        rw [h1, h2] at e
        cases e
        rw [List.zip_cons_cons, List.lookup_cons] at h
        by_cases hk : k = i
        · subst hk
          rw [show (k == k) = true by simp] at h
          cases h
          exact ⟨List.mem_cons_self, h1⟩
        · rw [show (k == i) = false by simp [hk]] at h
          obtain ⟨a, b⟩ := outs_at h2 h
          exact ⟨List.mem_cons_of_mem _ a, b⟩
/-- what stands at the lent parameters at the end -/
theorem outs_rel {K : PySem.W.Frag} {F' : FS} {fp' : Nat → List Addr} {H' : Hp} {σ' : St} {r' : Rho} {vs : List V} {N : List Str} {io : List Nat} {np : Nat} {outs : List D} (R : Rel K F' fp' H' σ' r') (ag : Agr io (L2.start N vs) σ') (ho : outsOf io r' = some outs) (hv : vs.length = np) :
    Rel K F' (fun k => if k < np ∧ k ∈ io then fp' k else []) H' (vs.map some) (outR np io outs) := by
  refine ⟨by simp [outR, hv], fun k d h => ?_, fun k h => ?_, fun k m a n h z => ?_, fun k a h z => ?_, R.trF⟩
  · obtain ⟨h1, h2⟩ := outR_get.mp h
    obtain ⟨h3, h4⟩ := outs_at ho h2
    obtain ⟨v, e1, o⟩ := R.slot k d (getS_some h4)
    rw [ag.2 k h3] at e1
    unfold L2.start at e1
    rw [List.getElem?_append_left (by simp [hv]; exact h1)] at e1
    exact ⟨v, e1, by rw [if_pos ⟨h1, h3⟩]; exact o⟩
  · by_cases hk : k < np ∧ k ∈ io
    · rw [if_pos hk]
      refine R.out k fun d e => ?_
      -- the parameter is there, so it is among what comes back
      have key : ∀ {io : List Nat} {outs : List D}, outsOf io r' = some outs → k ∈ io → ∃ d, (io.zip outs).lookup k = some d := by
        intro io
        induction io with
        | nil => intro outs _ h; cases h
        | cons i io ih =>
          intro outs e h
          unfold outsOf at e
          cases h1 : getS r' i with
          | none => rw [h1] at e; cases e
          | some x =>
            cases h2 : outsOf io r' with
            | none => rw [h1, h2] at e; cases e
            | some ys =>
              rw [h1, h2] at e
              cases e
              rw [List.zip_cons_cons, List.lookup_cons]
              by_cases hki : k = i
              · exact ⟨x, by rw [show (k == i) = true by simp [hki]]⟩
              · rw [show (k == i) = false by simp [hki]]
                rcases List.mem_cons.mp h with h | h
                · exact absurd h hki
                · exact ih h2 h
      obtain ⟨d', e'⟩ := key ho hk.2
      exact h d' (outR_get.mpr ⟨hk.1, e'⟩)
    · rw [if_neg hk]
  · split at h
    · split at z
      · exact R.dis k m a n h z
      · cases z
    · cases h
  · split at h
    · exact R.nF k a h z
    · cases h
/-! ### a def of *args; what is never reached -/
/-- a *args def's promise -/
def spS (K : PySem.W.Frag) (ec : Ec) (run : List D → CRes) : Sp := fun vs H Q E => vs.length ≤ sizeLine ∧ ∀ p, H p = none → spF K ec 1 [] run [V.ref p] (upd H p (.tup vs)) Q E
section
variable {X : Cx} {ec : Ec} {W : WX} {C : Env}
theorem run_fnRS {CX : CXT} {k : Nat} {f : Addr} {sp : Sp} {E : XK} {Q : VK} {us : List Value} {vs : List V} {pins : List (Addr × Obj)} {σ : St} {H : Hp} {s : Shared} (F : FnR X.prog X.w X.K X.mg X.base CX k f sp) (hr : Room k X.A) (hx : PassesAt CX X σ E) (I : Inv X pins σ H s) (r : Vals vs us) (h : sp vs H Q E) :
    codeAny (model X.prog X.w) X.A (.call (.ref f) ⟨us, []⟩) (fun r s' => match r with | .ok (.ret v) => EP X pins σ Q v s' | .ok _ => False | .error e => X.xe e s') s := by
  refine codeAny_mono (F X.A X.stack s H us vs Q E hr I.env0 r h) fun r s' hq => ?_
  cases r with
  | error e => exact hx pins H s e s' I hq
  | ok fl =>
    cases fl with
    | ret u => exact I.after hq
    | next => exact False.elim hq
    | brk => exact False.elim hq
    | cont => exact False.elim hq
theorem pe_callRS {CX : CXT} {k : Nat} {f : Addr} {sp : Sp} {E : St → XK} {x : Str} {e : Expr} {es : List Expr} {t : TA} {p pos : Pos} (F : FnR X.prog X.w X.K X.mg X.base CX k f sp) (hr : Room k X.A) (hg : Gl X x) (hm : X.mg x = some (.ref f)) (hk : PySem.W.keepIn X.K (.ref f) = true) (hx : ∀ σ, PassesAt CX X σ (E σ))
    (ha : PA X (e :: es) t) (hdb : (x == ("__debug__" : Str)) = false) (he : starEach (e :: es) X.env = (false, eval e X.env) :: starEach es X.env) (hpl : (backTo pos (starEach es X.env)).any (·.1) = false) :
    PE X (.Call (.Name x p) (e :: es) [] pos) (fun σ H Q => t σ H fun vs H1 => sp vs H1 Q (E σ)) := by
  refine ⟨fun pins s σ H Q I h => ?_⟩
  refine wpAny_Call_Name_kw (ld_glob I hg hm ?_ hdb)
  refine PySem.W.callWith_K (h₀ := X.base) I.ok.mod.kin hk (thn (ha.run pos pins s σ H _ I h) fun us s1 ⟨vs, H1, I1, r, q⟩ => ⟨I1.kIn, ?_⟩) he hpl
  exact wpAny_call (run_fnRS F hr (hx σ) I1 r q)
theorem de_callS {f k : Nat} {ad : Addr} {x : Str} {e : Expr} {es : List Expr} {is : List Ex} {p pos : Pos} (F : FnR X.prog X.w X.K X.mg X.base (CX X.prog X.w) k ad (spS X.K ec (C.run f))) (hr : Room k X.A) (hg : Gl X x) (hm : X.mg x = some (.ref ad)) (hk : PySem.W.keepIn X.K (.ref ad) = true)
    (hx : ∀ σ, PassesAt (CX X.prog X.w) X σ (WE W σ)) (hdb : (x == ("__debug__" : Str)) = false) (ha : PAl X ec W C (e :: es) is) (hn : noStars (e :: es) = true) : PEo X ec W C (.Call (.Name x p) (e :: es) [] pos) (.callS f is) := by
  have hn2 := hn
  unfold noStars at hn2
  rw [Bool.and_eq_true, Bool.not_eq_true'] at hn2
  refine pe_mono (pe_callRS (E := WE W) F hr hg hm hk hx ha hdb (star_ok hn2.1) (noStars_any hn2.2)) fun σ H Q hv z => ?_
  obtain ⟨F0, fp0, r0, R0, y⟩ := tO_open hv z
  simp only [evO] at y
  refine bndL isO R0 y fun ds r1 F1 fp1 H1 vs hv1 s1 R1 zf y => ?_
  split at y
  · rename_i hl
    refine ⟨by rw [← zf.len]; exact hl, fun p hp => ⟨rfl, fun hv2 => ?_⟩⟩
    obtain ⟨n1, n2⟩ := new_tup R1.trF hp zf
    have s2 : Step fp1 F1 H1 fp1 _ _ := n1.step
    have R2 := R1.newer n1
    have A : ArgL X.K (fun a => F1 a ∨ a = p) (upd H1 p (.tup vs)) σ [Ex.tup is] [.tup ds] [V.ref p] [[]] := .ex (fun j e => nomatch e) n2 .nil
    have T : TmpOk F1 fp1 H1 (fun a => F1 a ∨ a = p) fp1 [[]] := ⟨by simp, fun q hq a ha => by
      rw [List.mem_singleton] at hq
      subst hq
      cases ha⟩
    have hl2 : lend r1 [Ex.tup is] [.tup ds] = some [.tup ds] := rfl
    have nd : (lentS [Ex.tup is]).Nodup := by simp [lentS]
    have hb : ∀ outs, back [] outs 0 [Ex.tup is] r1 = some r1 := fun outs => rfl
    refine ⟨_, fpC fp1 [Ex.tup is] [[]], [.tup ds], call_rel R2 A T hl2 nd, ?_⟩
    cases er : C.run f [.tup ds] with
    | stuck => rw [er] at y; exact y.elim
    | ok d outs =>
      rw [er] at y
      intro F' fp' H' v q hv' g hv3
      obtain ⟨s3, R3⟩ := call_back s2 R2 A T hl2 nd rfl g.st g.rel (hb outs)
      refine y F' _ H' v q hv3 ⟨s3, R3, g.own, g.qF, fun a j h z => ?_, fun a h => call_free s2 T (g.qnew a h)⟩
      unfold fpB at z
      cases hj : lentIx [Ex.tup is] j with
      | some m => rw [hj] at z; exact g.qfp a m h z
      | none =>
        rw [hj] at z
        obtain ⟨u, hu⟩ := R2.fpT z
        rcases g.qnew a h with w | ⟨i, w⟩
        · rw [hu] at w; cases w
        · exact call_apart R2 T nd hj z i w
    | exc x outs =>
      rw [er] at y
      intro F' fp' H' c dx s3 R3 zx
      obtain ⟨s4, R4⟩ := call_back s2 R2 A T hl2 nd rfl s3 R3 (hb outs)
      exact y F' _ H' c dx s4 R4 zx
  · exact y.elim
theorem de_nd {pos : Pos} : PEo X ec W C (.Dict [] [] pos) .nd :=
  pe_mono pe_dnewK fun σ H Q hv z => by
    obtain ⟨F, fp, r, R, y⟩ := tO_open hv z
    simp only [evO] at y
    intro p hp hv2
    exact EndO.new y hv2 R (.own hp) ⟨p, rfl, .inl ⟨[], upd_same, rfl⟩, rfl⟩ fun a z => by
      rw [List.mem_singleton] at z
      subst z
      refine ⟨fun y => ?_, hp⟩
      obtain ⟨o, e⟩ := R.trF _ y
      rw [hp] at e
      cases e
theorem pe_never {e : Expr} {i : Ex} (h : ∀ r, evO C i r = .stuck) : PEo X ec W C e i := ⟨fun pins s σ H Q I z => by
  obtain ⟨F, fp, r, R, y⟩ := z (hv_of I)
  rw [h] at y
  exact y.elim⟩
theorem pw_never {e : Expr} {i : Ex} (h : ∀ r, evO C i r = .stuck) : PWb X ec W C e i := ⟨fun whole pins s σ H Q I z => by
  obtain ⟨F, fp, r, R, y⟩ := z (hv_of I)
  dsimp only at y
  rw [h] at y
  exact y.elim⟩
theorem ps_never {w : Nat} {pr : List Nat} {st : Stmt} : PSt X ec W C w pr st .stop := ⟨fun pins s σ H Q I z => by
  obtain ⟨F, fp, r, R, y⟩ := z (hv_of I)
  simp only [evS] at y
  exact y.elim⟩
end
end Y
set_option Elab.async false
set_option linter.all false
set_option maxRecDepth 100000
set_option maxHeartbeats 4000000
/-! Y14: the text held against its form. -/
namespace Y
open PySem PySem.Spec L2
open PyProof.Rows hiding St

/-! ### the text and its form by slots are held against each other -/
structure Pgm where
  fn : Nat → Option Fn
  nm : Nat → Str
  cst : List (Str × D)
  star : Nat → Bool
def cEq : Const → D → Bool
  | .none, .non => true
  | .bool b, .bl c => b == c
  | .int i, .int j => decide (i = j)
  | .str s, .str t => decide (s = t)
  | _, _ => false
def sEq : D → D → Bool
  | .non, .non => true
  | .bl b, .bl c => b == c
  | .int i, .int j => decide (i = j)
  | .str s, .str t => decide (s = t)
  | .ty m, .ty n => decide (m = n)
  | _, _ => false
theorem cEq_ok {c : Const} {d : D} (h : cEq c d = true) : cD c = some d := by
  cases c <;> cases d <;> first | (cases h; done) | skip
  · rfl
  · rw [eq_of_beq h]; rfl
  · rw [of_decide_eq_true h]; rfl
  · rw [of_decide_eq_true h]; rfl
theorem sEq_ok {a b : D} (h : sEq a b = true) : a = b := by
  cases a <;> cases b <;> first | (cases h; done) | skip
  · rfl
  · rw [eq_of_beq h]
  · rw [of_decide_eq_true h]
  · rw [of_decide_eq_true h]
  · rw [of_decide_eq_true h]
def visB (sc : Scope) (x : Str) : Bool := match sc.names.lookup x with
  | some .local => true
  | some .cell => true
  | some .free => true
  | _ => false
def glB (sc : Scope) (x : Str) : Bool := decide (sc.names.lookup x = some .globalImplicit)
def locB (sc : Scope) (st : Str → Bool) (x : Str) : Bool := match sc.names.lookup x with
  | some .local => true
  | some .cell => st x
  | _ => false
def plainN (x : Str) : Bool := !(x == ("__debug__" : Str)) && !(x == ("__classdict__" : Str))
def slotB (N : List Str) (sc : Scope) (i : Nat) (x : Str) : Bool := decide (N[i]? = some x) && visB sc x && plainN x
def plainIxB : Expr → Bool
  | .Slice _ _ _ _ => false
  | _ => true
def notSet : Expr → Bool
  | .Set _ _ _ => false
  | _ => true
/-- may it stand as a test -/
def tstB : Ex → Bool
  | .ife _ _ _ => false
  | .not a => tstB a
  | .and a b => tstB a && tstB b
  | .or a b => tstB a && tstB b
  | _ => true
def opEq : Operator → Op → Bool := fun a b => decide (a = opOf b)
def cmEq : CmpOp → Cm → Bool := fun a b => decide (a = cmOf b)
section
variable (G : Pgm) (N : List Str)
mutual
def chkT (sc : Scope) (st : Str → Bool) : Tg → Expr → Bool
  | .nm i, .Name x _ => decide (N[i]? = some x) && locB sc st x
  | .tp ts, .Tuple es _ _ => chkTs sc st ts es && noStars es
  | _, _ => false
def chkTs (sc : Scope) (st : Str → Bool) : List Tg → List Expr → Bool
  | [], [] => true
  | t :: ts, e :: es => chkT sc st t e && !isStar e && chkTs sc st ts es
  | _, _ => false
end
def ownOf (own : List Nat) : List (Str × Nat) := own.map fun i => ((N[i]?).getD ("" : Str), i)
mutual
def chkE (sc : Scope) (st : Str → Bool) : Ex → Expr → Bool
  | .var i, ex => (match ex with
    | .Name x _ => slotB N sc i x
    | _ => false)
  | .cst d, ex => (match ex with
    | .Constant c _ _ => cEq c d
    | _ => false)
  | .glb x d, ex => (match ex with
    | .Name y _ => decide (y = x) && glB sc x && plainN x && (G.cst.any fun p => decide (p.1 = x) && sEq p.2 d)
    | _ => false)
  | .tup is, ex => (match ex with
    | .Tuple es _ _ => chkL sc st is es
    | _ => false)
  | .lst is, ex => (match ex with
    | .List es _ => chkL sc st is es
    | _ => false)
  | .bin o a b, ex => (match ex with
    | .BinOp l op r _ => opEq op o && chkE sc st a l && chkE sc st b r
    | _ => false)
  | .neg a, ex => (match ex with
    | .UnaryOp .USub e _ => chkE sc st a e
    | _ => false)
  | .not a, ex => (match ex with
    | .UnaryOp .Not e _ => chkE sc st a e
    | _ => false)
  | .cmp o a b, ex => (match ex with
    | .Compare l [op] [r] _ => cmEq op o && !behindInMarks op r && chkE sc st a l && chkE sc st b r
    | _ => false)
  | .chain o1 o2 a b c, ex => (match ex with
    | .Compare l [p1, p2] [m, r] _ => cmEq p1 o1 && cmEq p2 o2 && !lastMarks [p1, p2] [m, r] && chkE sc st a l && chkE sc st b m && chkE sc st c r
    | _ => false)
  | .and a b, ex => (match ex with
    | .BoolOp .And (x :: rest) pos => chkE sc st a x && (match rest with
        | [] => false
        | [y] => chkE sc st b y
        | y :: ys => chkE sc st b (.BoolOp .And (y :: ys) pos))
    | _ => false)
  | .or a b, ex => (match ex with
    | .BoolOp .Or (x :: rest) pos => chkE sc st a x && (match rest with
        | [] => false
        | [y] => chkE sc st b y
        | y :: ys => chkE sc st b (.BoolOp .Or (y :: ys) pos))
    | _ => false)
  | .ife c a b, ex => (match ex with
    | .IfExp t x y _ => tstB c && chkE sc st c t && chkE sc st a x && chkE sc st b y
    | _ => false)
  | .idx a i, ex => (match ex with
    | .Subscript e s _ => plainIxB s && chkE sc st a e && chkE sc st i s
    | _ => false)
  | .idxV s i, ex => (match ex with
    | .Subscript (.Name x _) e _ => slotB N sc s x && plainIxB e && chkE sc st i e
    | _ => false)
  | .call f is, ex => (match ex with
    | .Call (.Name x _) (e :: es) [] _ => decide (x = G.nm f) && glB sc x && plainN x && noStars (e :: es) && !G.star f && (match G.fn f with
        | some F => decide (is.length = F.np)
        | none => false) && chkA sc st is (e :: es)
    | _ => false)
  | .blt b is, ex => (match ex with
    | .Call (.Name x _) (e :: es) [] _ => decide (x = blName b) && glB sc x && noStars (e :: es) && chkL sc st is (e :: es)
    | _ => false)
  | .join a b, ex => (match ex with
    | .Call (.Attribute o m ap) [e] [] pos => decide (m = ("join" : Str)) && notCall o && !isStar e && (ap.endLine == pos.line) && chkE sc st a o && chkE sc st b e
    | _ => false)
  | .lrng a b, ex => (match ex with
    | .Call (.Name x _) [.Call (.Name y _) [p, q] [] _] [] _ => decide (x = ("list" : Str)) && decide (y = ("range" : Str)) && glB sc x && glB sc y && !isStar p && !isStar q && chkE sc st a p && chkE sc st b q
    | _ => false)
  | .lc elt tg own it ifs, ex => (match ex with
    | .ListComp e [⟨t, i, cs, as⟩] scope _ => decide (as = 0) && blkC N sc scope (ownOf N own) && decide (∀ j, j ∈ slT tg → j ∈ own) && notSet i && chkI sc st it i &&
          chkT N (relS scope sc) (fun x => scope.names.lookup x == some .cell) tg t && chkC (relS scope sc) (fun x => scope.names.lookup x == some .cell) ifs cs && chkE (relS scope sc) (fun x => scope.names.lookup x == some .cell) elt e
    | _ => false)
  | .callS f is, ex => (match ex with
    | .Call (.Name x _) (e :: es) [] _ => decide (x = G.nm f) && glB sc x && plainN x && noStars (e :: es) && G.star f && (G.fn f).isSome && chkL sc st is (e :: es)
    | _ => false)
  | .nd, ex => (match ex with
    | .Dict [] [] _ => true
    | _ => false)
  | .stop, _ => true
  | .lv _, _ => false
def chkL (sc : Scope) (st : Str → Bool) : List Ex → List Expr → Bool
  | [], [] => true
  | i :: is, e :: es => !isStar e && chkE sc st i e && chkL sc st is es
  | _, _ => false
/-- a clause's tests: none or one -/
def chkC (sc : Scope) (st : Str → Bool) : List Ex → List Expr → Bool
  | [], [] => true
  | [i], [e] => tstB i && chkE sc st i e
  | _, _ => false
def chkA (sc : Scope) (st : Str → Bool) : List Ex → List Expr → Bool
  | [], [] => true
  | .lv j :: is, .Name x _ :: es => slotB N sc j x && chkA sc st is es
  | i :: is, e :: es => !(isLv i).isSome && !isStar e && chkE sc st i e && chkA sc st is es
  | _, _ => false
def chkI (sc : Scope) (st : Str → Bool) : Ite → Expr → Bool
  | .seq i, e => chkE sc st i e
  | .rng1 a, .Call (.Name x _) [p] [] _ => decide (x = ("range" : Str)) && glB sc x && !isStar p && chkE sc st a p
  | .rng2 a b, .Call (.Name x _) [p, q] [] _ => decide (x = ("range" : Str)) && glB sc x && !isStar p && !isStar q && chkE sc st a p && chkE sc st b q
  | _, _ => false
end
end
/-! ### where one stands -/
def GOk (X : Cx) (x : Str) (d : D) : Prop := (∃ u v, X.mg x = some u ∧ RelV v u ∧ (∀ F H, Frz X.K F H d v) ∧ d.fz = d) ∨ (∃ n, d = .ty n ∧ X.mg x = none ∧ bootBuiltins x = some (.type n) ∧ x ≠ "__name__")
structure Ctx (G : Pgm) (C : Env) (ec : Ec) (k : Nat) (N : List Str) (sc : Scope) (st : Str → Bool) (X : Cx) (W : WX) : Prop where
  hN : X.N = N
  nd : N.Nodup
  scope : X.env.scope = sc
  kind : sc.kind = .function
  calm : X.calm = true
  room : Room (k + 1) X.A
  fnc : ∀ x, st x = true → X.fn x = true
  blt : ∀ b, X.mg (blName b) = none
  rng : X.mg "range" = none
  cst : ∀ p, p ∈ G.cst → GOk X p.1 p.2
  calS : ∀ f F, G.fn f = some F → G.star f = true → ∃ ad, X.mg (G.nm f) = some (.ref ad) ∧ PySem.W.keepIn X.K (.ref ad) = true ∧ FnR X.prog X.w X.K X.mg X.base (CX X.prog X.w) k ad (spS X.K ec (C.run f))
  call : ∀ f F, G.fn f = some F → G.star f = false → C.io f = F.io ∧ ∃ ad fd ps, X.mg (G.nm f) = some (.ref ad) ∧ PySem.W.keepIn X.K (.ref ad) = true ∧ Binds X.K fd ps [] ∧ FnOk X.prog X.w X.K X.mg X.base (CX X.prog X.w) k ad fd ps (spF X.K ec F.np F.io (C.run f))
  pas : ∀ σ, PassesAt (CX X.prog X.w) X σ (WE W σ)
  own : PassesOwn (model X.prog X.w) X.A X.env X.xe
section
variable {G : Pgm} {C : Env} {ec : Ec} {k : Nat} {N : List Str} {sc : Scope} {st : Str → Bool} {X : Cx} {W : WX}
theorem Ctx.units (c : Ctx G C ec k N sc st X W) : X.A.units + 65 < cLine := by
  have h := c.room.un
  omega
/-- within a comprehension's block -/
theorem Ctx.blk (c : Ctx G C ec k N sc st X W) {scope : Scope} (hk : scope.kind = .function) (s : Shared) (H : Hp) (A : Addr) (cl : List (Str × Addr)) (fp : List Addr) :
    Ctx G C ec k N (relS scope sc) (fun x => scope.names.lookup x == some .cell) (X.blk s H scope (compEnvC scope cl A X.env) fp) WF where
  hN := c.hN
  nd := c.nd
  scope := by
    have h := c.scope
    subst h
    rfl
  kind := hk
  calm := c.calm
  room := c.room
  fnc := fun x h => h
  blt := c.blt
  rng := c.rng
  cst := c.cst
  call := c.call
  calS := c.calS
  pas := fun σ pins H s e s' I h => by
    obtain ⟨a, B, H', cls, d, _, _, _, _, _, _, _, h⟩ := h
    exact h
  own := PassesOwn.never
theorem Ctx.slot (c : Ctx G C ec k N sc st X W) {i : Nat} {x : Str} (h : slotB N sc i x = true) : X.N[i]? = some x ∧ Vis X.env.scope x ∧ (x == ("__debug__" : Str)) = false ∧ (x == ("__classdict__" : Str)) = false := by
  unfold slotB plainN at h
  simp only [Bool.and_eq_true, decide_eq_true_eq, Bool.not_eq_true'] at h
  refine ⟨by rw [c.hN]; exact h.1.1, ?_, h.2.1, h.2.2⟩
  rw [c.scope]
  have hv := h.1.2
  unfold visB at hv
  unfold Vis
  split at hv
  · exact .inl (by assumption)
  · exact .inr (.inl (by assumption))
  · exact .inr (.inr (by assumption))
  · cases hv
theorem Ctx.gl (c : Ctx G C ec k N sc st X W) {x : Str} (h : glB sc x = true) : Gl X x := by
  unfold glB at h
  unfold Gl Env.kindOf
  rw [c.scope]
  exact of_decide_eq_true h
theorem Ctx.loc (c : Ctx G C ec k N sc st X W) {x : Str} (h : locB sc st x = true) : L2.Loc X.env.scope x ∧ (X.fn x = true ∨ X.env.scope.names.lookup x = some .local) := by
  unfold locB at h
  unfold L2.Loc
  rw [c.scope]
  split at h
  · rename_i e
    exact ⟨.inl e, .inr e⟩
  · rename_i e
    exact ⟨.inr e, .inl (c.fnc x h)⟩
  · cases h
theorem plainN_ok {x : Str} (h : plainN x = true) : (x == ("__debug__" : Str)) = false := by
  unfold plainN at h
  simp only [Bool.and_eq_true, Bool.not_eq_true'] at h
  exact h.1
theorem plainIx_ok {e : Expr} (h : plainIxB e = true) : PlainIx e := by
  cases e <;> first | (intro o i; rfl) | cases h
theorem folded_ok {e : Expr} {env : PySem.Env} (h : notSet e = true) : ∀ x, foldedSetIterable e env x = pure x := by
  cases e <;> first | (intro x; rfl) | cases h
mutual
theorem soundT (c : Ctx G C ec k N sc st X W) : ∀ (t : Tg) (e : Expr), chkT N sc st t e = true → PG X e (gT X.K t)
  | .nm i, e, h => by
    cases e <;> simp only [chkT] at h <;> try cases h
    simp only [Bool.and_eq_true, decide_eq_true_eq] at h
    obtain ⟨h1, h2⟩ := c.loc h.2
    exact dg_nm (by rw [c.hN]; exact c.nd) (by rw [c.hN]; exact h.1) h1 h2
  | .tp ts, e, h => by
    cases e <;> simp only [chkT] at h <;> try cases h
    rename_i es _ _
    simp only [Bool.and_eq_true] at h
    obtain ⟨h1, h2⟩ := soundTs c ts es h.1
    exact dg_tp c.calm h1 h.2 h2
theorem soundTs (c : Ctx G C ec k N sc st X W) : ∀ (ts : List Tg) (es : List Expr), chkTs N sc st ts es = true → PGs X es (gTs X.K ts) ∧ es.length = ts.length
  | [], es, h => by
    cases es with
    | nil => exact ⟨dg_nil, rfl⟩
    | cons e es => simp only [chkTs] at h; cases h
  | t :: ts, es, h => by
    cases es with
    | nil => simp only [chkTs] at h; cases h
    | cons e es =>
      simp only [chkTs, Bool.and_eq_true, Bool.not_eq_true'] at h
      obtain ⟨h1, h2⟩ := soundTs c ts es h.2
      exact ⟨dg_cons (soundT c t e h.1.1) h1 h.1.2, by simp [h2]⟩
end
end
end Y
set_option Elab.async false
set_option linter.all false
set_option maxRecDepth 100000
set_option maxHeartbeats 4000000
/-! Y15: every expression of the form is walked. -/
namespace Y
open PySem PySem.Spec L2
open PyProof.Rows hiding St

section
variable {G : Pgm} {C : Env} {ec : Ec} {k : Nat} {N : List Str}
theorem isLv_none {i : Ex} (h : (!(isLv i).isSome) = true) : ∀ j, i ≠ .lv j := fun j e => by
  subst e
  cases h
theorem chkA_cons {sc : Scope} {st : Str → Bool} {i : Ex} {is : List Ex} {e : Expr} {es : List Expr} (h : chkA G N sc st (i :: is) (e :: es) = true) :
    (∃ j x p, i = .lv j ∧ e = .Name x p ∧ slotB N sc j x = true ∧ chkA G N sc st is es = true) ∨ ((∀ j, i ≠ .lv j) ∧ isStar e = false ∧ chkE G N sc st i e = true ∧ chkA G N sc st is es = true) := by
  cases i with
  | lv j =>
    cases e with
    | Name x p =>
      simp only [chkA, Bool.and_eq_true] at h
      exact .inl ⟨j, x, p, rfl, rfl, h.1, h.2⟩
    | _ =>
      simp only [chkA, Bool.and_eq_true] at h
      exact absurd h.1.1.1 (by simp [isLv])
  | _ =>
    simp only [chkA, Bool.and_eq_true, Bool.not_eq_true'] at h
    exact .inr ⟨fun j e => (nomatch e), h.1.1.2, h.1.2, h.2⟩
def isBO : Expr → Bool
  | .BoolOp _ _ _ => true
  | _ => false
def SE (X : Cx) (ec : Ec) (W : WX) (C : Env) (e : Expr) (i : Ex) : Prop := PEo X ec W C e i ∧ (tstB i = true → PTb X ec W C e i) ∧ (tstB i = true → isBO e = true → PWb X ec W C e i)
theorem seV {X : Cx} {W : WX} {e : Expr} {i : Ex} (p : PEo X ec W C e i) (he : ∀ whole, isTrue e X.env whole = (do let v ← whole; standAt e.pos; holding [v] (truthy v))) (hb : isBO e = false) : SE X ec W C e i := ⟨p, fun _ => dt_val p he, fun _ h => by rw [hb] at h; cases h⟩
theorem ownOf_map (own : List Nat) : (ownOf N own).map (·.2) = own := by
  unfold ownOf
  rw [List.map_map]
  show own.map (fun i => i) = own
  exact List.map_id' own
theorem evT_one (c : Ex) : (evT C [c]) = fun r => asB (evO C c r) := by
  funext r
  simp only [evT]
  cases asB (evO C c r) with
  | ok b r' => cases b <;> rfl
  | exc x r' => rfl
  | stuck => rfl
theorem pts_nil' {X : Cx} {W : WX} : PTs X [] (tB X.K ec W (evT C [])) := ⟨fun pins s σ H Q I h => by
  obtain ⟨F, fp, r, R, y⟩ := h (hv_of I)
  exact pts_nil.run pins s σ H Q I (y F fp H (hv_of I) .refl R)⟩
theorem se_stop {X : Cx} {W : WX} {e : Expr} : SE X ec W C e .stop := by
  have h : ∀ r, evO C .stop r = .stuck := fun r => by simp only [evO]
  exact ⟨pe_never h, fun _ => (pw_never h).pt, fun _ _ => pw_never h⟩
mutual
theorem soundE : ∀ (i : Ex) (e : Expr) (sc : Scope) (st : Str → Bool) (X : Cx) (W : WX), Ctx G C ec k N sc st X W → chkE G N sc st i e = true → SE X ec W C e i
  | .var j, e, sc, st, X, W, c, h => by
    cases e with
    | Name x pos =>
      simp only [chkE] at h
      obtain ⟨h1, h2, h3, h4⟩ := c.slot h
      have p : PEo X ec W C (.Name x pos) (.var j) := de_var h1 h2 h3 h4
      exact seV p (fun _ => rfl) rfl
    | _ => simp only [chkE] at h; cases h
  | .lv j, e, sc, st, X, W, c, h => by
    cases e <;> simp only [chkE] at h <;> cases h
  | .cst d, e, sc, st, X, W, c, h => by
    cases e with
    | Constant cc ck pos =>
      simp only [chkE] at h
      have p : PEo X ec W C (.Constant cc ck pos) (.cst d) := de_cst (cEq_ok h)
      exact seV p (fun _ => rfl) rfl
    | _ => simp only [chkE] at h; cases h
  | .glb x d, e, sc, st, X, W, c, h => by
    cases e with
    | Name y pos =>
      simp only [chkE] at h
      simp only [Bool.and_eq_true, decide_eq_true_eq, List.any_eq_true] at h
      obtain ⟨⟨⟨e1, h2⟩, h3⟩, q, hq, e2, e3⟩ := h
      have e3 := sEq_ok e3
      subst e1 e2 e3
      have p : PEo X ec W C (.Name q.1 pos) (.glb q.1 q.2) := by
        rcases c.cst q hq with ⟨u, v, m1, m2, m3, m4⟩ | ⟨n, m1, m2, m3, m4⟩
        · exact de_glb (c.gl h2) m1 m2 m4 m3 (plainN_ok h3)
        · rw [m1]
          exact de_glbT (c.gl h2) m2 m3 m4 (plainN_ok h3)
      exact seV p (fun _ => rfl) rfl
    | _ => simp only [chkE] at h; cases h
  | .tup is, e, sc, st, X, W, c, h => by
    cases e with
    | Tuple es kk pos =>
      simp only [chkE] at h
      have p : PEo X ec W C (.Tuple es kk pos) (.tup is) := de_tup (soundL is _ sc st X W c h).1
      exact seV p (fun _ => rfl) rfl
    | _ => simp only [chkE] at h; cases h
  | .lst is, e, sc, st, X, W, c, h => by
    cases e with
    | List es pos =>
      simp only [chkE] at h
      have p : PEo X ec W C (.List es pos) (.lst is) := de_lst (soundL is _ sc st X W c h).1
      exact seV p (fun _ => rfl) rfl
    | _ => simp only [chkE] at h; cases h
  | .bin o a b, e, sc, st, X, W, c, h => by
    cases e with
    | BinOp l op r pos =>
      simp only [chkE] at h
      simp only [Bool.and_eq_true] at h
      have e1 := of_decide_eq_true h.1.1
      subst e1
      have p : PEo X ec W C (.BinOp l (opOf o) r pos) (.bin o a b) := de_bin (soundE a _ sc st X W c h.1.2).1 (soundE b _ sc st X W c h.2).1
      exact seV p (fun _ => rfl) rfl
    | _ => simp only [chkE] at h; cases h
  | .neg a, e, sc, st, X, W, c, h => by
    cases e with
    | UnaryOp op x pos =>
      cases op <;> simp only [chkE] at h <;> try cases h
      have p : PEo X ec W C (.UnaryOp .USub x pos) (.neg a) := de_neg (soundE a _ sc st X W c h).1
      exact seV p (fun _ => rfl) rfl
    | _ => simp only [chkE] at h; cases h
  | .not a, e, sc, st, X, W, c, h => by
    cases e with
    | UnaryOp op x pos =>
      cases op <;> simp only [chkE] at h <;> try cases h
      have q := soundE a _ sc st X W c h
      exact ⟨de_not q.1, fun z => dt_not (q.2.1 z), fun _ z => nomatch z⟩
    | _ => simp only [chkE] at h; cases h
  | .cmp o a b, e, sc, st, X, W, c, h => by
    cases e with
    | Compare l ops rs pos =>
      match ops, rs, h with
      | [op], [r], h =>
        simp only [chkE, Bool.and_eq_true, Bool.not_eq_true'] at h
        have e1 := of_decide_eq_true h.1.1.1
        subst e1
        have p1 := (soundE a _ sc st X W c h.1.2).1
        have p2 := (soundE b _ sc st X W c h.2).1
        exact ⟨de_cmp c.units p1 p2 h.1.1.2, fun _ => dt_cmp c.units p1 p2 h.1.1.2, fun _ z => nomatch z⟩
      | [], _, h => simp only [chkE] at h; cases h
      | [_], [], h => simp only [chkE] at h; cases h
      | [_], _ :: _ :: _, h => simp only [chkE] at h; cases h
      | _ :: _ :: _, _, h => simp only [chkE] at h; cases h
    | _ => simp only [chkE] at h; cases h
  | .chain o1 o2 a b d, e, sc, st, X, W, c, h => by
    cases e with
    | Compare l ops rs pos =>
      match ops, rs, h with
      | [p1, p2], [m, r], h =>
        simp only [chkE, Bool.and_eq_true, Bool.not_eq_true'] at h
        have e1 := of_decide_eq_true h.1.1.1.1.1
        have e2 := of_decide_eq_true h.1.1.1.1.2
        subst e1 e2
        have q1 := (soundE a _ sc st X W c h.1.1.2).1
        have q2 := (soundE b _ sc st X W c h.1.2).1
        have q3 := (soundE d _ sc st X W c h.2).1
        exact ⟨de_chain c.units q1 q2 q3 h.1.1.1.2, fun _ => dt_chain c.units q1 q2 q3 h.1.1.1.2, fun _ z => nomatch z⟩
      | [], _, h => simp only [chkE] at h; cases h
      | [_], _, h => simp only [chkE] at h; cases h
      | [_, _], [], h => simp only [chkE] at h; cases h
      | [_, _], [_], h => simp only [chkE] at h; cases h
      | [_, _], _ :: _ :: _ :: _, h => simp only [chkE] at h; cases h
      | _ :: _ :: _ :: _, _, h => simp only [chkE] at h; cases h
    | _ => simp only [chkE] at h; cases h
  | .and a b, e, sc, st, X, W, c, h => by
    cases e with
    | BoolOp op vs pos =>
      cases op with
      | Or => simp only [chkE] at h; cases h
      | And =>
        match vs, h with
        | [], h => simp only [chkE] at h; cases h
        | [x], h => simp only [chkE, Bool.and_eq_true] at h; cases h.2
        | [x, y], h =>
          simp only [chkE, Bool.and_eq_true] at h
          have q1 := soundE a _ sc st X W c h.1
          have q2 := soundE b _ sc st X W c h.2
          have w : tstB (.and a b) = true → PWb X ec W C (.BoolOp .And [x, y] pos) (.and a b) := fun z => by
            simp only [tstB, Bool.and_eq_true] at z
            exact dw_and (q1.2.1 z.1) (dw_and1 (q2.2.1 z.2))
          exact ⟨de_and q1.1 (de_one q2.1), fun z => (w z).pt, fun z _ => w z⟩
        | x :: y :: y2 :: ys, h =>
          simp only [chkE, Bool.and_eq_true] at h
          have q1 := soundE a _ sc st X W c h.1
          have q2 := soundE b _ sc st X W c h.2
          have w : tstB (.and a b) = true → PWb X ec W C (.BoolOp .And (x :: y :: y2 :: ys) pos) (.and a b) := fun z => by
            simp only [tstB, Bool.and_eq_true] at z
            exact dw_and (q1.2.1 z.1) (q2.2.2 z.2 rfl)
          exact ⟨de_and q1.1 q2.1, fun z => (w z).pt, fun z _ => w z⟩
    | _ => simp only [chkE] at h; cases h
  | .or a b, e, sc, st, X, W, c, h => by
    cases e with
    | BoolOp op vs pos =>
      cases op with
      | And => simp only [chkE] at h; cases h
      | Or =>
        match vs, h with
        | [], h => simp only [chkE] at h; cases h
        | [x], h => simp only [chkE, Bool.and_eq_true] at h; cases h.2
        | [x, y], h =>
          simp only [chkE, Bool.and_eq_true] at h
          have q1 := soundE a _ sc st X W c h.1
          have q2 := soundE b _ sc st X W c h.2
          have w : tstB (.or a b) = true → PWb X ec W C (.BoolOp .Or [x, y] pos) (.or a b) := fun z => by
            simp only [tstB, Bool.and_eq_true] at z
            exact dw_or (q1.2.1 z.1) (dw_or1 (q2.2.1 z.2))
          exact ⟨de_or q1.1 (de_one q2.1), fun z => (w z).pt, fun z _ => w z⟩
        | x :: y :: y2 :: ys, h =>
          simp only [chkE, Bool.and_eq_true] at h
          have q1 := soundE a _ sc st X W c h.1
          have q2 := soundE b _ sc st X W c h.2
          have w : tstB (.or a b) = true → PWb X ec W C (.BoolOp .Or (x :: y :: y2 :: ys) pos) (.or a b) := fun z => by
            simp only [tstB, Bool.and_eq_true] at z
            exact dw_or (q1.2.1 z.1) (q2.2.2 z.2 rfl)
          exact ⟨de_or q1.1 q2.1, fun z => (w z).pt, fun z _ => w z⟩
    | _ => simp only [chkE] at h; cases h
  | .ife l a b, e, sc, st, X, W, c, h => by
    cases e with
    | IfExp t x y pos =>
      simp only [chkE] at h
      simp only [Bool.and_eq_true] at h
      exact ⟨de_ife ((soundE l _ sc st X W c h.1.1.2).2.1 h.1.1.1) (soundE a _ sc st X W c h.1.2).1 (soundE b _ sc st X W c h.2).1, fun z => (by cases z), fun z => (by cases z)⟩
    | _ => simp only [chkE] at h; cases h
  | .idx a b, e, sc, st, X, W, c, h => by
    cases e with
    | Subscript o x pos =>
      simp only [chkE] at h
      simp only [Bool.and_eq_true] at h
      have p : PEo X ec W C (.Subscript o x pos) (.idx a b) := de_idx (soundE a _ sc st X W c h.1.2).1 (soundE b _ sc st X W c h.2).1 (plainIx_ok h.1.1)
      exact seV p (fun _ => rfl) rfl
    | _ => simp only [chkE] at h; cases h
  | .idxV s b, e, sc, st, X, W, c, h => by
    cases e with
    | Subscript o x pos =>
      cases o with
      | Name y p0 =>
        simp only [chkE, Bool.and_eq_true] at h
        obtain ⟨h1, h2, h3, h4⟩ := c.slot h.1.1
        have p : PEo X ec W C (.Subscript (.Name y p0) x pos) (.idxV s b) := de_idxV h1 h2 h3 h4 (soundE b _ sc st X W c h.2).1 (plainIx_ok h.1.2)
        exact seV p (fun _ => rfl) rfl
      | _ => simp only [chkE] at h; cases h
    | _ => simp only [chkE] at h; cases h
  | .call f is, e, sc, st, X, W, c, h => by
    cases e with
    | Call fe args kws pos =>
      cases fe with
      | Name x p0 =>
        match args, kws, h with
        | [], _, h => simp only [chkE] at h; cases h
        | _ :: _, _ :: _, h => simp only [chkE] at h; cases h
        | e0 :: es, [], h =>
          simp only [chkE, Bool.and_eq_true, decide_eq_true_eq, Bool.not_eq_true'] at h
          obtain ⟨⟨⟨⟨⟨⟨h1, h2⟩, h3⟩, h4⟩, h7⟩, h5⟩, h6⟩ := h
          cases hF : G.fn f with
          | none => rw [hF] at h5; cases h5
          | some F =>
            rw [hF] at h5
            have h5 := of_decide_eq_true h5
            subst h1
            obtain ⟨i1, ad, fd, ps, i2, i3, i4, i5⟩ := c.call f F hF h7
            rw [← i1] at i5
            have p : PEo X ec W C (.Call (.Name (G.nm f) p0) (e0 :: es) [] pos) (.call f is) := de_call i5 (c.room.mono (Nat.le_succ k)) (c.gl h2) i2 i3 i4 c.pas (plainN_ok h3) (soundA is _ 0 sc st X W (C.io f) c h6) h4 h5
            exact seV p (fun _ => rfl) rfl
      | _ => simp only [chkE] at h; cases h
    | _ => simp only [chkE] at h; cases h
  | .blt b is, e, sc, st, X, W, c, h => by
    cases e with
    | Call fe args kws pos =>
      cases fe with
      | Name x p0 =>
        match args, kws, h with
        | [], _, h => simp only [chkE] at h; cases h
        | _ :: _, _ :: _, h => simp only [chkE] at h; cases h
        | e0 :: es, [], h =>
          simp only [chkE, Bool.and_eq_true, decide_eq_true_eq] at h
          obtain ⟨⟨⟨h1, h2⟩, h3⟩, h4⟩ := h
          subst h1
          have p : PEo X ec W C (.Call (.Name (blName b) p0) (e0 :: es) [] pos) (.blt b is) := de_blt (i := .var 0) c.calm (c.gl h2) (c.blt b) h3 (soundL is _ sc st X W c h4).1
          exact seV p (fun _ => rfl) rfl
      | _ => simp only [chkE] at h; cases h
    | _ => simp only [chkE] at h; cases h
  | .join a b, e, sc, st, X, W, c, h => by
    cases e with
    | Call fe args kws pos =>
      cases fe with
      | Attribute o m ap =>
        match args, kws, h with
        | [], _, h => simp only [chkE] at h; cases h
        | _ :: _ :: _, _, h => simp only [chkE] at h; cases h
        | [_], _ :: _, h => simp only [chkE] at h; cases h
        | [e0], [], h =>
          simp only [chkE, Bool.and_eq_true, decide_eq_true_eq, Bool.not_eq_true'] at h
          obtain ⟨⟨⟨⟨⟨h1, h2⟩, h3⟩, h4⟩, h5⟩, h6⟩ := h
          subst h1
          have p : PEo X ec W C (.Call (.Attribute o "join" ap) [e0] [] pos) (.join a b) := de_join (soundE a _ sc st X W c h5).1 (soundE b _ sc st X W c h6).1 h3 h2 h4
          exact seV p (fun _ => rfl) rfl
      | _ => simp only [chkE] at h; cases h
    | _ => simp only [chkE] at h; cases h
  | .lrng a b, e, sc, st, X, W, c, h => by
    cases e with
    | Call fe args kws pos =>
      cases fe with
      | Name x p0 =>
        match args, kws, h with
        | [], _, h => simp only [chkE] at h; cases h
        | _ :: _ :: _, _, h => simp only [chkE] at h; cases h
        | [_], _ :: _, h => simp only [chkE] at h; cases h
        | [e0], [], h =>
          cases e0 with
          | Call fe2 args2 kws2 pos2 =>
            cases fe2 with
            | Name y p2 =>
              match args2, kws2, h with
              | [], _, h => simp only [chkE] at h; cases h
              | [_], _, h => simp only [chkE] at h; cases h
              | _ :: _ :: _ :: _, _, h => simp only [chkE] at h; cases h
              | [_, _], _ :: _, h => simp only [chkE] at h; cases h
              | [p, q], [], h =>
                simp only [chkE, Bool.and_eq_true, decide_eq_true_eq, Bool.not_eq_true'] at h
                obtain ⟨⟨⟨⟨⟨⟨⟨h1, h2⟩, h3⟩, h4⟩, h5⟩, h6⟩, h7⟩, h8⟩ := h
                subst h1 h2
                have p : PEo X ec W C (.Call (.Name "list" p0) [.Call (.Name "range" p2) [p, q] [] pos2] [] pos) (.lrng a b) := de_lrng c.calm (c.gl h3) (c.blt .list) (c.gl h4) c.rng (soundE a _ sc st X W c h7).1 (soundE b _ sc st X W c h8).1 h5 h6
                exact seV p (fun _ => rfl) rfl
            | _ => simp only [chkE] at h; cases h
          | _ => simp only [chkE] at h; cases h
      | _ => simp only [chkE] at h; cases h
    | _ => simp only [chkE] at h; cases h
  | .lc elt tg own it ifs, e, sc, st, X, W, c, h => by
    cases e with
    | ListComp el gens scope pos =>
      match gens, h with
      | [], h => simp only [chkE] at h; cases h
      | _ :: _ :: _, h => simp only [chkE] at h; cases h
      | [⟨t, i, cs, as⟩], h =>
        have L : as = 0 ∧ LcOk X ec W C el t i cs scope (ownOf N own) elt tg it ifs := by
          simp only [chkE, Bool.and_eq_true, decide_eq_true_eq] at h
          obtain ⟨⟨⟨⟨⟨⟨⟨h1, h2⟩, h3⟩, h4⟩, h5⟩, h6⟩, h7⟩, h8⟩ := h
          have ok := blkOk_by h2
          have e1 := c.scope
          refine ⟨h1, ?_, ?_, fun s H A cl fp => ?_, fun s H A cl fp => ?_, fun s H A cl fp => ?_, folded_ok h4, ?_⟩
          · exact soundI it i t sc st X W c h5
          · rw [c.hN, e1]
            exact ok
          · exact soundT (c.blk ok.kind s H A cl fp) tg t h6
          · exact soundC ifs cs _ _ _ _ (c.blk ok.kind s H A cl fp) h7
          · exact (soundE elt el _ _ _ _ (c.blk ok.kind s H A cl fp) h8).1
          · rw [ownOf_map]
            exact h3
        have p : PEo X ec W C (.ListComp el [⟨t, i, cs, 0⟩] scope pos) (.lc elt tg ((ownOf N own).map (·.2)) it ifs) := de_lc c.calm (by rw [c.hN]; exact c.nd) L.2
        rw [ownOf_map] at p
        obtain ⟨rfl, _⟩ := L
        exact seV p (fun _ => rfl) rfl
    | _ => simp only [chkE] at h; cases h
  | .callS f is, e, sc, st, X, W, c, h => by
    cases e with
    | Call fe args kws pos =>
      cases fe with
      | Name x p0 =>
        match args, kws, h with
        | [], _, h => simp only [chkE] at h; cases h
        | _ :: _, _ :: _, h => simp only [chkE] at h; cases h
        | e0 :: es, [], h =>
          simp only [chkE, Bool.and_eq_true, decide_eq_true_eq] at h
          obtain ⟨⟨⟨⟨⟨⟨h1, h2⟩, h3⟩, h4⟩, h5⟩, h6⟩, h7⟩ := h
          obtain ⟨F, hF⟩ := Option.isSome_iff_exists.mp h6
          subst h1
          obtain ⟨ad, i2, i3, i5⟩ := c.calS f F hF h5
          have p : PEo X ec W C (.Call (.Name (G.nm f) p0) (e0 :: es) [] pos) (.callS f is) := de_callS i5 (c.room.mono (Nat.le_succ k)) (c.gl h2) i2 i3 c.pas (plainN_ok h3) (soundL is _ sc st X W c h7).1 h4
          exact seV p (fun _ => rfl) rfl
      | _ => simp only [chkE] at h; cases h
    | _ => simp only [chkE] at h; cases h
  | .nd, e, sc, st, X, W, c, h => by
    cases e with
    | Dict ks vs pos =>
      match ks, vs, h with
      | [], [], h => exact seV de_nd (fun _ => rfl) rfl
      | [], _ :: _, h => simp only [chkE] at h; cases h
      | _ :: _, _, h => simp only [chkE] at h; cases h
    | _ => simp only [chkE] at h; cases h
  | .stop, e, sc, st, X, W, c, h => by
    exact se_stop
theorem soundC : ∀ (is : List Ex) (es : List Expr) (sc : Scope) (st : Str → Bool) (X : Cx) (W : WX), Ctx G C ec k N sc st X W → chkC G N sc st is es = true → PTs X es (tB X.K ec W (evT C is))
  | [], es, sc, st, X, W, c, h => by
    cases es with
    | nil => exact pts_nil'
    | cons e es => simp only [chkC] at h; cases h
  | [i], es, sc, st, X, W, c, h => by
    match es, h with
    | [], h => simp only [chkC] at h; cases h
    | [e], h =>
      simp only [chkC, Bool.and_eq_true] at h
      rw [evT_one]
      exact pts_one ((soundE i e sc st X W c h.2).2.1 h.1)
    | _ :: _ :: _, h => simp only [chkC] at h; cases h
  | _ :: _ :: _, es, sc, st, X, W, c, h => by
    cases es <;> simp only [chkC] at h <;> cases h
theorem soundL : ∀ (is : List Ex) (es : List Expr) (sc : Scope) (st : Str → Bool) (X : Cx) (W : WX), Ctx G C ec k N sc st X W → chkL G N sc st is es = true → PAl X ec W C es is ∧ True
  | [], es, sc, st, X, W, c, h => by
    cases es with
    | nil => exact ⟨de_nil, trivial⟩
    | cons e es => simp only [chkL] at h; cases h
  | i :: is, es, sc, st, X, W, c, h => by
    cases es with
    | nil => simp only [chkL] at h; cases h
    | cons e es =>
      simp only [chkL, Bool.and_eq_true, Bool.not_eq_true'] at h
      exact ⟨de_cons (soundE i e sc st X W c h.1.2).1 (soundL is es sc st X W c h.2).1 (star_ok h.1.1), trivial⟩
theorem soundA : ∀ (is : List Ex) (es : List Expr) (m : Nat) (sc : Scope) (st : Str → Bool) (X : Cx) (W : WX) (io : List Nat), Ctx G C ec k N sc st X W → chkA G N sc st is es = true → PAa X ec W C io m es is
  | [], es, m, sc, st, X, W, io, c, h => by
    cases es with
    | nil => exact da_nil
    | cons e es => simp only [chkA] at h; cases h
  | i :: is, es, m, sc, st, X, W, io, c, h => by
    cases es with
    | nil => cases i <;> simp only [chkA] at h <;> cases h
    | cons e es =>
      rcases chkA_cons h with ⟨j, x, p, rfl, rfl, h1, h2⟩ | ⟨h1, h2, h3, h4⟩
      · obtain ⟨q1, q2, q3, q4⟩ := c.slot h1
        exact da_lv q1 q2 q3 q4 (soundA is es (m + 1) sc st X W io c h2)
      · exact da_ex h1 (soundE i e sc st X W c h3).1 h2 (soundA is es (m + 1) sc st X W io c h4)
theorem soundI : ∀ (i : Ite) (e tg : Expr) (sc : Scope) (st : Str → Bool) (X : Cx) (W : WX), Ctx G C ec k N sc st X W → chkI G N sc st i e = true → PI X tg e (tI X.K ec W (evI C i))
  | .seq i, e, tg, sc, st, X, W, c, h => by
    simp only [chkI] at h
    exact di_seq (soundE i e sc st X W c h).1
  | .rng1 a, e, tg, sc, st, X, W, c, h => by
    cases e with
    | Call fe args kws pos =>
      cases fe with
      | Name x p0 =>
        match args, kws, h with
        | [], _, h => simp only [chkI] at h; cases h
        | _ :: _ :: _, _, h => simp only [chkI] at h; cases h
        | [_], _ :: _, h => simp only [chkI] at h; cases h
        | [p], [], h =>
          simp only [chkI, Bool.and_eq_true, decide_eq_true_eq, Bool.not_eq_true'] at h
          obtain ⟨⟨⟨h1, h2⟩, h3⟩, h4⟩ := h
          subst h1
          exact di_rng1 (c.gl h2) c.rng (soundE a p sc st X W c h4).1 h3
      | _ => simp only [chkI] at h; cases h
    | _ => simp only [chkI] at h; cases h
  | .rng2 a b, e, tg, sc, st, X, W, c, h => by
    cases e with
    | Call fe args kws pos =>
      cases fe with
      | Name x p0 =>
        match args, kws, h with
        | [], _, h => simp only [chkI] at h; cases h
        | [_], _, h => simp only [chkI] at h; cases h
        | _ :: _ :: _ :: _, _, h => simp only [chkI] at h; cases h
        | [_, _], _ :: _, h => simp only [chkI] at h; cases h
        | [p, q], [], h =>
          simp only [chkI, Bool.and_eq_true, decide_eq_true_eq, Bool.not_eq_true'] at h
          obtain ⟨⟨⟨⟨⟨h1, h2⟩, h3⟩, h4⟩, h5⟩, h6⟩ := h
          subst h1
          exact di_rng2 (c.gl h2) c.rng (soundE a p sc st X W c h5).1 (soundE b q sc st X W c h6).1 h3 h4
      | _ => simp only [chkI] at h; cases h
    | _ => simp only [chkI] at h; cases h
end
theorem soundLc : ∀ (elt : Ex) (tg : Tg) (own : List Nat) (it : Ite) (ifs : List Ex) (el t i : Expr) (cs : List Expr) (as : Int) (scope : Scope) (pos : Pos) (sc : Scope) (st : Str → Bool) (X : Cx) (W : WX), Ctx G C ec k N sc st X W → chkE G N sc st (.lc elt tg own it ifs) (.ListComp el [⟨t, i, cs, as⟩] scope pos) = true → as = 0 ∧ LcOk X ec W C el t i cs scope (ownOf N own) elt tg it ifs
  | elt, tg, own, it, ifs, el, t, i, cs, as, scope, pos, sc, st, X, W, c, h => by
    simp only [chkE, Bool.and_eq_true, decide_eq_true_eq] at h
    obtain ⟨⟨⟨⟨⟨⟨⟨h1, h2⟩, h3⟩, h4⟩, h5⟩, h6⟩, h7⟩, h8⟩ := h
    have ok := blkOk_by h2
    have e1 := c.scope
    refine ⟨h1, ?_, ?_, fun s H A cl fp => ?_, fun s H A cl fp => ?_, fun s H A cl fp => ?_, folded_ok h4, ?_⟩
    · exact soundI it i t sc st X W c h5
    · rw [c.hN, e1]
      exact ok
    · exact soundT (c.blk ok.kind s H A cl fp) tg t h6
    · exact soundC ifs cs _ _ _ _ (c.blk ok.kind s H A cl fp) h7
    · exact (soundE elt el _ _ _ _ (c.blk ok.kind s H A cl fp) h8).1
    · rw [ownOf_map]
      exact h3
end
end Y
set_option Elab.async false
set_option linter.all false
set_option maxRecDepth 100000
set_option maxHeartbeats 4000000
/-! Y16: statements are walked. -/
namespace Y
open PySem PySem.Spec L2
open PyProof.Rows hiding St

/-! ### statements held against their form -/
/-- how a tuple's items are stored: none: not covered -/
def swB (sc : Scope) (ts vs : List Expr) : Option (Option (List Str)) :=
  if (!(ts.length == 2 || ts.length == 3) || vs.length != ts.length) = true then some none
  else if (vs.any fun | .Starred .. => true | _ => false) = true then some none
  else
    let line := (ts.head?.map (·.pos.line)).getD 0
    let names := ts.filterMap fun
      | .Name id pos => if sc.names.lookup id == some .local && pos.line == line then some id else none
      | _ => none
    if (names.length != ts.length || names.eraseDups.length != names.length) = true then some none
    else if vs.all (foldedForSure 8) = true then some none
    else if vs.all (constantsAlone 8) = true then none
    else some (some names)
theorem swB_ok {env : PySem.Env} {ts vs : List Expr} {k k2 : Nat} {p p2 : Pos} {o : Option (List Str)} (hk : env.scope.kind = .function) (h : swB env.scope ts vs = some o) : swappedStores [.Tuple ts k p] (.Tuple vs k2 p2) env = pure o := by
  have hb : env.blockKind = .function := by unfold Env.blockKind; rw [hk]; rfl
  unfold swB at h
  unfold swappedStores
  simp only [hb]
  split at h
  · rename_i h1
    cases h
    simp only [Bool.or_eq_true] at h1
    rcases h1 with h1 | h1 <;> simp [h1]
  · rename_i h1
    simp only [Bool.or_eq_true, not_or, Bool.not_eq_true] at h1
    refine (if_neg (by simp [h1.1, h1.2])).trans ?_
    split at h
    · rename_i h2
      cases h
      exact if_pos h2
    · rename_i h2
      refine (if_neg h2).trans ?_
      dsimp only at h
      split at h
      · rename_i h3
        cases h
        exact if_pos h3
      · rename_i h3
        refine (if_neg h3).trans ?_
        split at h
        · rename_i h4
          cases h
          exact if_pos h4
        · rename_i h4
          refine (if_neg h4).trans ?_
          split at h
          · cases h
          · rename_i h5
            cases h
            exact if_neg h5
theorem sw_false {elt : Expr} {gs : List Comprehension} {scope : Scope} {pos py : Pos} {y : Str} {l : Nat} {env : PySem.Env} (hy : (env.scope.names.lookup y == some NameKind.local) = false) : swapsWith (.ListComp elt gs scope pos) (some (.Name y py)) l env = pure false := by
  have ky : (env.kindOf y == some NameKind.local) = false := hy
  unfold swapsWith
  simp only [ky, Bool.and_false, Bool.false_and]
/-- is it a display of a tuple -/
def tupB : Expr → Bool
  | .Tuple _ _ _ => true
  | _ => false
theorem sw_plain {t e : Expr} {env : PySem.Env} (h : tupB e = false) : swappedStores [t] e env = pure none := by
  cases t <;> cases e <;> first | rfl | cases h
def noTp : Tg → Bool
  | .nm _ => false
  | .tp _ => true
def disB (pr : List Nat) (t : Tg) : Bool := (slT t).all fun i => decide (i ∉ pr)
section
variable (G : Pgm) (N : List Str) (pr : List Nat)
mutual
def chkS (sc : Scope) (st : Str → Bool) : Sx → Stmt → Bool
  | .expr i, x => (match x with
    | .Expr e _ => noComp e && chkE G N sc st i e
    | _ => false)
  | .asg t i, x => (match t with
    | .nm j => (match x with
      | .Assign [.Name y py] e pos => decide (N[j]? = some y) && locB sc st y && decide (j ∉ pr) && (match i, e with
        | .lc elt tg own it ifs, .ListComp el gs scope lpos => (if sc.names.lookup y == some .local then (py.line == lpos.line) && !(scope.names.any fun (n, k) => n == y && (k == .local || k == .cell)) else true) && chkE G N sc st (.lc elt tg own it ifs) (.ListComp el gs scope lpos)
        | i, e => noComp e && chkE G N sc st i e)
      | _ => false)
    | .tp ts => (match x with
      | .Assign [tx] e pos => chkT N sc st (.tp ts) tx && disB pr (.tp ts) && noComp e && chkE G N sc st i e && (match tx, e with
        | .Tuple tes _ _, .Tuple es _ _ => (swB sc tes es).isSome && !((swB sc tes es).getD none).isSome
        | _, e => !tupB e)
      | _ => false))
  | .par i j a b, x => (match x with
    | .Assign [.Tuple [.Name x px, .Name y py] _ _] (.Tuple [ea, eb] _ _) _ => decide (N[i]? = some x) && decide (N[j]? = some y) && decide (sc.names.lookup x = some .local) && decide (sc.names.lookup y = some .local) &&
      decide (i ∉ pr) && decide (j ∉ pr) && decide (i ≠ j) && !isStar ea && !isStar eb && decide (swB sc [.Name x px, .Name y py] [ea, eb] = some (some [x, y])) && chkE G N sc st a ea && chkE G N sc st b eb
    | _ => false)
  | .setV s i e, x => (match x with
    | .Assign [.Subscript (.Name x _) ix _] v _ => slotB N sc s x && plainIxB ix && noComp v && chkE G N sc st i ix && chkE G N sc st e v
    | _ => false)
  | .ret i, x => (match x with
    | .Return (some e) _ => chkE G N sc st i e
    | _ => false)
  | .ifs c a b, x => (match x with
    | .If e sa sb _ => tstB c && chkE G N sc st c e && chkSs sc st a sa && chkSs sc st b sb
    | _ => false)
  | .while c b, x => (match x with
    | .While e sb [] _ => tstB c && chkE G N sc st c e && chkSs sc st b sb
    | _ => false)
  | .for t it b, x => (match x with
    | .For tx e sb [] _ => chkT N sc st t tx && disB pr t && notSet e && chkI G N sc st it e && chkSs sc st b sb
    | _ => false)
  | .pass, x => (match x with
    | .Pass _ => true
    | _ => false)
  | .brk, x => (match x with
    | .Break _ => true
    | _ => false)
  | .cnt, x => (match x with
    | .Continue _ => true
    | _ => false)
  | .stop, _ => true
def chkSs (sc : Scope) (st : Str → Bool) : List Sx → List Stmt → Bool
  | [], x => (match x with
    | [] => true
    | _ => false)
  | i :: is, x => (match x with
    | s :: ss => chkS sc st i s && chkSs sc st is ss
    | _ => false)
end
end

theorem disB_ok {pr : List Nat} {t : Tg} (h : disB pr t = true) : ∀ i, i ∈ slT t → i ∉ pr := fun i hi => by
  unfold disB at h
  rw [List.all_eq_true] at h
  exact of_decide_eq_true (h i hi)
section
variable {G : Pgm} {C : Env} {ec : Ec} {k : Nat} {N : List Str} {sc : Scope} {st : Str → Bool} {X : Cx} {W : WX} {w : Nat} {pr : List Nat}
theorem set_val {j : Nat} {i : Ex} {y : Str} {e : Expr} {py pos : Pos} (c : Ctx G C ec k N sc st X W) (h1 : N[j]? = some y) (h2 : locB sc st y = true) (h3 : j ∉ pr) (hn : swapsWith e (some (.Name y py)) pos.line X.env = pure false) (he : chkE G N sc st i e = true) : PSt X ec W C w pr (.Assign [.Name y py] e pos) (.asg (.nm j) i) := by
  obtain ⟨q1, q2⟩ := c.loc h2
  exact ds_set (by rw [c.hN]; exact c.nd) (by rw [c.hN]; exact h1) q1 q2 h3 (soundE i e sc st X W c he).1 hn
theorem soundNm {j : Nat} {i : Ex} {x : Stmt} (c : Ctx G C ec k N sc st X W) (h : chkS G N pr sc st (.asg (.nm j) i) x = true) : PSt X ec W C w pr x (.asg (.nm j) i) := by
  cases x with
  | Assign ts e pos =>
    match ts, h with
    | [], h => simp only [chkS] at h; cases h
    | _ :: _ :: _, h => simp only [chkS] at h; cases h
    | [t], h =>
      cases t with
      | Name y py =>
        simp only [chkS, Bool.and_eq_true, decide_eq_true_eq] at h
        obtain ⟨⟨⟨h1, h2⟩, h3⟩, h4⟩ := h
        split at h4
        · rename_i elt tg own it ifs el gs scope lpos
          simp only [Bool.and_eq_true] at h4
          obtain ⟨h5, h6⟩ := h4
          by_cases hl : (sc.names.lookup y == some .local) = true
          · rw [if_pos hl] at h5
            simp only [Bool.and_eq_true, Bool.not_eq_true'] at h5
            have hy : X.env.scope.names.lookup y = some .local := by
              rw [c.scope]
              exact eq_of_beq hl
            have hk : X.env.scope.kind = .function := by rw [c.scope]; exact c.kind
            match gs, h6 with
            | [], h6 => simp only [chkE] at h6; cases h6
            | _ :: _ :: _, h6 => simp only [chkE] at h6; cases h6
            | [⟨t, i, cs, as⟩], h6 =>
              obtain ⟨e0, L⟩ := soundLc elt tg own it ifs el t i cs as scope lpos sc st X W c h6
              subst e0
              have p := ds_setLc (w := w) (pr := pr) (pos := pos) (pos' := py) (lpos := lpos) c.calm (by rw [c.hN]; exact c.nd) (i := j) (by rw [c.hN]; exact h1) hy h3 (sw_true hk hy h5.1 h5.2) L
              rw [ownOf_map] at p
              exact p
          · refine set_val c h1 h2 h3 (sw_false ?_) h6
            rw [c.scope]
            exact Bool.not_eq_true _ ▸ hl
        · simp only [Bool.and_eq_true] at h4
          exact set_val c h1 h2 h3 (swaps_no h4.1) h4.2
      | _ => simp only [chkS] at h; cases h
  | _ => simp only [chkS] at h; cases h
theorem soundTp {ts : List Tg} {i : Ex} {x : Stmt} (c : Ctx G C ec k N sc st X W) (h : chkS G N pr sc st (.asg (.tp ts) i) x = true) : PSt X ec W C w pr x (.asg (.tp ts) i) := by
  cases x with
  | Assign tes e pos =>
    match tes, h with
    | [], h => simp only [chkS] at h; cases h
    | _ :: _ :: _, h => simp only [chkS] at h; cases h
    | [t], h =>
      simp only [chkS, Bool.and_eq_true] at h
      obtain ⟨⟨⟨⟨h1, h2⟩, h3⟩, h4⟩, h5⟩ := h
      have hk : X.env.scope.kind = .function := by rw [c.scope]; exact c.kind
      have hs : isStar t = false := by cases t <;> simp only [chkT] at h1 <;> first | rfl | cases h1
      refine ds_tp (soundE i e sc st X W c h4).1 (soundT c _ _ h1) (fun i e => nomatch e) (disB_ok h2) (sole_no h3) ?_ hs
      split at h5
      · rename_i tes _ _ es _ _
        simp only [Bool.and_eq_true, Bool.not_eq_true'] at h5
        refine swB_ok hk ?_
        rw [c.scope]
        obtain ⟨o, ho⟩ := Option.isSome_iff_exists.mp h5.1
        rw [ho] at h5 ⊢
        have h6 : o.isSome = false := h5.2
        cases o with
        | none => rfl
        | some z => cases h6
      · exact sw_plain (by simpa using h5)
  | _ => simp only [chkS] at h; cases h
theorem soundPar {i j : Nat} {a b : Ex} {x : Stmt} (c : Ctx G C ec k N sc st X W) (h : chkS G N pr sc st (.par i j a b) x = true) : PSt X ec W C w pr x (.par i j a b) := by
  simp only [chkS] at h
  split at h
  · simp only [Bool.and_eq_true, decide_eq_true_eq, Bool.not_eq_true'] at h
    obtain ⟨⟨⟨⟨⟨⟨⟨⟨⟨⟨⟨h1, h2⟩, h3⟩, h4⟩, h5⟩, h6⟩, h7⟩, h8⟩, h9⟩, h10⟩, h11⟩, h12⟩ := h
    have hk : X.env.scope.kind = .function := by rw [c.scope]; exact c.kind
    exact ds_par c.calm (by rw [c.hN]; exact c.nd) (by rw [c.hN]; exact h1) (by rw [c.hN]; exact h2) (by rw [c.scope]; exact h3) (by rw [c.scope]; exact h4) h5 h6 h7 (soundE a _ sc st X W c h11).1 (soundE b _ sc st X W c h12).1 h8 h9 (swB_ok hk (by rw [c.scope]; exact h10))
  · cases h
theorem ha_plain {x : Str} {ix : Expr} {p ps : Pos} {env : PySem.Env} (h : plainIxB ix = true) : ∀ v, assign (.Subscript (.Name x p) ix ps) env v = (do
      let ov ← holding [v] (eval (.Name x p) env)
      let iv ← holding [v, ov] (eval ix env)
      standAt ps
      holding [v, ov, iv] (setItem ov iv v)
      release [v, ov, iv] []) := by
  cases ix <;> first | (intro v; rfl) | cases h
mutual
theorem soundS (c : Ctx G C ec k N sc st X W) : ∀ (i : Sx) (x : Stmt), chkS G N pr sc st i x = true → PSt X ec W C w pr x i
  | .expr i, x, h => by
    simp only [chkS] at h
    split at h
    · simp only [Bool.and_eq_true] at h
      exact ds_expr (soundE i _ sc st X W c h.2).1 h.1
    · cases h
  | .asg t i, x, h => by
    cases t with
    | nm j => exact soundNm c h
    | tp ts => exact soundTp c h
  | .par i j a b, x, h => soundPar c h
  | .setV s i e, x, h => by
    simp only [chkS] at h
    split at h
    · simp only [Bool.and_eq_true] at h
      obtain ⟨⟨⟨⟨h1, h2⟩, h3⟩, h4⟩, h5⟩ := h
      obtain ⟨q1, q2, q3, q4⟩ := c.slot h1
      exact ds_setV q1 q2 q3 q4 (soundE i _ sc st X W c h4).1 (soundE e _ sc st X W c h5).1 h3 (ha_plain h2)
    · cases h
  | .ret i, x, h => by
    simp only [chkS] at h
    split at h
    · exact ds_ret (soundE i _ sc st X W c h).1
    · cases h
  | .ifs t a b, x, h => by
    simp only [chkS] at h
    split at h
    · simp only [Bool.and_eq_true] at h
      exact ds_if ((soundE t _ sc st X W c h.1.1.2).2.1 h.1.1.1) (soundSs c a _ h.1.2) (soundSs c b _ h.2)
    · cases h
  | .while t b, x, h => by
    simp only [chkS] at h
    split at h
    · simp only [Bool.and_eq_true] at h
      exact ds_while c.own ((soundE t _ sc st X W c h.1.2).2.1 h.1.1) (soundSs c b _ h.2)
    · cases h
  | .for t it b, x, h => by
    simp only [chkS] at h
    split at h
    · simp only [Bool.and_eq_true] at h
      obtain ⟨⟨⟨⟨h1, h2⟩, h3⟩, h4⟩, h5⟩ := h
      exact ds_for c.own c.calm (soundI it _ _ sc st X W c h4) (soundT c t _ h1) (soundSs c b _ h5) (disB_ok h2) (folded_ok h3)
    · cases h
  | .pass, x, h => by
    simp only [chkS] at h
    split at h
    · exact ds_pass
    · cases h
  | .brk, x, h => by
    simp only [chkS] at h
    split at h
    · exact ds_brk
    · cases h
  | .cnt, x, h => by
    simp only [chkS] at h
    split at h
    · exact ds_cnt
    · cases h
  | .stop, x, h => ps_never
theorem soundSs (c : Ctx G C ec k N sc st X W) : ∀ (is : List Sx) (xs : List Stmt), chkSs G N pr sc st is xs = true → PSts X ec W C w pr xs is
  | [], xs, h => by
    cases xs with
    | nil => exact ds_nil
    | cons x xs => simp only [chkSs] at h; cases h
  | i :: is, xs, h => by
    cases xs with
    | nil => simp only [chkSs] at h; cases h
    | cons x xs =>
      simp only [chkSs, Bool.and_eq_true] at h
      exact ds_cons (soundS c i x h.1) (soundSs c is xs h.2)
end
end
end Y
set_option Elab.async false
set_option linter.all false
set_option maxRecDepth 100000
set_option maxHeartbeats 4000000
/-! Y17: defs, and the whole program. -/
namespace Y
open PySem PySem.Spec L2
open PyProof.Rows hiding St

/-! ### a def keeps the promise of its form -/
/-- what the module's names are -/
structure Mod (G : Pgm) (K : PySem.W.Frag) (mg : Str → Option Value) : Prop where
  blt : ∀ b, mg (blName b) = none
  rng : mg "range" = none
  cst : ∀ p, p ∈ G.cst → (∃ u v, mg p.1 = some u ∧ RelV v u ∧ (∀ F H, Frz K F H p.2 v) ∧ p.2.fz = p.2) ∨ (∃ n, p.2 = .ty n ∧ mg p.1 = none ∧ bootBuiltins p.1 = some (.type n) ∧ p.1 ≠ "__name__")
/-- what is said of a def -/
inductive BindK (K : PySem.W.Frag) (st : Bool) (nm : Str) (params : Arguments) (body : List Stmt) (scope : Scope) (fd : FuncData) (F : Fn) : List Str → Prop where
  | one {ps : List Str} : st = false → Binds K fd ps [] → BindK K st nm params body scope fd F ps
  | star {pv : Str} : st = true → F.io = [] → (∀ (kV doc pm : Value) (an : Option Addr) (cdv ct : Value) (us : List Value), bindArgs (PySem.W.fnOf nm nm params body scope .none kV doc pm an cdv ct) ⟨us, []⟩ = (newTuple us >>= fun t => pure [(pv, t)])) → BindK K st nm params body scope fd F [pv]
structure DefN (G : Pgm) (K : PySem.W.Frag) (mg : Str → Option Value) (f : Nat) (F : Fn) (params : Arguments) (body : List Stmt) (scope : Scope) (N ps : List Str) (ad : Addr) (fd : FuncData) : Prop where
  fn : FunD K (G.nm f) (G.nm f) params body scope [] [] ad fd
  mg : mg (G.nm f) = some (.ref ad)
  sc : FnScope N ps scope
  np : ps.length = F.np
  n : N.length = F.n
  chk : chkSs G N F.io scope (fun _ => true) F.body body = true
  bind : BindK K (G.star f) (G.nm f) params body scope fd F ps
section
variable {G : Pgm} {K : PySem.W.Frag} {mg : Str → Option Value} {P : Program} {w : World} {base : Heap} {C : Env} {ec : Ec} {k wh : Nat}
def Calls (G : Pgm) (K : PySem.W.Frag) (mg : Str → Option Value) (P : Program) (w : World) (base : Heap) (C : Env) (ec : Ec) (k : Nat) : Prop :=
  (∀ f F, G.fn f = some F → G.star f = true → ∃ ad, mg (G.nm f) = some (.ref ad) ∧ PySem.W.keepIn K (.ref ad) = true ∧ FnR P w K mg base (CX P w) k ad (spS K ec (C.run f))) ∧
  (∀ f F, G.fn f = some F → G.star f = false → C.io f = F.io ∧ ∃ ad fd ps, mg (G.nm f) = some (.ref ad) ∧ PySem.W.keepIn K (.ref ad) = true ∧ Binds K fd ps [] ∧ FnOk P w K mg base (CX P w) k ad fd ps (spF K ec F.np F.io (C.run f)))
theorem step_cut {fp fp' : Nat → List Addr} {F F' : FS} {H H' : Hp} {np : Nat} {io : List Nat} (s : Step fp F H fp' F' H') : Step fp F H (fun k => if k < np ∧ k ∈ io then fp' k else []) F' H' :=
  ⟨s.sub, s.keep, s.new, fun i a h => by
    split at h
    · exact s.own i a h
    · cases h⟩
/-- the body's reading, of what the def is promised -/
theorem body_read {F : Fn} {N : List Str} {vs : List V} {H : Hp} {Q : VK} {E : XK} (hn : N.length = F.n) (h : spF K ec F.np F.io (fnGo C wh F) vs H Q E) :
    tS K ec (fun cls d _ H => E cls d H) F.io (evSs C wh F.body) { nx := fun _ H' => Q .non H', rt := Q } (L2.start N vs) H := by
  intro hv
  obtain ⟨hl, z⟩ := h
  obtain ⟨F0, fp, ds, R, y⟩ := z hv
  refine ⟨F0, fp, ds.map some ++ List.replicate (F.n - ds.length) none, start_rel R hn.symm, ?_⟩
  unfold fnGo at y
  by_cases hc : ds.length = F.np ∧ F.np ≤ F.n
  · rw [if_pos hc] at y
    rw [hc.1]
    cases er : evSs C wh F.body (ds.map some ++ List.replicate (F.n - F.np) none) with
    | nx r =>
      rw [er] at y
      dsimp only at y
      cases eo : outsOf F.io r with
      | none => rw [eo] at y; exact y.elim
      | some os =>
        rw [eo] at y
        intro F' fp' H' σ' hv' s R' a
        exact y F' _ H' .non [] hv' ⟨step_cut s, outs_rel R' a eo hl, ⟨rfl, rfl⟩, fun _ z => (nomatch z), fun _ _ z => (nomatch z), fun _ z => (nomatch z)⟩
    | rt d r =>
      rw [er] at y
      dsimp only at y
      cases eo : outsOf F.io r with
      | none => rw [eo] at y; exact y.elim
      | some os =>
        rw [eo] at y
        intro F' fp' H' σ' v q hv' g a
        refine y F' _ H' v q hv' ⟨step_cut g.st, outs_rel g.rel a eo hl, g.own, g.qF, fun b i hb z => ?_, g.qnew⟩
        split at z
        · exact g.qfp b i hb z
        · cases z
    | exc x r =>
      rw [er] at y
      dsimp only at y
      cases eo : outsOf F.io r with
      | none => rw [eo] at y; exact y.elim
      | some os =>
        rw [eo] at y
        intro F' fp' H' σ' c dx s R' a zx
        exact y F' _ H' c dx (step_cut s) (outs_rel R' a eo hl) zx
    | bk r => rw [er] at y; exact y.elim
    | ct r => rw [er] at y; exact y.elim
    | stuck => rw [er] at y; exact y.elim
  · rw [if_neg hc] at y
    exact y.elim
theorem ctx_of {N ps : List Str} {scope : Scope} {qual : Str} {ad : Addr} {cdv : Value} {A : Around} {outer : List PySem.Env} {s : Shared} {H : Hp} {E : XK} (M : Mod G K mg) (cs : Calls G K mg P w base C ec k) (S : FnScope N ps scope) (hr : Room (k + 1) (A.deeper (envOfC qual scope s.heap.objs.size ad cdv))) :
    Ctx G C ec k N scope (fun _ => true) (cxOf (CX P w) P w K mg base N qual scope ad cdv A outer s H E) (fun cls d _ H => E cls d H) where
  hN := rfl
  nd := S.nd
  scope := rfl
  kind := S.kind
  calm := rfl
  room := hr
  fnc := fun _ _ => rfl
  blt := M.blt
  rng := M.rng
  cst := M.cst
  calS := cs.1
  call := cs.2
  pas := fun σ => passAt (takes_of (E := E) rfl rfl rfl rfl) σ
  own := passes_of rfl
theorem fn_sound {f : Nat} {F : Fn} {params : Arguments} {body : List Stmt} {scope : Scope} {N ps : List Str} {ad : Addr} {fd : FuncData} (M : Mod G K mg) (cs : Calls G K mg P w base C ec k) (d : DefN G K mg f F params body scope N ps ad fd) :
    FnOk P w K mg base (CX P w) (k + 2) ad fd ps (spF K ec F.np F.io (fnGo C wh F)) :=
  d.fn.ok d.sc (fun vs H Q E h => h.1.trans d.np.symm) fun cdv A outer s H vs Q E hr h => ⟨_, soundSs (ctx_of M cs d.sc hr) F.body body d.chk, body_read d.n h⟩
theorem fn_soundS {f : Nat} {F : Fn} {params : Arguments} {body : List Stmt} {scope : Scope} {N : List Str} {pv : Str} {ad : Addr} {fd : FuncData} (M : Mod G K mg) (cs : Calls G K mg P w base C ec k) (d : DefN G K mg f F params body scope N [pv] ad fd) (hio : F.io = [])
    (hb : ∀ (kV doc pm : Value) (an : Option Addr) (cdv ct : Value) (us : List Value), bindArgs (PySem.W.fnOf (G.nm f) (G.nm f) params body scope .none kV doc pm an cdv ct) ⟨us, []⟩ = (newTuple us >>= fun t => pure [(pv, t)])) :
    FnR P w K mg base (CX P w) (k + 2) ad (spS K ec (fnGo C wh F)) := by
  obtain ⟨oc, od, dV, kV, doc, pm, an, cdv, ct, osl, rfl, lk, hcd, hD, hK⟩ := d.fn.ex
  rcases hD with ⟨_, rfl⟩ | ⟨e, _⟩
  · have z := StX.fn_star (CX := CX P w) (P := P) (w := w) (mg := mg) (base := base) (k := k + 1) (N := N) (ps := []) (pv := pv) (sp := spF K ec F.np F.io (fnGo C wh F)) lk hcd d.sc StX.cxUp
      (fun us rest hl => by
        have hu : us = [] := List.length_eq_zero_iff.mp hl
        subst hu
        exact hb kV doc pm an cdv ct rest)
      (fun A outer s H vs Q E hr h => ⟨_, soundSs (ctx_of M cs d.sc hr) F.body body d.chk, body_read d.n h⟩)
    refine z.imp fun vs H Q E h => ⟨[], vs, rfl, rfl, h.1, fun p hp => ?_⟩
    have e1 : F.np = 1 := d.np.symm
    rw [e1, hio]
    exact h.2 p hp
  · exact absurd rfl e
/-- all defs of the program -/
def Defs (G : Pgm) (K : PySem.W.Frag) (mg : Str → Option Value) : Prop := ∀ f F, G.fn f = some F → ∃ params body scope N ps ad fd, DefN G K mg f F params body scope N ps ad fd
def envP (G : Pgm) (wh n : Nat) : Env := ⟨fun g => (match G.fn g with
  | some F => F.io
  | none => []), runP wh G.fn n⟩
theorem never_ok {f : Nat} {F : Fn} {params : Arguments} {body : List Stmt} {scope : Scope} {N ps : List Str} {ad : Addr} {fd : FuncData} (d : DefN G K mg f F params body scope N ps ad fd) : FnOk P w K mg base (CX P w) (k + 1) ad fd ps (spF K ec F.np F.io fun _ => .stuck) :=
  d.fn.ok d.sc (fun vs H Q E h => h.1.trans d.np.symm) fun cdv A outer s H vs Q E hr h => ⟨fun _ _ H => HV H → False, ⟨fun pins s σ H E I q => (q (hv_of I)).elim⟩, fun hv => by
    obtain ⟨_, _, _, _, z⟩ := h.2 hv
    exact z⟩
theorem never_okS {f : Nat} {F : Fn} {params : Arguments} {body : List Stmt} {scope : Scope} {N : List Str} {pv : Str} {ad : Addr} {fd : FuncData} (d : DefN G K mg f F params body scope N [pv] ad fd) (hio : F.io = [])
    (hb : ∀ (kV doc pm : Value) (an : Option Addr) (cdv ct : Value) (us : List Value), bindArgs (PySem.W.fnOf (G.nm f) (G.nm f) params body scope .none kV doc pm an cdv ct) ⟨us, []⟩ = (newTuple us >>= fun t => pure [(pv, t)])) :
    FnR P w K mg base (CX P w) (k + 1) ad (spS K ec fun _ => .stuck) := by
  obtain ⟨oc, od, dV, kV, doc, pm, an, cdv, ct, osl, rfl, lk, hcd, hD, hK⟩ := d.fn.ex
  rcases hD with ⟨_, rfl⟩ | ⟨e, _⟩
  · have z := StX.fn_star (CX := CX P w) (P := P) (w := w) (mg := mg) (base := base) (k := k) (N := N) (ps := []) (pv := pv) (sp := spF K ec F.np F.io fun _ => .stuck) lk hcd d.sc StX.cxUp
      (fun us rest hl => by
        have hu : us = [] := List.length_eq_zero_iff.mp hl
        subst hu
        exact hb kV doc pm an cdv ct rest)
      (fun A outer s H vs Q E hr h => ⟨fun _ _ H => HV H → False, ⟨fun pins s σ H E I q => (q (hv_of I)).elim⟩, fun hv => by
        obtain ⟨_, _, _, _, z⟩ := h.2 hv
        exact z⟩)
    refine z.imp fun vs H Q E h => ⟨[], vs, rfl, rfl, h.1, fun p hp => ?_⟩
    have e1 : F.np = 1 := d.np.symm
    rw [e1, hio]
    exact h.2 p hp
  · exact absurd rfl e
theorem calls_ok (M : Mod G K mg) (ds : Defs G K mg) (ec : Ec) (wh : Nat) : ∀ n, Calls G K mg P w base (envP G wh n) ec (2 * n + 1)
  | 0 => by
    refine ⟨fun f F hF hs => ?_, fun f F hF hs => ?_⟩
    · obtain ⟨params, body, scope, N, ps, ad, fd, d⟩ := ds f F hF
      cases d.bind with
      | one e _ => rw [hs] at e; cases e
      | star _ h1 h2 => exact ⟨ad, d.mg, d.fn.kp, never_okS d h1 h2⟩
    · obtain ⟨params, body, scope, N, ps, ad, fd, d⟩ := ds f F hF
      refine ⟨by show (match G.fn f with | some F => F.io | none => []) = F.io; rw [hF], ?_⟩
      cases d.bind with
      | one _ b => exact ⟨ad, fd, ps, d.mg, d.fn.kp, b, never_ok d⟩
      | star e _ _ => rw [hs] at e; cases e
  | n + 1 => by
    have ih := calls_ok M ds ec wh n
    have er : ∀ f F, G.fn f = some F → (envP G wh (n + 1)).run f = fnGo (envP G wh n) wh F := fun f F hF => by
      funext xs
      show runP wh G.fn (n + 1) f xs = _
      unfold runP
      rw [hF]
      rfl
    refine ⟨fun f F hF hs => ?_, fun f F hF hs => ?_⟩
    · obtain ⟨params, body, scope, N, ps, ad, fd, d⟩ := ds f F hF
      rw [er f F hF]
      cases d.bind with
      | one e _ => rw [hs] at e; cases e
      | star _ h1 h2 => exact ⟨ad, d.mg, d.fn.kp, fn_soundS M ih d h1 h2⟩
    · obtain ⟨params, body, scope, N, ps, ad, fd, d⟩ := ds f F hF
      rw [er f F hF]
      refine ⟨by show (match G.fn f with | some F => F.io | none => []) = F.io; rw [hF], ?_⟩
      cases d.bind with
      | one _ b => exact ⟨ad, fd, ps, d.mg, d.fn.kp, b, fn_sound M ih d⟩
      | star e _ _ => rw [hs] at e; cases e
/-- THE LAW: its def, at a script -/
def spLaw (K : PySem.W.Frag) (m : Nat) : Sp := fun vs H Q _ => ∃ (a : Addr) (ns : List Int), vs = [.ref a] ∧ ns.length ≤ m ∧ Only H ∧ SqL K H a (ns.map V.int) ∧ ∀ H', Q (.bl true) H'
theorem frz_ints {F : FS} {H : Hp} : ∀ ns : List Int, Frzs K F H (ns.map D.int) (ns.map V.int)
  | [] => rfl
  | n :: ns => ⟨_, _, rfl, rfl, frz_ints ns⟩
end
end Y
set_option Elab.async false
set_option linter.all false
set_option maxRecDepth 100000
set_option maxHeartbeats 4000000
/-! Y18: the law's def. -/
namespace Y
open PySem PySem.Spec L2
open PyProof.Rows hiding St

/-! ### the law's def, at a script -/
section
variable {G : Pgm} {K : PySem.W.Frag} {mg : Str → Option Value} {P : Program} {w : World} {base : Heap} {ec : Ec} {k : Nat}
theorem sp_script {io : List Nat} {run : List D → CRes} {H : Hp} {a : Addr} {ns : List Int} (hS : SqL K H a (ns.map V.int)) (h : ∃ outs, run [.wls (ns.map D.int)] = .ok (.bl true) outs) : spF K ec 1 io run [.ref a] H (fun v _ => v = .bl true) fun _ _ _ => False := by
  obtain ⟨outs, e⟩ := h
  refine ⟨rfl, fun hv => ⟨fun b => b = a ∧ ∃ o, H b = some o, fun _ => [], [.wls (ns.map D.int)], ⟨rfl, fun i d hd => ?_, fun _ _ => rfl, fun _ _ _ _ z => (nomatch z), fun _ _ z => (nomatch z), fun b z => z.2⟩, ?_⟩⟩
  · cases i with
    | zero =>
      cases hd
      refine ⟨.ref a, rfl, ⟨a, ns.map V.int, rfl, ?_, frz_ints ns⟩, rfl⟩
      rcases hS with z | z
      · refine .inl ⟨⟨rfl, ?_⟩, z⟩
        rcases z with z | ⟨o, z⟩
        · exact ⟨_, z⟩
        · exact ⟨_, z⟩
      · exact .inr z
    | succ i => cases hd
  · rw [e]
    intro F' fp' H' v q hv' g
    exact g.own.1
/-- a promise without errors -/
theorem FnOk.quiet {f : Addr} {fd : FuncData} {ps : List Str} {sp : Sp} (F : FnOk P w K mg base (CX P w) k f fd ps sp) : FnOk P w K mg base L2.CX0 k f fd ps (fun vs H Q _ => sp vs H Q fun _ _ _ => False) := by
  refine ⟨fun vs H Q E h => F.len vs H Q _ h, fun A outer s H args us vs Q E hr e0 hb hv hs => ?_⟩
  refine codeAny_mono (F.run A outer s H args us vs Q _ hr e0 hb hv hs) fun r s' hq => ?_
  cases r with
  | error e =>
    obtain ⟨_, _, _, _, _, _, _, _, _, _, _, _, z⟩ := hq
    exact z
  | ok fl => cases fl <;> exact hq
theorem law_fn {f n wh : Nat} {F : Fn} {params : Arguments} {body : List Stmt} {scope : Scope} {N : List Str} {x : Str} {ad : Addr} {fd : FuncData} (M : Mod G K mg) (ds : Defs G K mg) (d : DefN G K mg f F params body scope N [x] ad fd) (hF : G.fn f = some F) :
    FnOk P w K mg base L2.CX0 (2 * n + 3) ad fd [x] (fun vs H Q _ => spF K ⟨fun _ => .none, fun _ => []⟩ F.np F.io (runP wh G.fn (n + 1) f) vs H Q fun _ _ _ => False) := by
  have z := fn_sound (P := P) (w := w) (base := base) (wh := wh) (ec := ⟨fun _ => .none, fun _ => []⟩) M (calls_ok M ds _ wh n) d
  have er : runP wh G.fn (n + 1) f = fnGo (envP G wh n) wh F := by
    funext xs
    unfold runP
    rw [hF]
    rfl
  rw [er]
  exact FnOk.quiet z
end
end Y
set_option Elab.async false
set_option linter.all false
set_option maxRecDepth 100000
/-! Y19: the run by values, rule by rule, for simp. -/
namespace YV
open PySem L2 Y
section
variable (C : Y.Env) (w : Nat) (r : Rho)
def lcStep (elt : Ex) (tg : Tg) (own : List Nat) (ifs : List Ex) (x : D) (r : Rho) : Res (Option D) := match tgS tg x (wip r own) with
  | some r1 => (evT C ifs r1).el (fun b r2 => if b = true then (evO C elt r2).el (fun y r3 => .ok (some y.fz) (wip r3 own)) (fun _ _ => .stuck) .stuck else .ok none (wip r2 own)) (fun _ _ => .stuck) .stuck
  | none => .stuck
def bodyOf (b : List Sx) (r : Rho) : Out := evSs C w b r
def testOf (c : Ex) (r : Rho) : Res Bool := asB (evO C c r)
theorem ev_var (i : Nat) : evO C (.var i) r = (match getS r i with
    | some d => .ok d.fz (r.set i (some d.fz))
    | none => .stuck) := by rw [evO] <;> rfl
theorem ev_cst (d : D) : evO C (.cst d) r = .ok d r := by rw [evO]
theorem ev_glb (x : Str) (d : D) : evO C (.glb x d) r = .ok d r := by rw [evO]
theorem ev_tup (es : List Ex) : evO C (.tup es) r = (evL C es r).el (fun ds r => if ds.length ≤ sizeLine then .ok (.tup ds) r else .stuck) .exc .stuck := by rw [evO]
theorem ev_lst (es : List Ex) : evO C (.lst es) r = (evL C es r).el (fun ds r => if ds.length ≤ sizeLine then .ok (.lst true ds) r else .stuck) .exc .stuck := by rw [evO]
theorem ev_bin (o : Op) (a b : Ex) : evO C (.bin o a b) r = (evO C a r).el (fun x r => (evO C b r).el (fun y r => .of (opD o x.fz y.fz) r) .exc .stuck) .exc .stuck := by rw [evO]
theorem ev_neg (a : Ex) : evO C (.neg a) r = (evO C a r).el (fun x r => (match x with
    | .int i => .ok (.int (-i)) r
    | _ => .stuck)) .exc .stuck := by rw [evO] <;> rfl
theorem ev_not (a : Ex) : evO C (.not a) r = (asB (evO C a r)).el (fun b r => .ok (.bl (!b)) r) .exc .stuck := by rw [evO]
theorem ev_cmp (o : Cm) (a b : Ex) : evO C (.cmp o a b) r = (evO C a r).el (fun x r => (evO C b r).el (fun y r => .of (cmD o x.fz y.fz) r) .exc .stuck) .exc .stuck := by rw [evO]
theorem ev_chain (o1 o2 : Cm) (a b c : Ex) : evO C (.chain o1 o2 a b c) r = (evO C a r).el (fun x r => (evO C b r).el (fun y r => (asB (.of (cmD o1 x.fz y.fz) r)).el (fun k r =>
      if k = true then (evO C c r).el (fun z r => .of (cmD o2 y.fz z.fz) r) .exc .stuck else .ok (.bl false) r) .exc .stuck) .exc .stuck) .exc .stuck := by rw [evO]
theorem ev_and (a b : Ex) : evO C (.and a b) r = (asB (evO C a r)).el (fun k r => if k = true then (evO C b r).el (fun y r => .ok y.fz r) .exc .stuck else .ok (.bl false) r) .exc .stuck := by rw [evO]
theorem ev_or (a b : Ex) : evO C (.or a b) r = (asB (evO C a r)).el (fun k r => if k = true then .ok (.bl true) r else (evO C b r).el (fun y r => .ok y.fz r) .exc .stuck) .exc .stuck := by rw [evO]
theorem ev_ife (c a b : Ex) : evO C (.ife c a b) r = (asB (evO C c r)).el (fun k r => if k = true then evO C a r else evO C b r) .exc .stuck := by rw [evO]
theorem ev_idx (a b : Ex) : evO C (.idx a b) r = (evO C a r).el (fun x r => (evO C b r).el (fun y r => .of (idxD x.fz y.fz) r) .exc .stuck) .exc .stuck := by rw [evO]
theorem ev_idxV (s : Nat) (b : Ex) : evO C (.idxV s b) r = (match getS r s with
    | some _ => (evO C b r).el (fun y r => (match getS r s with
      | some x => .of (idxD x y.fz) r
      | none => .stuck)) .exc .stuck
    | none => .stuck) := by rw [evO] <;> rfl
theorem ev_call (f : Nat) (es : List Ex) : evO C (.call f es) r = (evA C (C.io f) 0 es r).el (fun ds r => if (lentS es).Nodup then (match lend r es ds with
      | some vs => (match C.run f vs with
        | .ok d outs => (match back (C.io f) outs 0 es r with
          | some r' => .ok d r'
          | none => .stuck)
        | .exc x outs => (match back (C.io f) outs 0 es r with
          | some r' => .exc x r'
          | none => .stuck)
        | .stuck => .stuck)
      | none => .stuck) else .stuck) .exc .stuck := by rw [evO] <;> rfl
theorem ev_blt (b : Bl) (es : List Ex) : evO C (.blt b es) r = (evL C es r).el (fun ds r => .of (bltD b ds) r) .exc .stuck := by rw [evO]
theorem ev_join (a b : Ex) : evO C (.join a b) r = (evO C a r).el (fun x r => (match x.fz with
    | .str s => (evO C b r).el (fun y r => .of (joinD (.str s) y.fz) r) .exc .stuck
    | _ => .stuck)) .exc .stuck := by rw [evO] <;> rfl
theorem ev_lrng (a b : Ex) : evO C (.lrng a b) r = (evO C a r).el (fun x r => (evO C b r).el (fun y r => .of (lrngD x.fz y.fz) r) .exc .stuck) .exc .stuck := by rw [evO]
theorem ev_lc (elt : Ex) (tg : Tg) (own : List Nat) (it : Ite) (ifs : List Ex) : evO C (.lc elt tg own it ifs) r = (evI C it r).el (fun xs r => (lcGo (lcStep C elt tg own ifs) xs [] (wip r own)).el (fun ys r' => .ok (.lst true ys) (unwip r r' own)) (fun _ _ => .stuck) .stuck) .exc .stuck := by
  rw [evO]
  rfl
theorem ev_callS (f : Nat) (es : List Ex) : evO C (.callS f es) r = (evL C es r).el (fun ds r => if ds.length ≤ sizeLine then (match C.run f [.tup ds] with
      | .ok d _ => .ok d r
      | .exc x _ => .exc x r
      | .stuck => .stuck) else .stuck) .exc .stuck := by rw [evO] <;> rfl
theorem ev_nd : evO C .nd r = .ok (.dct true []) r := by rw [evO]
theorem lc_nil (st : D → Rho → Res (Option D)) (acc : List D) : lcGo st [] acc r = .ok acc r := by rw [lcGo]
theorem lc_cons (st : D → Rho → Res (Option D)) (x : D) (xs acc : List D) : lcGo st (x :: xs) acc r = (st x r).el (fun o r' => match o with
    | some y => lcGo st xs (acc ++ [y]) r'
    | none => lcGo st xs acc r') (fun _ _ => .stuck) .stuck := by rw [lcGo] <;> rfl
theorem tg_nm (i : Nat) (d : D) : tgS (.nm i) d r = if i < r.length then some (r.set i (some d.fz)) else none := by rw [tgS]
theorem tg_tp (ts : List Tg) (xs : List D) : tgS (.tp ts) (.tup xs) r = tgSs ts xs r := by rw [tgS]
theorem tgs_nil : tgSs [] [] r = some r := by rw [tgSs]
theorem tgs_cons (t : Tg) (ts : List Tg) (x : D) (xs : List D) : tgSs (t :: ts) (x :: xs) r = (match tgS t x r with
    | some r' => tgSs ts xs r'
    | none => none) := by rw [tgSs] <;> rfl
theorem es_expr (e : Ex) : evS C w (.expr e) r = (evO C e r).el (fun _ r => .nx r) .exc .stuck := by rw [evS]
theorem es_nm (i : Nat) (e : Ex) : evS C w (.asg (.nm i) e) r = (evO C e r).el (fun d r => if i < r.length then .nx (r.set i (some d)) else .stuck) .exc .stuck := by rw [evS]
theorem es_tp (ts : List Tg) (e : Ex) : evS C w (.asg (.tp ts) e) r = (evO C e r).el (fun d r => (match tgS (.tp ts) d.fz r with
    | some r' => .nx r'
    | none => .stuck)) .exc .stuck := by rw [evS] <;> rfl
theorem es_par (i j : Nat) (a b : Ex) : evS C w (.par i j a b) r = (evO C a r).el (fun x r => (evO C b r).el (fun y r => if i ≠ j ∧ i < r.length ∧ j < r.length then .nx ((r.set i (some x.fz)).set j (some y.fz)) else .stuck) .exc .stuck) .exc .stuck := by rw [evS]
theorem es_set (s : Nat) (i e : Ex) : evS C w (.setV s i e) r = (evO C e r).el (fun y r => (match getS r s with
    | some _ => (evO C i r).el (fun k r => (match getS r s, k.fz with
      | some (.lst true xs), .int z => (match ixN xs.length z with
        | some n => .nx (r.set s (some (.lst true (xs.set n y.fz))))
        | none => .stuck)
      | _, _ => .stuck)) .exc .stuck
    | none => .stuck)) .exc .stuck := by rw [evS] <;> rfl
theorem es_ret (e : Ex) : evS C w (.ret e) r = (evO C e r).el (fun d r => .rt d r) .exc .stuck := by rw [evS]
theorem es_if (c : Ex) (a b : List Sx) : evS C w (.ifs c a b) r = (asB (evO C c r)).el (fun k r => if k = true then evSs C w a r else evSs C w b r) .exc .stuck := by rw [evS]
theorem es_while (c : Ex) (b : List Sx) : evS C w (.while c b) r = whileGo (testOf C c) (bodyOf C w b) w r := by
  rw [evS]
  rfl
theorem es_for (t : Tg) (it : Ite) (b : List Sx) : evS C w (.for t it b) r = (evI C it r).el (fun xs r => forGo t (bodyOf C w b) xs r) .exc .stuck := by
  rw [evS]
  rfl
theorem for_nil (t : Tg) (b : Rho → Out) : forGo t b [] r = .nx r := by rw [forGo]
theorem for_cons (t : Tg) (b : Rho → Out) (x : D) (xs : List D) : forGo t b (x :: xs) r = (match tgS t x r with
    | some r1 => (match b r1 with
      | .nx r2 => forGo t b xs r2
      | .ct r2 => forGo t b xs r2
      | .bk r2 => .nx r2
      | o => o)
    | none => .stuck) := by rw [forGo] <;> rfl
theorem body_ap (b : List Sx) : bodyOf C w b r = evSs C w b r := rfl
theorem ess_nil : evSs C w [] r = .nx r := by rw [evSs]
theorem ess_cons (s : Sx) (ss : List Sx) : evSs C w (s :: ss) r = (evS C w s r).seq fun r => evSs C w ss r := by rw [evSs]
theorem el_ok {A M : Type} (a : A) (k : A → Rho → M) (me : Exc → Rho → M) (ms : M) : (Res.ok a r).el k me ms = k a r := rfl
theorem seq_nx (k : Rho → Out) : (Out.nx r).seq k = k r := rfl
theorem seq_rt (d : D) (k : Rho → Out) : (Out.rt d r).seq k = .rt d r := rfl
theorem of_some {A : Type} (a : A) : Res.of (some a) r = .ok a r := rfl
theorem asB_bl (b : Bool) : asB (.ok (.bl b) r) = .ok b r := rfl
end
theorem fz_int (i : Int) : (D.int i).fz = .int i := rfl
theorem fz_bl (i : Bool) : (D.bl i).fz = .bl i := rfl
theorem fz_str (i : Str) : (D.str i).fz = .str i := rfl
theorem fz_non : D.non.fz = .non := rfl
theorem fz_ty (i : String) : (D.ty i).fz = .ty i := rfl
theorem fz_tup (i : List D) : (D.tup i).fz = .tup i := rfl
theorem fz_lst (b : Bool) (i : List D) : (D.lst b i).fz = .lst false i := rfl
theorem fz_wls (i : List D) : (D.wls i).fz = .wls i := rfl
theorem fz_dct (b : Bool) (i : List (DK × D)) : (D.dct b i).fz = .dct false i := rfl
theorem szl : sizeLine = 16777216 := by decide
theorem mulOk_l (i j : Int) (h1 : -18446744073709551616 < i) (h2 : i < 18446744073709551616) : mulOk i j = true := by
  unfold mulOk
  simp only [Bool.or_eq_true, Bool.and_eq_true, decide_eq_true_eq]
  exact .inl ⟨h1, h2⟩
theorem mulOk_r (i j : Int) (h1 : -18446744073709551616 < j) (h2 : j < 18446744073709551616) : mulOk i j = true := by
  unfold mulOk
  simp only [Bool.or_eq_true, Bool.and_eq_true, decide_eq_true_eq]
  exact .inr ⟨h1, h2⟩
theorem mulOk_mod (x m j : Int) (h : 0 < m) (h2 : m ≤ 18446744073709551616) : mulOk (x % m) j = true :=
  mulOk_l _ _ (by have := Int.emod_nonneg x (show m ≠ 0 by omega); omega) (by have := Int.emod_lt_of_pos x h; omega)
theorem eqD_int (a b : Int) : eqD (.int a) (.int b) = some (decide (a = b)) := by
  show (if SeqAt.shaped (.int a) = true ∧ SeqAt.shaped (.int b) = true then some (PyData.eqv (.int a) (.int b)) else none) = _
  rw [if_pos ⟨rfl, rfl⟩]
  congr 1
end YV
set_option Elab.async false
set_option linter.all false
set_option maxRecDepth 100000
namespace YL
open PySem PySem.Spec L2 Y
open PyProof.Rows hiding St
/-- _law_dice -/
def N0 : List Str := ["_law_script", "_law_at", "_law_cell", "_law_great", "_law_left", "_law_mixed"]
def F0 : Fn := ⟨6, 2, [], [
    .asg (.nm 2) (.bin .add (.bin .mul (.cst (.int 97)) (.var 1)) (.cst (.int 53))),
    .ifs (.cmp .lt (.var 1) (.blt .len [(.var 0)])) [.asg (.nm 2) (.idxV 0 (.var 1))] [],
    .asg (.nm 3) (.bin .mod (.blt .int [(.blt .abs [(.var 2)])]) (.bin .pow (.bin .pow (.cst (.int 10)) (.cst (.int 60))) (.cst (.int 10)))),
    .asg (.nm 4) (.bin .fdiv (.var 3) (.bin .pow (.cst (.int 10)) (.cst (.int 18)))),
    .asg (.nm 5) (.bin .add (.bin .add (.bin .add (.bin .mul (.bin .mod (.var 3) (.cst (.int 2147482951))) (.cst (.int 61291))) (.bin .mul (.cst (.int 3517)) (.var 1))) (.bin .mul (.cst (.int 71)) (.blt .int [(.cmp .lt (.var 2) (.cst (.int 0)))]))) (.cst (.int 83))),
    .ret (.lst [(.var 4), (.bin .mod (.var 5) (.cst (.int 2147482949))), (.cst (.int 0))])]⟩
/-- divisor_of -/
def N1 : List Str := ["one", "other", "left", "right"]
def F1 : Fn := ⟨4, 2, [], [
    .par 2 3 (.blt .abs [(.var 0)]) (.var 1),
    .while (.cmp .gt (.var 2) (.cst (.int 0))) [.par 2 3 (.bin .mod (.var 3) (.var 2)) (.var 2)],
    .ret (.var 3)]⟩
/-- fraction_in -/
def N2 : List Str := ["numerator", "denominator", "common"]
def F2 : Fn := ⟨3, 2, [], [
    .asg (.nm 2) (.call 1 [(.var 0), (.var 1)]),
    .ret (.tup [(.bin .fdiv (.var 0) (.var 2)), (.bin .fdiv (.var 1) (.var 2))])]⟩
/-- is_integer -/
def N3 : List Str := ["value"]
def F3 : Fn := ⟨1, 1, [], [
    .ret (.and (.blt .isi [(.var 0), (.glb "int" (.ty "int"))]) (.not (.blt .isi [(.var 0), (.glb "bool" (.ty "bool"))])))]⟩
/-- is_many -/
def N4 : List Str := ["value"]
def F4 : Fn := ⟨1, 1, [], [
    .ret (.and (.call 3 [(.var 0)]) (.cmp .ge (.var 0) (.cst (.int 1))))]⟩
/-- fraction -/
def N5 : List Str := ["numerator", "denominator"]
def F5 : Fn := ⟨2, 2, [], [
    .ifs (.not (.call 3 [(.var 0)])) [.stop] [],
    .ifs (.not (.call 4 [(.var 1)])) [.stop] [],
    .ret (.call 2 [(.var 0), (.var 1)])]⟩
/-- is_fraction -/
def N6 : List Str := ["value"]
def F6 : Fn := ⟨1, 1, [], [
    .ifs (.or (.not (.blt .isi [(.var 0), (.glb "tuple" (.ty "tuple"))])) (.or (.cmp .ne (.blt .len [(.var 0)]) (.cst (.int 2))) (.or (.not (.call 3 [(.idxV 0 (.cst (.int 0)))])) (.not (.call 4 [(.idxV 0 (.cst (.int 1)))]))))) [.ret (.cst (.bl false))] [],
    .ret (.cmp .eq (.call 1 [(.idxV 0 (.cst (.int 0))), (.idxV 0 (.cst (.int 1)))]) (.cst (.int 1)))]⟩
/-- require_fractions -/
def N7 : List Str := ["values", "value"]
def F7 : Fn := ⟨2, 1, [], [
    .ifs (.or (.cmp .eq (.blt .len [(.var 0)]) (.cst (.int 0))) (.not (.blt .all [(.lc (.call 6 [(.var 1)]) (.nm 1) [1] (.seq (.var 0)) [])]))) [.stop] []]⟩
/-- is_less -/
def N8 : List Str := ["one", "other"]
def F8 : Fn := ⟨2, 2, [], [
    .ret (.cmp .lt (.bin .mul (.idxV 0 (.cst (.int 0))) (.idxV 1 (.cst (.int 1)))) (.bin .mul (.idxV 1 (.cst (.int 0))) (.idxV 0 (.cst (.int 1)))))]⟩
/-- greatest_in -/
def N9 : List Str := ["values", "found", "value"]
def F9 : Fn := ⟨3, 1, [], [
    .asg (.nm 1) (.idxV 0 (.cst (.int 0))),
    .for (.nm 2) (.seq (.var 0)) [.ifs (.call 8 [(.var 1), (.var 2)]) [.asg (.nm 1) (.var 2)] []],
    .ret (.var 1)]⟩
/-- greatest -/
def N10 : List Str := ["fractions"]
def F10 : Fn := ⟨1, 1, [], [
    .expr (.call 7 [(.var 0)]),
    .ret (.call 9 [(.var 0)])]⟩
/-- _law_roll -/
def N11 : List Str := ["_law_dice_here", "_law_total", "_law_size", "_law_one", "_law_two", "_law_drawn_here"]
def F11 : Fn := ⟨6, 2, [0], [
    .asg (.nm 2) (.blt .int [(.var 1)]),
    .ifs (.cmp .gt (.idxV 0 (.cst (.int 0))) (.cst (.int 0))) [.asg (.nm 5) (.bin .mod (.idxV 0 (.cst (.int 0))) (.var 2)), .setV 0 (.cst (.int 0)) (.bin .fdiv (.idxV 0 (.cst (.int 0))) (.var 2)), .ret (.blt .int [(.var 5)])] [],
    .setV 0 (.cst (.int 2)) (.bin .add (.idxV 0 (.cst (.int 2))) (.cst (.int 1))),
    .asg (.nm 3) (.bin .mod (.bin .add (.idxV 0 (.cst (.int 1))) (.bin .mul (.cst (.int 1000249)) (.idxV 0 (.cst (.int 2))))) (.cst (.int 2305843009213693951))),
    .asg (.nm 4) (.bin .add (.bin .mul (.bin .mod (.bin .mul (.var 3) (.var 3)) (.cst (.int 2305843009213693921))) (.var 3)) (.bin .mul (.cst (.int 9437)) (.idxV 0 (.cst (.int 2))))),
    .asg (.nm 4) (.bin .mod (.var 4) (.cst (.int 2305843009213693907))),
    .ret (.blt .int [(.bin .mod (.bin .fdiv (.var 4) (.cst (.int 4096))) (.var 2))])]⟩
/-- _law_one_of -/
def N12 : List Str := ["_law_dice_here", "_law_items"]
def F12 : Fn := ⟨2, 2, [0], [
    .ret (.idxV 1 (.call 11 [.lv 0, (.blt .len [(.var 1)])]))]⟩
/-- _law_drawn -/
def N13 : List Str := ["_law_dice_here", "_law_great"]
def F13 : Fn := ⟨2, 1, [0], [
    .asg (.nm 1) (.call 12 [.lv 0, (.lst [(.cst (.int 5)), (.cst (.int 13)), (.cst (.int 40))])]),
    .ret (.tup [(.bin .sub (.call 11 [.lv 0, (.bin .mul (.cst (.int 2)) (.var 1))]) (.var 1)), (.bin .add (.cst (.int 1)) (.call 11 [.lv 0, (.var 1)]))])]⟩
/-- _law_lowest -/
def N14 : List Str := ["_law_numerator", "_law_denominator", "_law_one", "_law_other"]
def F14 : Fn := ⟨4, 2, [], [
    .par 2 3 (.blt .abs [(.var 0)]) (.var 1),
    .while (.cmp .gt (.var 3) (.cst (.int 0))) [.par 2 3 (.var 3) (.bin .mod (.blt .int [(.var 2)]) (.var 3))],
    .ret (.tup [(.bin .fdiv (.var 0) (.var 2)), (.bin .fdiv (.var 1) (.var 2))])]⟩
/-- _law_is_lowest -/
def N15 : List Str := ["_law_one", "_law_some", "_law_top", "_law_low", "_law_by"]
def F15 : Fn := ⟨5, 1, [], [
    .asg (.tp [(.nm 2), (.nm 3)]) (.tup [(.blt .int [(.idxV 0 (.cst (.int 0)))]), (.blt .int [(.idxV 0 (.cst (.int 1)))])]),
    .asg (.nm 1) (.lrng (.cst (.int 2)) (.bin .add (.bin .add (.blt .abs [(.var 2)]) (.var 3)) (.cst (.int 1)))),
    .ret (.and (.cmp .gt (.var 3) (.cst (.int 0))) (.cmp .eq (.lc (.var 4) (.nm 4) [4] (.seq (.var 1)) [(.and (.cmp .eq (.bin .mod (.var 2) (.var 4)) (.cst (.int 0))) (.cmp .eq (.bin .mod (.var 3) (.var 4)) (.cst (.int 0))))]) (.lst [])))]⟩
/-- is_lower -/
def N16 : List Str := ["one", "other"]
def F16 : Fn := ⟨2, 2, [], [
    .expr (.call 7 [(.tup [(.var 0), (.var 1)])]),
    .ret (.call 8 [(.var 0), (.var 1)])]⟩
/-- _law_less -/
def N17 : List Str := ["_law_one", "_law_other"]
def F17 : Fn := ⟨2, 2, [], [
    .ret (.cmp .lt (.bin .mul (.idxV 0 (.cst (.int 0))) (.idxV 1 (.cst (.int 1)))) (.bin .mul (.idxV 1 (.cst (.int 0))) (.idxV 0 (.cst (.int 1)))))]⟩
/-- _law_right -/
def N18 : List Str := ["_law_dice_here", "_law_pairs", "_law_rows", "_law_most", "_law_near", "_law_due", "_law_one", "_law_other", "_law_by", "_law_far", "_law_turn"]
def F18 : Fn := ⟨11, 1, [0], [
    .asg (.nm 1) (.lc (.call 13 [.lv 0]) (.nm 10) [10] (.rng1 (.cst (.int 3))) []),
    .asg (.nm 2) (.lc (.call 5 [(.var 6), (.var 7)]) (.tp [(.nm 6), (.nm 7)]) [6, 7] (.seq (.var 1)) []),
    .ifs (.cmp .ne (.var 2) (.lc (.call 14 [(.var 6), (.var 7)]) (.tp [(.nm 6), (.nm 7)]) [6, 7] (.seq (.var 1)) [])) [.ret (.cst (.bl false))] [],
    .ifs (.cmp .ne (.lc (.var 6) (.nm 6) [6] (.seq (.var 2)) [(.not (.call 15 [(.var 6)]))]) (.lst [])) [.ret (.cst (.bl false))] [],
    .for (.tp [(.nm 6), (.nm 7)]) (.seq (.lst [(.tup [(.idxV 2 (.cst (.int 0))), (.idxV 2 (.cst (.int 1)))]), (.tup [(.idxV 2 (.cst (.int 1))), (.idxV 2 (.cst (.int 2)))]), (.tup [(.idxV 2 (.cst (.int 2))), (.idxV 2 (.cst (.int 2)))])])) [.ifs (.or (.cmp .ne (.call 16 [(.var 6), (.var 7)]) (.call 17 [(.var 6), (.var 7)])) (.and (.call 16 [(.var 6), (.var 7)]) (.call 16 [(.var 7), (.var 6)]))) [.ret (.cst (.bl false))] []],
    .asg (.nm 3) (.callS 10 [(.idxV 2 (.cst (.int 0))), (.idxV 2 (.cst (.int 1))), (.idxV 2 (.cst (.int 2)))]),
    .ifs (.or (.cmp .nin (.var 3) (.var 2)) (.or (.cmp .ne (.lc (.var 6) (.nm 6) [6] (.seq (.var 2)) [(.call 17 [(.var 3), (.var 6)])]) (.lst [])) (.cmp .ne (.callS 10 [(.idxV 2 (.cst (.int 1)))]) (.idxV 2 (.cst (.int 1)))))) [.ret (.cst (.bl false))] [],
    .par 8 9 (.bin .add (.cst (.int 2)) (.call 11 [.lv 0, (.cst (.int 5))])) (.bin .add (.bin .pow (.cst (.int 10)) (.cst (.int 11))) (.call 11 [.lv 0, (.cst (.int 1000))])),
    .ifs (.or (.cmp .ne (.call 5 [(.bin .mul (.idx (.idxV 1 (.cst (.int 0))) (.cst (.int 0))) (.var 8)), (.bin .mul (.idx (.idxV 1 (.cst (.int 0))) (.cst (.int 1))) (.var 8))]) (.idxV 2 (.cst (.int 0)))) (.cmp .ne (.call 5 [(.var 9), (.var 9)]) (.tup [(.cst (.int 1)), (.cst (.int 1))]))) [.ret (.cst (.bl false))] [],
    .asg (.nm 4) (.lst [(.idxV 2 (.cst (.int 0))), (.idxV 1 (.cst (.int 0))), (.tup [(.idx (.idxV 2 (.cst (.int 0))) (.cst (.int 0))), (.cst (.int 0))]), (.tup [(.idx (.idxV 2 (.cst (.int 0))) (.cst (.int 0))), (.neg (.cst (.int 1)))]), (.bin .add (.idxV 2 (.cst (.int 0))) (.tup [(.cst (.int 1))])), (.blt .list [(.idxV 2 (.cst (.int 0)))]), (.tup [(.cst (.bl true)), (.cst (.int 2))])]),
    .asg (.nm 4) (.bin .add (.var 4) (.lst [(.tup [(.cst (.int 1)), (.cst (.bl true))]), (.cst .non), (.cst (.int 3))])),
    .asg (.nm 5) (.bin .add (.lst [(.cst (.bl true)), (.call 15 [(.idxV 1 (.cst (.int 0)))])]) (.bin .mul (.lst [(.cst (.bl false))]) (.cst (.int 8)))),
    .ret (.and (.cmp .eq (.lc (.call 6 [(.var 6)]) (.nm 6) [6] (.seq (.var 4)) []) (.var 5)) (.cmp .is (.call 6 [(.tup [(.cst (.int 0)), (.cst (.int 2))])]) (.cst (.bl false))))]⟩
/-- is_place -/
def N19 : List Str := ["value", "sign"]
def F19 : Fn := ⟨2, 1, [], [
    .ret (.and (.blt .isi [(.var 0), (.glb "str" (.ty "str"))]) (.and (.chain .le .le (.cst (.int 1)) (.blt .len [(.var 0)]) (.glb "MAX_LETTERS" (.int 8))) (.blt .all [(.lc (.cmp .in_ (.var 1) (.glb "LETTERS" (.str "abcdefghijklmnopqrstuvwxyz"))) (.nm 1) [1] (.seq (.var 0)) [])])))]⟩
/-- _law_places_right -/
def N20 : List Str := ["_law_dice_here", "_law_word", "_law_near", "_law_turn", "_law_one"]
def F20 : Fn := ⟨5, 1, [0], [
    .asg (.nm 1) (.join (.cst (.str "")) (.lc (.call 12 [.lv 0, (.lst [(.cst (.str "a")), (.cst (.str "b")), (.cst (.str "z"))])]) (.nm 3) [3] (.rng1 (.bin .add (.cst (.int 1)) (.call 11 [.lv 0, (.cst (.int 8))]))) [])),
    .asg (.nm 2) (.lst [(.var 1), (.bin .add (.var 1) (.cst (.str "qqqqqqqq"))), (.bin .add (.var 1) (.cst (.str "A"))), (.cst (.str "")), (.bin .add (.var 1) (.cst (.str " "))), (.tup [(.var 1)]), (.cst .non), (.cst (.int 0)), (.cst (.bl true)), (.lst [(.var 1)]), .nd, (.bin .add (.var 1) (.cst (.str "1")))]),
    .ret (.cmp .eq (.lc (.call 19 [(.var 4)]) (.nm 4) [4] (.seq (.var 2)) []) (.bin .add (.lst [(.cst (.bl true))]) (.bin .mul (.lst [(.cst (.bl false))]) (.cst (.int 11)))))]⟩
/-- law -/
def N21 : List Str := ["_law_script", "_law_spot", "_law_told", "_law_dice_here"]
def F21 : Fn := ⟨4, 1, [], [
    .for (.nm 1) (.rng1 (.blt .max2 [(.cst (.int 1)), (.blt .min2 [(.cst (.int 8)), (.blt .len [(.var 0)])])])) [.asg (.nm 3) (.call 0 [(.var 0), (.var 1)]), .ifs (.or (.not (.call 18 [.lv 3])) (.not (.call 20 [.lv 3]))) [.ret (.cst (.bl false))] []],
    .asg (.nm 2) (.lst [(.call 5 [(.cst (.int 6)), (.cst (.int 4))]), (.call 5 [(.neg (.cst (.int 2))), (.cst (.int 6))]), (.call 5 [(.cst (.int 0)), (.cst (.int 7))]), (.callS 10 [(.tup [(.cst (.int 1)), (.cst (.int 2))]), (.tup [(.cst (.int 2)), (.cst (.int 3))]), (.tup [(.cst (.int 3)), (.cst (.int 5))])]), (.glb "MAX_LETTERS" (.int 8))]),
    .ret (.cmp .eq (.var 2) (.lst [(.tup [(.cst (.int 3)), (.cst (.int 2))]), (.tup [(.neg (.cst (.int 1))), (.cst (.int 3))]), (.tup [(.cst (.int 0)), (.cst (.int 1))]), (.tup [(.cst (.int 2)), (.cst (.int 3))]), (.cst (.int 8))]))]⟩
def fnT : Nat → Option Fn
  | 0 => some F0
  | 1 => some F1
  | 2 => some F2
  | 3 => some F3
  | 4 => some F4
  | 5 => some F5
  | 6 => some F6
  | 7 => some F7
  | 8 => some F8
  | 9 => some F9
  | 10 => some F10
  | 11 => some F11
  | 12 => some F12
  | 13 => some F13
  | 14 => some F14
  | 15 => some F15
  | 16 => some F16
  | 17 => some F17
  | 18 => some F18
  | 19 => some F19
  | 20 => some F20
  | 21 => some F21
  | _ => none
def nmT : Nat → Str
  | 0 => "_law_dice"
  | 1 => "divisor_of"
  | 2 => "fraction_in"
  | 3 => "is_integer"
  | 4 => "is_many"
  | 5 => "fraction"
  | 6 => "is_fraction"
  | 7 => "require_fractions"
  | 8 => "is_less"
  | 9 => "greatest_in"
  | 10 => "greatest"
  | 11 => "_law_roll"
  | 12 => "_law_one_of"
  | 13 => "_law_drawn"
  | 14 => "_law_lowest"
  | 15 => "_law_is_lowest"
  | 16 => "is_lower"
  | 17 => "_law_less"
  | 18 => "_law_right"
  | 19 => "is_place"
  | 20 => "_law_places_right"
  | 21 => "law"
  | _ => ""
end YL
set_option Elab.async false
set_option linter.all false
set_option maxRecDepth 100000
set_option maxHeartbeats 2000000
/-! P01: what the form of k01 computes. -/
namespace YL
open PySem L2 Y
abbrev wh : Nat := 10000000000000
theorem mulOk_l (i j : Int) (h1 : -18446744073709551616 < i) (h2 : i < 18446744073709551616) : mulOk i j = true := by
  unfold mulOk
  simp only [Bool.or_eq_true, Bool.and_eq_true, decide_eq_true_eq]
  exact .inl ⟨h1, h2⟩
theorem mulOk_r (i j : Int) (h1 : -18446744073709551616 < j) (h2 : j < 18446744073709551616) : mulOk i j = true := by
  unfold mulOk
  simp only [Bool.or_eq_true, Bool.and_eq_true, decide_eq_true_eq]
  exact .inr ⟨h1, h2⟩
theorem mulOk_mod (x m j : Int) (h : 0 < m) (h2 : m ≤ 18446744073709551616) : mulOk (x % m) j = true :=
  mulOk_l _ _ (by have := Int.emod_nonneg x (show m ≠ 0 by omega); omega) (by have := Int.emod_lt_of_pos x h; omega)
theorem eqD_int (a b : Int) : eqD (.int a) (.int b) = some (decide (a = b)) := by
  show (if SeqAt.shaped (.int a) = true ∧ SeqAt.shaped (.int b) = true then some (PyData.eqv (.int a) (.int b)) else none) = _
  rw [if_pos ⟨rfl, rfl⟩]
  congr 1
theorem szl : sizeLine = 16777216 := by decide
theorem el_ok {A M : Type} (a : A) (r : Rho) (k : A → Rho → M) (me : Exc → Rho → M) (ms : M) : (Res.ok a r).el k me ms = k a r := rfl
theorem seq_nx (r : Rho) (k : Rho → Out) : (Out.nx r).seq k = k r := rfl
theorem seq_rt (d : D) (r : Rho) (k : Rho → Out) : (Out.rt d r).seq k = .rt d r := rfl
theorem of_some {A : Type} (a : A) (r : Rho) : Res.of (some a) r = .ok a r := rfl
theorem asB_bl (b : Bool) (r : Rho) : asB (.ok (.bl b) r) = .ok b r := rfl
theorem fz_int (i : Int) : (D.int i).fz = .int i := rfl
theorem fz_bl (i : Bool) : (D.bl i).fz = .bl i := rfl
theorem fz_str (i : Str) : (D.str i).fz = .str i := rfl
theorem fz_non : D.non.fz = .non := rfl
theorem fz_ty (i : String) : (D.ty i).fz = .ty i := rfl
theorem fz_tup (i : List D) : (D.tup i).fz = .tup i := rfl
theorem fz_lst (b : Bool) (i : List D) : (D.lst b i).fz = .lst false i := rfl
theorem fz_wls (i : List D) : (D.wls i).fz = .wls i := rfl
theorem fz_dct (b : Bool) (i : List (DK × D)) : (D.dct b i).fz = .dct false i := rfl
/-- what a def may call, n deep -/
def CE (n : Nat) : Y.Env := ⟨fun g => (match fnT g with
  | some F => F.io
  | none => []), runP wh fnT n⟩
theorem CE_run (n f : Nat) (ds : List D) : (CE n).run f ds = runP wh fnT n f ds := rfl
theorem run_s (n f : Nat) (F : Fn) (ds : List D) (h : fnT f = some F) : runP wh fnT (n + 1) f ds = fnGo (CE n) wh F ds := by
  show (match fnT f with
    | some F => fnGo (CE n) wh F ds
    | none => .stuck) = _
  rw [h]
theorem io_0 (n : Nat) : (CE n).io 0 = ([] : List Nat) := rfl
theorem io_1 (n : Nat) : (CE n).io 1 = ([] : List Nat) := rfl
theorem io_2 (n : Nat) : (CE n).io 2 = ([] : List Nat) := rfl
theorem io_3 (n : Nat) : (CE n).io 3 = ([] : List Nat) := rfl
theorem io_4 (n : Nat) : (CE n).io 4 = ([] : List Nat) := rfl
theorem io_5 (n : Nat) : (CE n).io 5 = ([] : List Nat) := rfl
theorem io_6 (n : Nat) : (CE n).io 6 = ([] : List Nat) := rfl
theorem io_7 (n : Nat) : (CE n).io 7 = ([] : List Nat) := rfl
theorem io_8 (n : Nat) : (CE n).io 8 = ([] : List Nat) := rfl
theorem io_9 (n : Nat) : (CE n).io 9 = ([] : List Nat) := rfl
theorem io_10 (n : Nat) : (CE n).io 10 = ([] : List Nat) := rfl
theorem io_11 (n : Nat) : (CE n).io 11 = ([0] : List Nat) := rfl
theorem io_12 (n : Nat) : (CE n).io 12 = ([0] : List Nat) := rfl
theorem io_13 (n : Nat) : (CE n).io 13 = ([0] : List Nat) := rfl
theorem io_14 (n : Nat) : (CE n).io 14 = ([] : List Nat) := rfl
theorem io_15 (n : Nat) : (CE n).io 15 = ([] : List Nat) := rfl
theorem io_16 (n : Nat) : (CE n).io 16 = ([] : List Nat) := rfl
theorem io_17 (n : Nat) : (CE n).io 17 = ([] : List Nat) := rfl
theorem io_18 (n : Nat) : (CE n).io 18 = ([0] : List Nat) := rfl
theorem io_19 (n : Nat) : (CE n).io 19 = ([] : List Nat) := rfl
theorem io_20 (n : Nat) : (CE n).io 20 = ([0] : List Nat) := rfl
theorem io_21 (n : Nat) : (CE n).io 21 = ([] : List Nat) := rfl

theorem roll_ok (n : Nat) (a b c s : Int) (h : 0 < s) (h2 : s < 2 ^ 200) : ∃ v a' c', runP wh fnT (n + 1) 11 [.lst true [.int a, .int b, .int c], .int s] = .ok (.int v) [.lst true [.int a', .int b, .int c']] ∧ 0 ≤ v ∧ v < s := by
  have hs : s.natAbs < 2 ^ 200 := by omega
  by_cases ha : 0 < a
  · refine ⟨a % s, a / s, c, ?_, Int.emod_nonneg _ (by omega), Int.emod_lt_of_pos _ h⟩
    rw [run_s _ 11 F11 _ rfl]
    simp [F11, fnGo, ha, h, hs, evSs, evS, evO, evL, evA, evT, evI, el_ok, seq_nx, seq_rt, of_some, asB_bl, getS, fz_int, fz_bl, fz_str, fz_non, fz_ty, fz_tup, fz_lst, fz_wls, fz_dct, opD, addD, subD, mulD, fdivD, modD, powD, cmD, ltD, leD, gtD, geD, bltD, intD, absD, lenD, max2D, min2D, idxD, seqOf, atI, ixN, outsOf, lentS, lend, back, tgS, tgSs, mulOk_l, mulOk_r, mulOk_mod, eqD_int, isiLD, isiD, isiTy, tyD, List.lookup, CE_run, szl, io_0, io_1, io_2, io_3, io_4, io_5, io_6, io_7, io_8, io_9, io_10, io_11, io_12, io_13, io_14, io_15, io_16, io_17, io_18, io_19, io_20, io_21]
  · refine ⟨((((b + 1000249 * (c + 1)) % 2305843009213693951) * ((b + 1000249 * (c + 1)) % 2305843009213693951) % 2305843009213693921 * ((b + 1000249 * (c + 1)) % 2305843009213693951) + 9437 * (c + 1)) % 2305843009213693907) / 4096 % s, a, c + 1, ?_, Int.emod_nonneg _ (by omega), Int.emod_lt_of_pos _ h⟩
    rw [run_s _ 11 F11 _ rfl]
    simp [F11, fnGo, ha, h, hs, evSs, evS, evO, evL, evA, evT, evI, el_ok, seq_nx, seq_rt, of_some, asB_bl, getS, fz_int, fz_bl, fz_str, fz_non, fz_ty, fz_tup, fz_lst, fz_wls, fz_dct, opD, addD, subD, mulD, fdivD, modD, powD, cmD, ltD, leD, gtD, geD, bltD, intD, absD, lenD, max2D, min2D, idxD, seqOf, atI, ixN, outsOf, lentS, lend, back, tgS, tgSs, mulOk_l, mulOk_r, mulOk_mod, eqD_int, isiLD, isiD, isiTy, tyD, List.lookup, CE_run, szl, io_0, io_1, io_2, io_3, io_4, io_5, io_6, io_7, io_8, io_9, io_10, io_11, io_12, io_13, io_14, io_15, io_16, io_17, io_18, io_19, io_20, io_21]
theorem dice_ok (n : Nat) (ns : List Int) (i : Int) (h0 : 0 ≤ i) : ∃ a b, runP wh fnT (n + 1) 0 [.wls (ns.map D.int), .int i] = .ok (.lst true [.int a, .int b, .int 0]) [] := by
  by_cases hi : i < ns.length
  · have e1 : (ns.map D.int)[i.toNat]? = some (.int (ns[i.toNat]'(by omega))) := by
      rw [List.getElem?_map, List.getElem?_eq_getElem (by omega)]
      rfl
    simp only [List.getElem?_map] at e1
    rw [run_s _ 0 F0 _ rfl]
    simp [F0, fnGo, hi, h0, e1, evSs, evS, evO, evL, evA, evT, evI, el_ok, seq_nx, seq_rt, of_some, asB_bl, getS, fz_int, fz_bl, fz_str, fz_non, fz_ty, fz_tup, fz_lst, fz_wls, fz_dct, opD, addD, subD, mulD, fdivD, modD, powD, cmD, ltD, leD, gtD, geD, bltD, intD, absD, lenD, max2D, min2D, idxD, seqOf, atI, ixN, outsOf, lentS, lend, back, tgS, tgSs, mulOk_l, mulOk_r, mulOk_mod, eqD_int, isiLD, isiD, isiTy, tyD, List.lookup, CE_run, szl, io_0, io_1, io_2, io_3, io_4, io_5, io_6, io_7, io_8, io_9, io_10, io_11, io_12, io_13, io_14, io_15, io_16, io_17, io_18, io_19, io_20, io_21]
  · rw [run_s _ 0 F0 _ rfl]
    simp [F0, fnGo, hi, h0, evSs, evS, evO, evL, evA, evT, evI, el_ok, seq_nx, seq_rt, of_some, asB_bl, getS, fz_int, fz_bl, fz_str, fz_non, fz_ty, fz_tup, fz_lst, fz_wls, fz_dct, opD, addD, subD, mulD, fdivD, modD, powD, cmD, ltD, leD, gtD, geD, bltD, intD, absD, lenD, max2D, min2D, idxD, seqOf, atI, ixN, outsOf, lentS, lend, back, tgS, tgSs, mulOk_l, mulOk_r, mulOk_mod, eqD_int, isiLD, isiD, isiTy, tyD, List.lookup, CE_run, szl, io_0, io_1, io_2, io_3, io_4, io_5, io_6, io_7, io_8, io_9, io_10, io_11, io_12, io_13, io_14, io_15, io_16, io_17, io_18, io_19, io_20, io_21]
theorem int_ok (n : Nat) (i : Int) : runP wh fnT (n + 1) 3 [.int i] = .ok (.bl true) [] := by
    rw [run_s _ 3 F3 _ rfl]
    simp [F3, fnGo, evSs, evS, evO, evL, evA, evT, evI, el_ok, seq_nx, seq_rt, of_some, asB_bl, getS, fz_int, fz_bl, fz_str, fz_non, fz_ty, fz_tup, fz_lst, fz_wls, fz_dct, opD, addD, subD, mulD, fdivD, modD, powD, cmD, ltD, leD, gtD, geD, bltD, intD, absD, lenD, max2D, min2D, idxD, seqOf, atI, ixN, outsOf, lentS, lend, back, tgS, tgSs, mulOk_l, mulOk_r, mulOk_mod, eqD_int, isiLD, isiD, isiTy, tyD, List.lookup, CE_run, szl, io_0, io_1, io_2, io_3, io_4, io_5, io_6, io_7, io_8, io_9, io_10, io_11, io_12, io_13, io_14, io_15, io_16, io_17, io_18, io_19, io_20, io_21]
theorem many_ok (n : Nat) (i : Int) : runP wh fnT (n + 2) 4 [.int i] = .ok (.bl (decide (1 ≤ i))) [] := by
    rw [run_s _ 4 F4 _ rfl]
    simp [F4, fnGo, int_ok, evSs, evS, evO, evL, evA, evT, evI, el_ok, seq_nx, seq_rt, of_some, asB_bl, getS, fz_int, fz_bl, fz_str, fz_non, fz_ty, fz_tup, fz_lst, fz_wls, fz_dct, opD, addD, subD, mulD, fdivD, modD, powD, cmD, ltD, leD, gtD, geD, bltD, intD, absD, lenD, max2D, min2D, idxD, seqOf, atI, ixN, outsOf, lentS, lend, back, tgS, tgSs, mulOk_l, mulOk_r, mulOk_mod, eqD_int, isiLD, isiD, isiTy, tyD, List.lookup, CE_run, szl, io_0, io_1, io_2, io_3, io_4, io_5, io_6, io_7, io_8, io_9, io_10, io_11, io_12, io_13, io_14, io_15, io_16, io_17, io_18, io_19, io_20, io_21]

theorem g1c (C : Y.Env) (a b : D) (l r : Int) : asB (evO C (.cmp .gt (.var 2) (.cst (.int 0))) [some a, some b, some (.int l), some (.int r)]) = .ok (decide (0 < l)) [some a, some b, some (.int l), some (.int r)] := by
  simp [evSs, evS, evO, evL, evA, evT, evI, el_ok, seq_nx, seq_rt, of_some, asB_bl, getS, fz_int, fz_bl, fz_str, fz_non, fz_ty, fz_tup, fz_lst, fz_wls, fz_dct, opD, addD, subD, mulD, fdivD, modD, powD, cmD, ltD, leD, gtD, geD, bltD, intD, absD, lenD, max2D, min2D, idxD, seqOf, atI, ixN, outsOf, lentS, lend, back, tgS, tgSs, mulOk_l, mulOk_r, mulOk_mod, eqD_int, isiLD, isiD, isiTy, tyD, List.lookup, CE_run, szl, io_0, io_1, io_2, io_3, io_4, io_5, io_6, io_7, io_8, io_9, io_10, io_11, io_12, io_13, io_14, io_15, io_16, io_17, io_18, io_19, io_20, io_21]
theorem g1b (C : Y.Env) (a b : D) (l r : Int) (h : 0 < l) : evSs C wh [.par 2 3 (.bin .mod (.var 3) (.var 2)) (.var 2)] [some a, some b, some (.int l), some (.int r)] = .nx [some a, some b, some (.int (r % l)), some (.int l)] := by
  simp [evSs, evS, evO, evL, evA, evT, evI, el_ok, seq_nx, seq_rt, of_some, asB_bl, getS, fz_int, fz_bl, fz_str, fz_non, fz_ty, fz_tup, fz_lst, fz_wls, fz_dct, opD, addD, subD, mulD, fdivD, modD, powD, cmD, ltD, leD, gtD, geD, bltD, intD, absD, lenD, max2D, min2D, idxD, seqOf, atI, ixN, outsOf, lentS, lend, back, tgS, tgSs, mulOk_l, mulOk_r, mulOk_mod, eqD_int, isiLD, isiD, isiTy, tyD, List.lookup, CE_run, szl, io_0, io_1, io_2, io_3, io_4, io_5, io_6, io_7, io_8, io_9, io_10, io_11, io_12, io_13, io_14, io_15, io_16, io_17, io_18, io_19, io_20, io_21, h]
theorem g2c (C : Y.Env) (a b : D) (l r : Int) : asB (evO C (.cmp .gt (.var 3) (.cst (.int 0))) [some a, some b, some (.int l), some (.int r)]) = .ok (decide (0 < r)) [some a, some b, some (.int l), some (.int r)] := by
  simp [evSs, evS, evO, evL, evA, evT, evI, el_ok, seq_nx, seq_rt, of_some, asB_bl, getS, fz_int, fz_bl, fz_str, fz_non, fz_ty, fz_tup, fz_lst, fz_wls, fz_dct, opD, addD, subD, mulD, fdivD, modD, powD, cmD, ltD, leD, gtD, geD, bltD, intD, absD, lenD, max2D, min2D, idxD, seqOf, atI, ixN, outsOf, lentS, lend, back, tgS, tgSs, mulOk_l, mulOk_r, mulOk_mod, eqD_int, isiLD, isiD, isiTy, tyD, List.lookup, CE_run, szl, io_0, io_1, io_2, io_3, io_4, io_5, io_6, io_7, io_8, io_9, io_10, io_11, io_12, io_13, io_14, io_15, io_16, io_17, io_18, io_19, io_20, io_21]
theorem g2b (C : Y.Env) (a b : D) (l r : Int) (h : 0 < r) : evSs C wh [.par 2 3 (.var 3) (.bin .mod (.blt .int [(.var 2)]) (.var 3))] [some a, some b, some (.int l), some (.int r)] = .nx [some a, some b, some (.int r), some (.int (l % r))] := by
  simp [evSs, evS, evO, evL, evA, evT, evI, el_ok, seq_nx, seq_rt, of_some, asB_bl, getS, fz_int, fz_bl, fz_str, fz_non, fz_ty, fz_tup, fz_lst, fz_wls, fz_dct, opD, addD, subD, mulD, fdivD, modD, powD, cmD, ltD, leD, gtD, geD, bltD, intD, absD, lenD, max2D, min2D, idxD, seqOf, atI, ixN, outsOf, lentS, lend, back, tgS, tgSs, mulOk_l, mulOk_r, mulOk_mod, eqD_int, isiLD, isiD, isiTy, tyD, List.lookup, CE_run, szl, io_0, io_1, io_2, io_3, io_4, io_5, io_6, io_7, io_8, io_9, io_10, io_11, io_12, io_13, io_14, io_15, io_16, io_17, io_18, io_19, io_20, io_21, h]
theorem gcd_loop (C : Y.Env) (a b : D) : ∀ (fu l r : Nat), l < fu → whileGo (fun r => asB (evO C (.cmp .gt (.var 2) (.cst (.int 0))) r)) (fun r => evSs C wh [.par 2 3 (.bin .mod (.var 3) (.var 2)) (.var 2)] r) fu [some a, some b, some (.int l), some (.int r)] = .nx [some a, some b, some (.int 0), some (.int (Nat.gcd l r))]
  | 0, l, r, h => by omega
  | fu + 1, l, r, h => by
    unfold whileGo
    rw [g1c]
    by_cases hl : l = 0
    · subst hl
      simp [el_ok]
    · have h0 : (0 : Int) < l := by omega
      have ih := gcd_loop C a b fu (r % l) l (by have := Nat.mod_lt r (show 0 < l by omega); omega)
      have e1 : ((r : Int) % (l : Int)) = ((r % l : Nat) : Int) := by simp
      rw [Nat.gcd_rec l r]
      refine (if_pos (decide_eq_true h0)).trans ?_
      rw [g1b C a b l r h0, e1]
      exact ih
theorem gcd_loop2 (C : Y.Env) (a b : D) : ∀ (fu l r : Nat), r < fu → whileGo (fun r => asB (evO C (.cmp .gt (.var 3) (.cst (.int 0))) r)) (fun r => evSs C wh [.par 2 3 (.var 3) (.bin .mod (.blt .int [(.var 2)]) (.var 3))] r) fu [some a, some b, some (.int l), some (.int r)] = .nx [some a, some b, some (.int (Nat.gcd r l)), some (.int 0)]
  | 0, l, r, h => by omega
  | fu + 1, l, r, h => by
    unfold whileGo
    rw [g2c]
    by_cases hl : r = 0
    · subst hl
      simp [el_ok]
    · have h0 : (0 : Int) < r := by omega
      have ih := gcd_loop2 C a b fu r (l % r) (by have := Nat.mod_lt l (show 0 < r by omega); omega)
      have e1 : ((l : Int) % (r : Int)) = ((l % r : Nat) : Int) := by simp
      rw [Nat.gcd_rec r l]
      refine (if_pos (decide_eq_true h0)).trans ?_
      rw [g2b C a b l r h0, e1]
      exact ih
theorem abs_eq (p : Int) : (if p < 0 then -p else p) = (p.natAbs : Int) := by omega
theorem div_ok (n : Nat) (p q : Int) (hq : 0 ≤ q) (hp : p.natAbs < wh) : runP wh fnT (n + 1) 1 [.int p, .int q] = .ok (.int (Int.gcd p q)) [] := by
  have e := gcd_loop (CE n) (.int p) (.int q) wh p.natAbs q.toNat hp
  have e2 : ((q.toNat : Nat) : Int) = q := by omega
  have e3 : Nat.gcd p.natAbs q.toNat = Int.gcd p q := by
    unfold Int.gcd
    congr 1
    omega
  rw [e2, e3] at e
  rw [run_s _ 1 F1 _ rfl]
  simp [F1, fnGo, evSs, evS, evO, evL, evA, evT, evI, el_ok, seq_nx, seq_rt, of_some, asB_bl, getS, fz_int, fz_bl, fz_str, fz_non, fz_ty, fz_tup, fz_lst, fz_wls, fz_dct, opD, addD, subD, mulD, fdivD, modD, powD, cmD, ltD, leD, gtD, geD, bltD, intD, absD, lenD, max2D, min2D, idxD, seqOf, atI, ixN, outsOf, lentS, lend, back, tgS, tgSs, mulOk_l, mulOk_r, mulOk_mod, eqD_int, isiLD, isiD, isiTy, tyD, List.lookup, CE_run, szl, io_0, io_1, io_2, io_3, io_4, io_5, io_6, io_7, io_8, io_9, io_10, io_11, io_12, io_13, io_14, io_15, io_16, io_17, io_18, io_19, io_20, io_21, abs_eq] at e ⊢
  rw [e]
  simp [evSs, evS, evO, evL, evA, evT, evI, el_ok, seq_nx, seq_rt, of_some, asB_bl, getS, fz_int, fz_bl, fz_str, fz_non, fz_ty, fz_tup, fz_lst, fz_wls, fz_dct, opD, addD, subD, mulD, fdivD, modD, powD, cmD, ltD, leD, gtD, geD, bltD, intD, absD, lenD, max2D, min2D, idxD, seqOf, atI, ixN, outsOf, lentS, lend, back, tgS, tgSs, mulOk_l, mulOk_r, mulOk_mod, eqD_int, isiLD, isiD, isiTy, tyD, List.lookup, CE_run, szl, io_0, io_1, io_2, io_3, io_4, io_5, io_6, io_7, io_8, io_9, io_10, io_11, io_12, io_13, io_14, io_15, io_16, io_17, io_18, io_19, io_20, io_21]
theorem low_ok (n : Nat) (p q : Int) (h0 : 0 < q) (hq : q < wh) : runP wh fnT (n + 1) 14 [.int p, .int q] = .ok (.tup [.int (p / Int.gcd p q), .int (q / Int.gcd p q)]) [] := by
  have e := gcd_loop2 (CE n) (.int p) (.int q) wh p.natAbs q.toNat (by omega)
  have e2 : ((q.toNat : Nat) : Int) = q := by omega
  have e3 : Nat.gcd q.toNat p.natAbs = Int.gcd p q := by
    rw [Nat.gcd_comm]
    unfold Int.gcd
    congr 1
    omega
  rw [e2, e3] at e
  have g0 : 0 < Int.gcd p q := Int.gcd_pos_of_ne_zero_right p (by omega)
  have g1 : Int.gcd p q ≤ q.natAbs := Nat.le_of_dvd (by omega) (Nat.gcd_dvd_right _ _)
  have hw : (wh : Int) = 10000000000000 := rfl
  have g2 : Int.gcd p q < 2 ^ 200 := by omega
  rw [run_s _ 14 F14 _ rfl]
  simp [F14, fnGo, evSs, evS, evO, evL, evA, evT, evI, el_ok, seq_nx, seq_rt, of_some, asB_bl, getS, fz_int, fz_bl, fz_str, fz_non, fz_ty, fz_tup, fz_lst, fz_wls, fz_dct, opD, addD, subD, mulD, fdivD, modD, powD, cmD, ltD, leD, gtD, geD, bltD, intD, absD, lenD, max2D, min2D, idxD, seqOf, atI, ixN, outsOf, lentS, lend, back, tgS, tgSs, mulOk_l, mulOk_r, mulOk_mod, eqD_int, isiLD, isiD, isiTy, tyD, List.lookup, CE_run, szl, io_0, io_1, io_2, io_3, io_4, io_5, io_6, io_7, io_8, io_9, io_10, io_11, io_12, io_13, io_14, io_15, io_16, io_17, io_18, io_19, io_20, io_21, abs_eq] at e ⊢
  rw [e]
  simp [evSs, evS, evO, evL, evA, evT, evI, el_ok, seq_nx, seq_rt, of_some, asB_bl, getS, fz_int, fz_bl, fz_str, fz_non, fz_ty, fz_tup, fz_lst, fz_wls, fz_dct, opD, addD, subD, mulD, fdivD, modD, powD, cmD, ltD, leD, gtD, geD, bltD, intD, absD, lenD, max2D, min2D, idxD, seqOf, atI, ixN, outsOf, lentS, lend, back, tgS, tgSs, mulOk_l, mulOk_r, mulOk_mod, eqD_int, isiLD, isiD, isiTy, tyD, List.lookup, CE_run, szl, io_0, io_1, io_2, io_3, io_4, io_5, io_6, io_7, io_8, io_9, io_10, io_11, io_12, io_13, io_14, io_15, io_16, io_17, io_18, io_19, io_20, io_21, g0, g2]
theorem in_ok (n : Nat) (p q : Int) (h0 : 0 < q) (hq : q < wh) (hp : p.natAbs < wh) : runP wh fnT (n + 2) 2 [.int p, .int q] = .ok (.tup [.int (p / Int.gcd p q), .int (q / Int.gcd p q)]) [] := by
  have e := div_ok n p q (by omega) hp
  have g0 : 0 < Int.gcd p q := Int.gcd_pos_of_ne_zero_right p (by omega)
  have g1 : Int.gcd p q ≤ q.natAbs := Nat.le_of_dvd (by omega) (Nat.gcd_dvd_right _ _)
  have hw : (wh : Int) = 10000000000000 := rfl
  have g2 : Int.gcd p q < 2 ^ 200 := by omega
  rw [run_s _ 2 F2 _ rfl]
  simp [F2, fnGo, evSs, evS, evO, evL, evA, evT, evI, el_ok, seq_nx, seq_rt, of_some, asB_bl, getS, fz_int, fz_bl, fz_str, fz_non, fz_ty, fz_tup, fz_lst, fz_wls, fz_dct, opD, addD, subD, mulD, fdivD, modD, powD, cmD, ltD, leD, gtD, geD, bltD, intD, absD, lenD, max2D, min2D, idxD, seqOf, atI, ixN, outsOf, lentS, lend, back, tgS, tgSs, mulOk_l, mulOk_r, mulOk_mod, eqD_int, isiLD, isiD, isiTy, tyD, List.lookup, CE_run, szl, io_0, io_1, io_2, io_3, io_4, io_5, io_6, io_7, io_8, io_9, io_10, io_11, io_12, io_13, io_14, io_15, io_16, io_17, io_18, io_19, io_20, io_21, e, g0, g2]
theorem fr_ok (n : Nat) (p q : Int) (h0 : 0 < q) (hq : q < wh) (hp : p.natAbs < wh) : runP wh fnT (n + 3) 5 [.int p, .int q] = .ok (.tup [.int (p / Int.gcd p q), .int (q / Int.gcd p q)]) [] := by
  have e := in_ok n p q h0 hq hp
  have e1 := int_ok (n + 1) p
  have e2 := many_ok n q
  have h1 : 1 ≤ q := by omega
  rw [run_s _ 5 F5 _ rfl]
  simp [F5, fnGo, evSs, evS, evO, evL, evA, evT, evI, el_ok, seq_nx, seq_rt, of_some, asB_bl, getS, fz_int, fz_bl, fz_str, fz_non, fz_ty, fz_tup, fz_lst, fz_wls, fz_dct, opD, addD, subD, mulD, fdivD, modD, powD, cmD, ltD, leD, gtD, geD, bltD, intD, absD, lenD, max2D, min2D, idxD, seqOf, atI, ixN, outsOf, lentS, lend, back, tgS, tgSs, mulOk_l, mulOk_r, mulOk_mod, eqD_int, isiLD, isiD, isiTy, tyD, List.lookup, CE_run, szl, io_0, io_1, io_2, io_3, io_4, io_5, io_6, io_7, io_8, io_9, io_10, io_11, io_12, io_13, io_14, io_15, io_16, io_17, io_18, io_19, io_20, io_21, e, e1, e2, h1]
theorem is_ok (n : Nat) (p q : Int) (hp : p.natAbs < wh) : runP wh fnT (n + 3) 6 [.tup [.int p, .int q]] = .ok (.bl (decide (1 ≤ q) && decide (Int.gcd p q = 1))) [] := by
  have e1 := int_ok (n + 1) p
  have e2 := many_ok n q
  by_cases h1 : 1 ≤ q
  · have e := div_ok (n + 1) p q (by omega) hp
    rw [run_s _ 6 F6 _ rfl]
    simp [F6, fnGo, evSs, evS, evO, evL, evA, evT, evI, el_ok, seq_nx, seq_rt, of_some, asB_bl, getS, fz_int, fz_bl, fz_str, fz_non, fz_ty, fz_tup, fz_lst, fz_wls, fz_dct, opD, addD, subD, mulD, fdivD, modD, powD, cmD, ltD, leD, gtD, geD, bltD, intD, absD, lenD, max2D, min2D, idxD, seqOf, atI, ixN, outsOf, lentS, lend, back, tgS, tgSs, mulOk_l, mulOk_r, mulOk_mod, eqD_int, isiLD, isiD, isiTy, tyD, List.lookup, CE_run, szl, io_0, io_1, io_2, io_3, io_4, io_5, io_6, io_7, io_8, io_9, io_10, io_11, io_12, io_13, io_14, io_15, io_16, io_17, io_18, io_19, io_20, io_21, e, e1, e2, h1]
    omega
  · rw [run_s _ 6 F6 _ rfl]
    simp [F6, fnGo, evSs, evS, evO, evL, evA, evT, evI, el_ok, seq_nx, seq_rt, of_some, asB_bl, getS, fz_int, fz_bl, fz_str, fz_non, fz_ty, fz_tup, fz_lst, fz_wls, fz_dct, opD, addD, subD, mulD, fdivD, modD, powD, cmD, ltD, leD, gtD, geD, bltD, intD, absD, lenD, max2D, min2D, idxD, seqOf, atI, ixN, outsOf, lentS, lend, back, tgS, tgSs, mulOk_l, mulOk_r, mulOk_mod, eqD_int, isiLD, isiD, isiTy, tyD, List.lookup, CE_run, szl, io_0, io_1, io_2, io_3, io_4, io_5, io_6, io_7, io_8, io_9, io_10, io_11, io_12, io_13, io_14, io_15, io_16, io_17, io_18, io_19, io_20, io_21, e1, e2, h1]

/-- a fraction in lowest terms, not too great -/
structure Low (a b : Int) : Prop where
  pos : 0 < b
  gcd : Int.gcd a b = 1
  sa : a.natAbs < 1000000000000
  sb : b < 1000000000000
abbrev pr (a b : Int) : D := .tup [.int a, .int b]
theorem Low.is {a b : Int} (h : Low a b) (n : Nat) : runP wh fnT (n + 3) 6 [pr a b] = .ok (.bl true) [] := by
  have hw : (wh : Int) = 10000000000000 := rfl
  have := h.sa
  have := h.pos
  rw [is_ok n a b (by omega)]
  simp [h.gcd]
  omega
theorem lt_ok (n : Nat) (a b c d : Int) (h1 : a.natAbs < 1000000000000) (h2 : c.natAbs < 1000000000000) : runP wh fnT (n + 1) 8 [pr a b, pr c d] = .ok (.bl (decide (a * d < c * b))) [] := by
  have m1 : mulOk a d = true := mulOk_l _ _ (by omega) (by omega)
  have m2 : mulOk c b = true := mulOk_l _ _ (by omega) (by omega)
  rw [run_s _ 8 F8 _ rfl]
  simp [F8, fnGo, evSs, evS, evO, evL, evA, evT, evI, el_ok, seq_nx, seq_rt, of_some, asB_bl, getS, fz_int, fz_bl, fz_str, fz_non, fz_ty, fz_tup, fz_lst, fz_wls, fz_dct, opD, addD, subD, mulD, fdivD, modD, powD, cmD, ltD, leD, gtD, geD, bltD, intD, absD, lenD, max2D, min2D, idxD, seqOf, atI, ixN, outsOf, lentS, lend, back, tgS, tgSs, mulOk_l, mulOk_r, mulOk_mod, eqD_int, isiLD, isiD, isiTy, tyD, List.lookup, CE_run, szl, io_0, io_1, io_2, io_3, io_4, io_5, io_6, io_7, io_8, io_9, io_10, io_11, io_12, io_13, io_14, io_15, io_16, io_17, io_18, io_19, io_20, io_21, m1, m2]
theorem lt2_ok (n : Nat) (a b c d : Int) (h1 : a.natAbs < 1000000000000) (h2 : c.natAbs < 1000000000000) : runP wh fnT (n + 1) 17 [pr a b, pr c d] = .ok (.bl (decide (a * d < c * b))) [] := by
  have m1 : mulOk a d = true := mulOk_l _ _ (by omega) (by omega)
  have m2 : mulOk c b = true := mulOk_l _ _ (by omega) (by omega)
  rw [run_s _ 17 F17 _ rfl]
  simp [F17, fnGo, evSs, evS, evO, evL, evA, evT, evI, el_ok, seq_nx, seq_rt, of_some, asB_bl, getS, fz_int, fz_bl, fz_str, fz_non, fz_ty, fz_tup, fz_lst, fz_wls, fz_dct, opD, addD, subD, mulD, fdivD, modD, powD, cmD, ltD, leD, gtD, geD, bltD, intD, absD, lenD, max2D, min2D, idxD, seqOf, atI, ixN, outsOf, lentS, lend, back, tgS, tgSs, mulOk_l, mulOk_r, mulOk_mod, eqD_int, isiLD, isiD, isiTy, tyD, List.lookup, CE_run, szl, io_0, io_1, io_2, io_3, io_4, io_5, io_6, io_7, io_8, io_9, io_10, io_11, io_12, io_13, io_14, io_15, io_16, io_17, io_18, io_19, io_20, io_21, m1, m2]
theorem req1 (n : Nat) {a b : Int} (h : Low a b) : runP wh fnT (n + 4) 7 [.tup [pr a b]] = .ok .non [] := by
  rw [run_s _ 7 F7 _ rfl]
  simp [F7, fnGo, evSs, evS, evO, evL, evA, evT, evI, el_ok, seq_nx, seq_rt, of_some, asB_bl, getS, fz_int, fz_bl, fz_str, fz_non, fz_ty, fz_tup, fz_lst, fz_wls, fz_dct, opD, addD, subD, mulD, fdivD, modD, powD, cmD, ltD, leD, gtD, geD, bltD, intD, absD, lenD, max2D, min2D, idxD, seqOf, atI, ixN, outsOf, lentS, lend, back, tgS, tgSs, mulOk_l, mulOk_r, mulOk_mod, eqD_int, isiLD, isiD, isiTy, tyD, List.lookup, CE_run, szl, io_0, io_1, io_2, io_3, io_4, io_5, io_6, io_7, io_8, io_9, io_10, io_11, io_12, io_13, io_14, io_15, io_16, io_17, io_18, io_19, io_20, io_21, seqD, lcGo, wip, unwip, allD, bools, h.is n]
theorem req2 (n : Nat) {a b c d : Int} (h : Low a b) (h2 : Low c d) : runP wh fnT (n + 4) 7 [.tup [pr a b, pr c d]] = .ok .non [] := by
  rw [run_s _ 7 F7 _ rfl]
  simp [F7, fnGo, evSs, evS, evO, evL, evA, evT, evI, el_ok, seq_nx, seq_rt, of_some, asB_bl, getS, fz_int, fz_bl, fz_str, fz_non, fz_ty, fz_tup, fz_lst, fz_wls, fz_dct, opD, addD, subD, mulD, fdivD, modD, powD, cmD, ltD, leD, gtD, geD, bltD, intD, absD, lenD, max2D, min2D, idxD, seqOf, atI, ixN, outsOf, lentS, lend, back, tgS, tgSs, mulOk_l, mulOk_r, mulOk_mod, eqD_int, isiLD, isiD, isiTy, tyD, List.lookup, CE_run, szl, io_0, io_1, io_2, io_3, io_4, io_5, io_6, io_7, io_8, io_9, io_10, io_11, io_12, io_13, io_14, io_15, io_16, io_17, io_18, io_19, io_20, io_21, seqD, lcGo, wip, unwip, allD, bools, h.is n, h2.is n]
theorem req3 (n : Nat) {a b c d e f : Int} (h : Low a b) (h2 : Low c d) (h3 : Low e f) : runP wh fnT (n + 4) 7 [.tup [pr a b, pr c d, pr e f]] = .ok .non [] := by
  rw [run_s _ 7 F7 _ rfl]
  simp [F7, fnGo, evSs, evS, evO, evL, evA, evT, evI, el_ok, seq_nx, seq_rt, of_some, asB_bl, getS, fz_int, fz_bl, fz_str, fz_non, fz_ty, fz_tup, fz_lst, fz_wls, fz_dct, opD, addD, subD, mulD, fdivD, modD, powD, cmD, ltD, leD, gtD, geD, bltD, intD, absD, lenD, max2D, min2D, idxD, seqOf, atI, ixN, outsOf, lentS, lend, back, tgS, tgSs, mulOk_l, mulOk_r, mulOk_mod, eqD_int, isiLD, isiD, isiTy, tyD, List.lookup, CE_run, szl, io_0, io_1, io_2, io_3, io_4, io_5, io_6, io_7, io_8, io_9, io_10, io_11, io_12, io_13, io_14, io_15, io_16, io_17, io_18, io_19, io_20, io_21, seqD, lcGo, wip, unwip, allD, bools, h.is n, h2.is n, h3.is n]
theorem lower_ok (n : Nat) {a b c d : Int} (h : Low a b) (h2 : Low c d) : runP wh fnT (n + 5) 16 [pr a b, pr c d] = .ok (.bl (decide (a * d < c * b))) [] := by
  have e1 := req2 n h h2
  have e2 := lt_ok (n + 3) a b c d h.sa h2.sa
  rw [run_s _ 16 F16 _ rfl]
  simp [F16, fnGo, evSs, evS, evO, evL, evA, evT, evI, el_ok, seq_nx, seq_rt, of_some, asB_bl, getS, fz_int, fz_bl, fz_str, fz_non, fz_ty, fz_tup, fz_lst, fz_wls, fz_dct, opD, addD, subD, mulD, fdivD, modD, powD, cmD, ltD, leD, gtD, geD, bltD, intD, absD, lenD, max2D, min2D, idxD, seqOf, atI, ixN, outsOf, lentS, lend, back, tgS, tgSs, mulOk_l, mulOk_r, mulOk_mod, eqD_int, isiLD, isiD, isiTy, tyD, List.lookup, CE_run, szl, io_0, io_1, io_2, io_3, io_4, io_5, io_6, io_7, io_8, io_9, io_10, io_11, io_12, io_13, io_14, io_15, io_16, io_17, io_18, io_19, io_20, io_21, e1, e2]
theorem most1 (n : Nat) {a b : Int} (h : Low a b) : runP wh fnT (n + 5) 10 [.tup [pr a b]] = .ok (pr a b) [] := by
  have e1 := req1 n h
  have e2 := lt_ok (n + 2) a b a b h.sa h.sa
  have e3 : runP wh fnT (n + 4) 9 [.tup [pr a b]] = .ok (pr a b) [] := by
    rw [run_s _ 9 F9 _ rfl]
    simp [F9, fnGo, evSs, evS, evO, evL, evA, evT, evI, el_ok, seq_nx, seq_rt, of_some, asB_bl, getS, fz_int, fz_bl, fz_str, fz_non, fz_ty, fz_tup, fz_lst, fz_wls, fz_dct, opD, addD, subD, mulD, fdivD, modD, powD, cmD, ltD, leD, gtD, geD, bltD, intD, absD, lenD, max2D, min2D, idxD, seqOf, atI, ixN, outsOf, lentS, lend, back, tgS, tgSs, mulOk_l, mulOk_r, mulOk_mod, eqD_int, isiLD, isiD, isiTy, tyD, List.lookup, CE_run, szl, io_0, io_1, io_2, io_3, io_4, io_5, io_6, io_7, io_8, io_9, io_10, io_11, io_12, io_13, io_14, io_15, io_16, io_17, io_18, io_19, io_20, io_21, seqD, forGo, e2]
  rw [run_s _ 10 F10 _ rfl]
  simp [F10, fnGo, evSs, evS, evO, evL, evA, evT, evI, el_ok, seq_nx, seq_rt, of_some, asB_bl, getS, fz_int, fz_bl, fz_str, fz_non, fz_ty, fz_tup, fz_lst, fz_wls, fz_dct, opD, addD, subD, mulD, fdivD, modD, powD, cmD, ltD, leD, gtD, geD, bltD, intD, absD, lenD, max2D, min2D, idxD, seqOf, atI, ixN, outsOf, lentS, lend, back, tgS, tgSs, mulOk_l, mulOk_r, mulOk_mod, eqD_int, isiLD, isiD, isiTy, tyD, List.lookup, CE_run, szl, io_0, io_1, io_2, io_3, io_4, io_5, io_6, io_7, io_8, io_9, io_10, io_11, io_12, io_13, io_14, io_15, io_16, io_17, io_18, io_19, io_20, io_21, e1, e3]
/-- the greater one, the first if none is -/
def gt2 (x y : Int × Int) : Int × Int := if x.1 * y.2 < y.1 * x.2 then y else x
theorem most3 (n : Nat) {a b c d e f : Int} (h : Low a b) (h2 : Low c d) (h3 : Low e f) : runP wh fnT (n + 5) 10 [.tup [pr a b, pr c d, pr e f]] = .ok (pr (gt2 (gt2 (a, b) (c, d)) (e, f)).1 (gt2 (gt2 (a, b) (c, d)) (e, f)).2) [] := by
  have e1 := req3 n h h2 h3
  have q := fun (x y z w : Int) (h : x.natAbs < 1000000000000) (h2 : z.natAbs < 1000000000000) => lt_ok (n + 2) x y z w h h2
  have q1 := q a b a b h.sa h.sa
  have q2 := q a b c d h.sa h2.sa
  have q3 := q a b e f h.sa h3.sa
  have q4 := q c d e f h2.sa h3.sa
  have e3 : runP wh fnT (n + 4) 9 [.tup [pr a b, pr c d, pr e f]] = .ok (pr (gt2 (gt2 (a, b) (c, d)) (e, f)).1 (gt2 (gt2 (a, b) (c, d)) (e, f)).2) [] := by
    rw [run_s _ 9 F9 _ rfl]
    by_cases k1 : a * d < c * b
    · by_cases k2 : c * f < e * d
      · simp [F9, fnGo, evSs, evS, evO, evL, evA, evT, evI, el_ok, seq_nx, seq_rt, of_some, asB_bl, getS, fz_int, fz_bl, fz_str, fz_non, fz_ty, fz_tup, fz_lst, fz_wls, fz_dct, opD, addD, subD, mulD, fdivD, modD, powD, cmD, ltD, leD, gtD, geD, bltD, intD, absD, lenD, max2D, min2D, idxD, seqOf, atI, ixN, outsOf, lentS, lend, back, tgS, tgSs, mulOk_l, mulOk_r, mulOk_mod, eqD_int, isiLD, isiD, isiTy, tyD, List.lookup, CE_run, szl, io_0, io_1, io_2, io_3, io_4, io_5, io_6, io_7, io_8, io_9, io_10, io_11, io_12, io_13, io_14, io_15, io_16, io_17, io_18, io_19, io_20, io_21, seqD, forGo, q1, q2, q4, k1, k2, gt2]
      · simp [F9, fnGo, evSs, evS, evO, evL, evA, evT, evI, el_ok, seq_nx, seq_rt, of_some, asB_bl, getS, fz_int, fz_bl, fz_str, fz_non, fz_ty, fz_tup, fz_lst, fz_wls, fz_dct, opD, addD, subD, mulD, fdivD, modD, powD, cmD, ltD, leD, gtD, geD, bltD, intD, absD, lenD, max2D, min2D, idxD, seqOf, atI, ixN, outsOf, lentS, lend, back, tgS, tgSs, mulOk_l, mulOk_r, mulOk_mod, eqD_int, isiLD, isiD, isiTy, tyD, List.lookup, CE_run, szl, io_0, io_1, io_2, io_3, io_4, io_5, io_6, io_7, io_8, io_9, io_10, io_11, io_12, io_13, io_14, io_15, io_16, io_17, io_18, io_19, io_20, io_21, seqD, forGo, q1, q2, q4, k1, k2, gt2]
    · by_cases k2 : a * f < e * b
      · simp [F9, fnGo, evSs, evS, evO, evL, evA, evT, evI, el_ok, seq_nx, seq_rt, of_some, asB_bl, getS, fz_int, fz_bl, fz_str, fz_non, fz_ty, fz_tup, fz_lst, fz_wls, fz_dct, opD, addD, subD, mulD, fdivD, modD, powD, cmD, ltD, leD, gtD, geD, bltD, intD, absD, lenD, max2D, min2D, idxD, seqOf, atI, ixN, outsOf, lentS, lend, back, tgS, tgSs, mulOk_l, mulOk_r, mulOk_mod, eqD_int, isiLD, isiD, isiTy, tyD, List.lookup, CE_run, szl, io_0, io_1, io_2, io_3, io_4, io_5, io_6, io_7, io_8, io_9, io_10, io_11, io_12, io_13, io_14, io_15, io_16, io_17, io_18, io_19, io_20, io_21, seqD, forGo, q1, q2, q3, k1, k2, gt2]
      · simp [F9, fnGo, evSs, evS, evO, evL, evA, evT, evI, el_ok, seq_nx, seq_rt, of_some, asB_bl, getS, fz_int, fz_bl, fz_str, fz_non, fz_ty, fz_tup, fz_lst, fz_wls, fz_dct, opD, addD, subD, mulD, fdivD, modD, powD, cmD, ltD, leD, gtD, geD, bltD, intD, absD, lenD, max2D, min2D, idxD, seqOf, atI, ixN, outsOf, lentS, lend, back, tgS, tgSs, mulOk_l, mulOk_r, mulOk_mod, eqD_int, isiLD, isiD, isiTy, tyD, List.lookup, CE_run, szl, io_0, io_1, io_2, io_3, io_4, io_5, io_6, io_7, io_8, io_9, io_10, io_11, io_12, io_13, io_14, io_15, io_16, io_17, io_18, io_19, io_20, io_21, seqD, forGo, q1, q2, q3, k1, k2, gt2]
  rw [run_s _ 10 F10 _ rfl]
  simp [F10, fnGo, evSs, evS, evO, evL, evA, evT, evI, el_ok, seq_nx, seq_rt, of_some, asB_bl, getS, fz_int, fz_bl, fz_str, fz_non, fz_ty, fz_tup, fz_lst, fz_wls, fz_dct, opD, addD, subD, mulD, fdivD, modD, powD, cmD, ltD, leD, gtD, geD, bltD, intD, absD, lenD, max2D, min2D, idxD, seqOf, atI, ixN, outsOf, lentS, lend, back, tgS, tgSs, mulOk_l, mulOk_r, mulOk_mod, eqD_int, isiLD, isiD, isiTy, tyD, List.lookup, CE_run, szl, io_0, io_1, io_2, io_3, io_4, io_5, io_6, io_7, io_8, io_9, io_10, io_11, io_12, io_13, io_14, io_15, io_16, io_17, io_18, io_19, io_20, io_21, e1, e3]
theorem one_of_ok (n : Nat) (a b c : Int) (xs : List D) (h0 : 0 < xs.length) (h1 : xs.length ≤ 100) (o : Bool) : ∃ x a' c', x ∈ xs ∧ runP wh fnT (n + 2) 12 [.lst true [.int a, .int b, .int c], .lst o xs] = .ok x.fz [.lst true [.int a', .int b, .int c']] := by
  obtain ⟨v, a', c', e, v0, v1⟩ := roll_ok n a b c xs.length (by omega) (by omega)
  have hv : v.toNat < xs.length := by omega
  refine ⟨xs[v.toNat], a', c', List.getElem_mem hv, ?_⟩
  rw [run_s _ 12 F12 _ rfl]
  simp [F12, fnGo, evSs, evS, evO, evL, evA, evT, evI, el_ok, seq_nx, seq_rt, of_some, asB_bl, getS, fz_int, fz_bl, fz_str, fz_non, fz_ty, fz_tup, fz_lst, fz_wls, fz_dct, opD, addD, subD, mulD, fdivD, modD, powD, cmD, ltD, leD, gtD, geD, bltD, intD, absD, lenD, max2D, min2D, idxD, seqOf, atI, ixN, outsOf, lentS, lend, back, tgS, tgSs, mulOk_l, mulOk_r, mulOk_mod, eqD_int, isiLD, isiD, isiTy, tyD, List.lookup, CE_run, szl, io_0, io_1, io_2, io_3, io_4, io_5, io_6, io_7, io_8, io_9, io_10, io_11, io_12, io_13, io_14, io_15, io_16, io_17, io_18, io_19, io_20, io_21, e, v0, v1, List.getElem?_eq_getElem hv]

/-- a drawn pair -/
structure Drw (p q : Int) : Prop where
  lo : -40 ≤ p
  hi : p < 40
  q0 : 0 < q
  q1 : q ≤ 40
theorem drawn_ok (n : Nat) (a b c : Int) : ∃ p q a' c', runP wh fnT (n + 3) 13 [.lst true [.int a, .int b, .int c]] = .ok (pr p q) [.lst true [.int a', .int b, .int c']] ∧ Drw p q := by
  obtain ⟨x, a1, c1, hx, e1⟩ := one_of_ok n a b c [.int 5, .int 13, .int 40] (by simp) (by simp) false
  have hx : x = .int 5 ∨ x = .int 13 ∨ x = .int 40 := by simpa using hx
  have go : ∀ g : Int, x = .int g → 5 ≤ g → g ≤ 40 → ∃ p q a' c', runP wh fnT (n + 3) 13 [.lst true [.int a, .int b, .int c]] = .ok (pr p q) [.lst true [.int a', .int b, .int c']] ∧ Drw p q := by
    intro g hg g0 g1
    subst hg
    obtain ⟨v, a2, c2, e2, v0, v1⟩ := roll_ok (n + 1) a1 b c1 (2 * g) (by omega) (by omega)
    obtain ⟨u, a3, c3, e3, u0, u1⟩ := roll_ok (n + 1) a2 b c2 g (by omega) (by omega)
    refine ⟨v - g, 1 + u, a3, c3, ?_, by omega, by omega, by omega, by omega⟩
    rw [fz_int] at e1
    rw [run_s _ 13 F13 _ rfl]
    simp [F13, fnGo, evSs, evS, evO, evL, evA, evT, evI, el_ok, seq_nx, seq_rt, of_some, asB_bl, getS, fz_int, fz_bl, fz_str, fz_non, fz_ty, fz_tup, fz_lst, fz_wls, fz_dct, opD, addD, subD, mulD, fdivD, modD, powD, cmD, ltD, leD, gtD, geD, bltD, intD, absD, lenD, max2D, min2D, idxD, seqOf, atI, ixN, outsOf, lentS, lend, back, tgS, tgSs, mulOk_l, mulOk_r, mulOk_mod, eqD_int, isiLD, isiD, isiTy, tyD, List.lookup, CE_run, szl, io_0, io_1, io_2, io_3, io_4, io_5, io_6, io_7, io_8, io_9, io_10, io_11, io_12, io_13, io_14, io_15, io_16, io_17, io_18, io_19, io_20, io_21, e1, e2, e3]
  rcases hx with hx | hx | hx
  · exact go 5 hx (by omega) (by omega)
  · exact go 13 hx (by omega) (by omega)
  · exact go 40 hx (by omega) (by omega)
/-- its fraction -/
theorem fr_low {p q : Int} (h0 : 0 < q) (hq : q < 1000000000000) (hp : p.natAbs < 1000000000000) : Low (p / Int.gcd p q) (q / Int.gcd p q) := by
  have g0 : 0 < Int.gcd p q := Int.gcd_pos_of_ne_zero_right p (by omega)
  have d1 : (Int.gcd p q : Int) ∣ p := Int.gcd_dvd_left ..
  have d2 : (Int.gcd p q : Int) ∣ q := Int.gcd_dvd_right ..
  have hb : q / Int.gcd p q ≤ q := Int.ediv_le_self _ (by omega)
  refine ⟨Int.ediv_pos_of_pos_of_dvd h0 (by omega) d2, Int.gcd_ediv_gcd_ediv_gcd g0, ?_, by omega⟩
  have := Int.natAbs_ediv_le_natAbs p (Int.gcd p q : Int)
  omega

/-- is something above 1 a divisor of both -/
def dvs (p q : Int) (ks : List Int) : List Int := ks.filter fun k => decide (p % k = 0) && decide (q % k = 0)
def lcStep (C : Y.Env) (elt : Ex) (tg : Tg) (own : List Nat) (ifs : List Ex) (x : D) (r : Rho) : Res (Option D) := match tgS tg x (wip r own) with
  | some r1 => (evT C ifs r1).el (fun b r2 => if b = true then (evO C elt r2).el (fun y r3 => .ok (some y.fz) (wip r3 own)) (fun _ _ => .stuck) .stuck else .ok none (wip r2 own)) (fun _ _ => .stuck) .stuck
  | none => .stuck
theorem ev_lc (C : Y.Env) (elt : Ex) (tg : Tg) (own : List Nat) (it : Ite) (ifs : List Ex) (r : Rho) : evO C (.lc elt tg own it ifs) r = (evI C it r).bind fun xs r => (lcGo (lcStep C elt tg own ifs) xs [] (wip r own)).el (fun ys r' => .ok (.lst true ys) (unwip r r' own)) (fun _ _ => .stuck) .stuck := by
  rw [evO]
  rfl
theorem lc_filt (C : Y.Env) (v0 v1 : Option D) (p q : Int) : ∀ (ks acc : List Int), (∀ k ∈ ks, 0 < k) → lcGo (lcStep C (.var 4) (.nm 4) [4] [(.and (.cmp .eq (.bin .mod (.var 2) (.var 4)) (.cst (.int 0))) (.cmp .eq (.bin .mod (.var 3) (.var 4)) (.cst (.int 0))))]) (ks.map D.int) (acc.map D.int) [v0, v1, some (.int p), some (.int q), none] = .ok ((acc ++ dvs p q ks).map D.int) [v0, v1, some (.int p), some (.int q), none]
  | [], acc, _ => by simp [lcGo, dvs]
  | k :: ks, acc, h => by
    have hk : 0 < k := h k List.mem_cons_self
    have ih := fun acc => lc_filt C v0 v1 p q ks acc fun x hx => h x (List.mem_cons_of_mem _ hx)
    rw [List.map_cons]
    have go : ∀ (o : Option D) (ac : List D), lcStep C (.var 4) (.nm 4) [4] [(.and (.cmp .eq (.bin .mod (.var 2) (.var 4)) (.cst (.int 0))) (.cmp .eq (.bin .mod (.var 3) (.var 4)) (.cst (.int 0))))] (.int k) [v0, v1, some (.int p), some (.int q), none] = .ok o [v0, v1, some (.int p), some (.int q), none] → lcGo (lcStep C (.var 4) (.nm 4) [4] [(.and (.cmp .eq (.bin .mod (.var 2) (.var 4)) (.cst (.int 0))) (.cmp .eq (.bin .mod (.var 3) (.var 4)) (.cst (.int 0))))]) (.int k :: ks.map D.int) ac [v0, v1, some (.int p), some (.int q), none] = lcGo (lcStep C (.var 4) (.nm 4) [4] [(.and (.cmp .eq (.bin .mod (.var 2) (.var 4)) (.cst (.int 0))) (.cmp .eq (.bin .mod (.var 3) (.var 4)) (.cst (.int 0))))]) (ks.map D.int) (match o with | some y => ac ++ [y] | none => ac) [v0, v1, some (.int p), some (.int q), none] := fun o ac e => by
      rw [lcGo, e, el_ok]
      cases o <;> rfl
    by_cases h1 : p % k = 0
    · by_cases h2 : q % k = 0
      · have e : dvs p q (k :: ks) = k :: dvs p q ks := by simp [dvs, h1, h2]
        have ih := ih (acc ++ [k])
        rw [e, show acc ++ k :: dvs p q ks = (acc ++ [k]) ++ dvs p q ks by simp]
        rw [← ih, go (some (.int k)) _ (by simp [lcStep, evSs, evS, evO, evL, evA, evT, evI, el_ok, seq_nx, seq_rt, of_some, asB_bl, getS, fz_int, fz_bl, fz_str, fz_non, fz_ty, fz_tup, fz_lst, fz_wls, fz_dct, opD, addD, subD, mulD, fdivD, modD, powD, cmD, ltD, leD, gtD, geD, bltD, intD, absD, lenD, max2D, min2D, idxD, seqOf, atI, ixN, outsOf, lentS, lend, back, tgS, tgSs, mulOk_l, mulOk_r, mulOk_mod, eqD_int, isiLD, isiD, isiTy, tyD, List.lookup, CE_run, szl, io_0, io_1, io_2, io_3, io_4, io_5, io_6, io_7, io_8, io_9, io_10, io_11, io_12, io_13, io_14, io_15, io_16, io_17, io_18, io_19, io_20, io_21, wip, h1, h2, hk])]
        simp
      · have e : dvs p q (k :: ks) = dvs p q ks := by simp [dvs, h1, h2]
        rw [e, ← ih acc, go none _ (by simp [lcStep, evSs, evS, evO, evL, evA, evT, evI, el_ok, seq_nx, seq_rt, of_some, asB_bl, getS, fz_int, fz_bl, fz_str, fz_non, fz_ty, fz_tup, fz_lst, fz_wls, fz_dct, opD, addD, subD, mulD, fdivD, modD, powD, cmD, ltD, leD, gtD, geD, bltD, intD, absD, lenD, max2D, min2D, idxD, seqOf, atI, ixN, outsOf, lentS, lend, back, tgS, tgSs, mulOk_l, mulOk_r, mulOk_mod, eqD_int, isiLD, isiD, isiTy, tyD, List.lookup, CE_run, szl, io_0, io_1, io_2, io_3, io_4, io_5, io_6, io_7, io_8, io_9, io_10, io_11, io_12, io_13, io_14, io_15, io_16, io_17, io_18, io_19, io_20, io_21, wip, h1, h2, hk])]
    · have e : dvs p q (k :: ks) = dvs p q ks := by simp [dvs, h1]
      rw [e, ← ih acc, go none _ (by simp [lcStep, evSs, evS, evO, evL, evA, evT, evI, el_ok, seq_nx, seq_rt, of_some, asB_bl, getS, fz_int, fz_bl, fz_str, fz_non, fz_ty, fz_tup, fz_lst, fz_wls, fz_dct, opD, addD, subD, mulD, fdivD, modD, powD, cmD, ltD, leD, gtD, geD, bltD, intD, absD, lenD, max2D, min2D, idxD, seqOf, atI, ixN, outsOf, lentS, lend, back, tgS, tgSs, mulOk_l, mulOk_r, mulOk_mod, eqD_int, isiLD, isiD, isiTy, tyD, List.lookup, CE_run, szl, io_0, io_1, io_2, io_3, io_4, io_5, io_6, io_7, io_8, io_9, io_10, io_11, io_12, io_13, io_14, io_15, io_16, io_17, io_18, io_19, io_20, io_21, wip, h1, hk])]

theorem toPys_ints : ∀ ns : List Int, toPys (ns.map D.int) = some (ns.map PyData.int)
  | [] => rfl
  | n :: ns => by
    rw [List.map_cons]
    unfold toPys
    rw [toPys_ints ns]
    rfl
theorem lay_ints : ∀ ns : List Int, PyData.canLayAll0 (ns.map PyData.int) = true ∧ PyData.depthAll (ns.map PyData.int) = 0
  | [] => ⟨rfl, rfl⟩
  | n :: ns => by
    obtain ⟨h1, h2⟩ := lay_ints ns
    rw [List.map_cons]
    unfold PyData.canLayAll0 PyData.depthAll
    rw [h1, h2]
    exact ⟨rfl, rfl⟩
theorem shp_ints (ns : List Int) : SeqAt.shaped (.list (ns.map PyData.int)) = true := by
  obtain ⟨h1, h2⟩ := lay_ints ns
  show (PyData.canLayAll0 (ns.map PyData.int) && decide (PyData.depthAll (ns.map PyData.int) + 1 ≤ 64)) = true
  rw [h1, h2]
  rfl
theorem eq_nil (o o' : Bool) (ns : List Int) : eqD (.lst o (ns.map D.int)) (.lst o' []) = some ns.isEmpty := by
  have e : toPy (.lst o (ns.map D.int)) = some (.list (ns.map PyData.int)) := by
    unfold toPy
    rw [toPys_ints]
    rfl
  unfold eqD
  rw [e]
  show (if SeqAt.shaped (.list (ns.map PyData.int)) = true ∧ SeqAt.shaped (.list []) = true then some (PyData.eqv (.list (ns.map PyData.int)) (.list [])) else none) = _
  rw [if_pos ⟨shp_ints ns, rfl⟩]
  cases ns <;> rfl
theorem eq_same {a b : D} {x : PyData} (h1 : toPy a = some x) (h2 : toPy b = some x) (h : SeqAt.shaped x = true) : eqD a b = some true := by
  unfold eqD
  rw [h1, h2]
  show (if SeqAt.shaped x = true ∧ SeqAt.shaped x = true then some (PyData.eqv x x) else none) = _
  rw [if_pos ⟨h, h⟩, PySem.SeqAt.eqv_refl x (SeqAt.canLay_of_shaped h)]
theorem dvs_nil (p q : Int) (hq : 0 < q) (m : Nat) (hm : (m : Int) = p.natAbs + q - 1) : (dvs p q ((List.range m).map fun (i : Nat) => 2 + (i : Int))).isEmpty = decide (Int.gcd p q = 1) := by
  rw [Bool.eq_iff_iff, List.isEmpty_iff, decide_eq_true_eq]
  unfold dvs
  rw [List.filter_eq_nil_iff]
  constructor
  · intro h
    have g0 : 0 < Int.gcd p q := Int.gcd_pos_of_ne_zero_right p (by omega)
    have g1 : Int.gcd p q ≤ q.natAbs := Nat.le_of_dvd (by omega) (Nat.gcd_dvd_right _ _)
    by_cases e : Int.gcd p q = 1
    · exact e
    · have d1 : (Int.gcd p q : Int) ∣ p := Int.gcd_dvd_left ..
      have d2 : (Int.gcd p q : Int) ∣ q := Int.gcd_dvd_right ..
      refine absurd ?_ (h (Int.gcd p q : Int) ?_)
      · rw [Bool.and_eq_true, decide_eq_true_eq, decide_eq_true_eq]
        exact ⟨Int.emod_eq_zero_of_dvd d1, Int.emod_eq_zero_of_dvd d2⟩
      · rw [List.mem_map]
        exact ⟨Int.gcd p q - 2, by rw [List.mem_range]; omega, by omega⟩
  · intro e k hk
    rw [List.mem_map] at hk
    obtain ⟨i, _, rfl⟩ := hk
    rw [Bool.and_eq_true, decide_eq_true_eq, decide_eq_true_eq]
    rintro ⟨h1, h2⟩
    have := Int.dvd_coe_gcd (Int.dvd_of_emod_eq_zero h1) (Int.dvd_of_emod_eq_zero h2)
    rw [e] at this
    have := Int.le_of_dvd (by omega) this
    omega
theorem lowest_ok (n : Nat) (p q : Int) (hq : 0 < q) (hp : p.natAbs < 1000) (h1 : q < 1000) : runP wh fnT (n + 1) 15 [pr p q] = .ok (.bl (decide (Int.gcd p q = 1))) [] := by
  have hm : ((((p.natAbs : Int) + q + 1 - 2).toNat : Nat) : Int) = p.natAbs + q - 1 := by omega
  have e1 := dvs_nil p q hq _ hm
  have c1 : (p.natAbs : Int) + q + 1 < 2 ^ 62 := by omega
  have c2 : -(2 ^ 62) ≤ (p.natAbs : Int) + q + 1 := by omega
  have c3 : ((p.natAbs : Int) + q + 1 - 2).toNat ≤ 2 ^ 24 := by omega
  have e0 : lrngD (.int 2) (.int ((p.natAbs : Int) + q + 1)) = some (.lst true (((List.range ((p.natAbs : Int) + q + 1 - 2).toNat).map fun (i : Nat) => (2 : Int) + i).map D.int)) := by
    unfold lrngD
    dsimp only
    rw [if_pos ⟨by omega, by omega, c2, c1, c3⟩, List.map_map]
    rfl
  have e2 := lc_filt (CE n) (some (pr p q)) (some (.lst false (((List.range ((p.natAbs : Int) + q + 1 - 2).toNat).map fun (i : Nat) => (2 : Int) + i).map D.int))) p q ((List.range ((p.natAbs : Int) + q + 1 - 2).toNat).map fun (i : Nat) => (2 : Int) + i) [] (fun k hk => by
    rw [List.mem_map] at hk
    obtain ⟨i, _, rfl⟩ := hk
    omega)
  generalize ((List.range ((p.natAbs : Int) + q + 1 - 2).toNat).map fun (i : Nat) => (2 : Int) + i) = ks at e0 e1 e2
  have e3 := eq_nil false false (dvs p q ks)
  rw [List.nil_append, List.map_nil] at e2
  rw [e1] at e3
  have hlc : ∀ bb, evO (CE n) (.lc (.var 4) (.nm 4) [4] (.seq (.var 1)) [(.and (.cmp .eq (.bin .mod (.var 2) (.var 4)) (.cst (.int 0))) (.cmp .eq (.bin .mod (.var 3) (.var 4)) (.cst (.int 0))))]) [some (pr p q), some (.lst bb (ks.map D.int)), some (.int p), some (.int q), none] = .ok (.lst true ((dvs p q ks).map D.int)) [some (pr p q), some (.lst false (ks.map D.int)), some (.int p), some (.int q), none] := fun bb => by
    rw [ev_lc]
    have hI : evI (CE n) (.seq (.var 1)) [some (pr p q), some (.lst bb (ks.map D.int)), some (.int p), some (.int q), none] = .ok (ks.map D.int) [some (pr p q), some (.lst false (ks.map D.int)), some (.int p), some (.int q), none] := by simp [evSs, evS, evO, evL, evA, evT, evI, el_ok, seq_nx, seq_rt, of_some, asB_bl, getS, fz_int, fz_bl, fz_str, fz_non, fz_ty, fz_tup, fz_lst, fz_wls, fz_dct, opD, addD, subD, mulD, fdivD, modD, powD, cmD, ltD, leD, gtD, geD, bltD, intD, absD, lenD, max2D, min2D, idxD, seqOf, atI, ixN, outsOf, lentS, lend, back, tgS, tgSs, mulOk_l, mulOk_r, mulOk_mod, eqD_int, isiLD, isiD, isiTy, tyD, List.lookup, CE_run, szl, io_0, io_1, io_2, io_3, io_4, io_5, io_6, io_7, io_8, io_9, io_10, io_11, io_12, io_13, io_14, io_15, io_16, io_17, io_18, io_19, io_20, io_21, seqD]
    rw [hI]
    show (lcGo _ _ _ [some (pr p q), some (.lst false (ks.map D.int)), some (.int p), some (.int q), none]).el _ _ _ = _
    rw [e2]
    rfl
  rw [run_s _ 15 F15 _ rfl]
  unfold F15
  generalize (Ex.lc (.var 4) (.nm 4) [4] (.seq (.var 1)) [(.and (.cmp .eq (.bin .mod (.var 2) (.var 4)) (.cst (.int 0))) (.cmp .eq (.bin .mod (.var 3) (.var 4)) (.cst (.int 0))))]) = LC at hlc ⊢
  simp [fnGo, evSs, evS, evO, evL, evA, evT, evI, el_ok, seq_nx, seq_rt, of_some, asB_bl, getS, fz_int, fz_bl, fz_str, fz_non, fz_ty, fz_tup, fz_lst, fz_wls, fz_dct, opD, addD, subD, mulD, fdivD, modD, powD, cmD, ltD, leD, gtD, geD, bltD, intD, absD, lenD, max2D, min2D, idxD, seqOf, atI, ixN, outsOf, lentS, lend, back, tgS, tgSs, mulOk_l, mulOk_r, mulOk_mod, eqD_int, isiLD, isiD, isiTy, tyD, List.lookup, CE_run, szl, io_0, io_1, io_2, io_3, io_4, io_5, io_6, io_7, io_8, io_9, io_10, io_11, io_12, io_13, io_14, io_15, io_16, io_17, io_18, io_19, io_20, io_21, abs_eq, e0, hlc, e3, hq]

end YL
set_option Elab.async false
set_option linter.all false
set_option maxRecDepth 100000
set_option maxHeartbeats 4000000
/-! P01b: the law's right. -/
namespace YL
open PySem L2 Y YV
def R0 : Sx := .asg (.nm 1) (.lc (.call 13 [.lv 0]) (.nm 10) [10] (.rng1 (.cst (.int 3))) [])
def R1 : Sx := .asg (.nm 2) (.lc (.call 5 [(.var 6), (.var 7)]) (.tp [(.nm 6), (.nm 7)]) [6, 7] (.seq (.var 1)) [])
def R2 : Sx := .ifs (.cmp .ne (.var 2) (.lc (.call 14 [(.var 6), (.var 7)]) (.tp [(.nm 6), (.nm 7)]) [6, 7] (.seq (.var 1)) [])) [.ret (.cst (.bl false))] []
def R3 : Sx := .ifs (.cmp .ne (.lc (.var 6) (.nm 6) [6] (.seq (.var 2)) [(.not (.call 15 [(.var 6)]))]) (.lst [])) [.ret (.cst (.bl false))] []
def R4 : Sx := .for (.tp [(.nm 6), (.nm 7)]) (.seq (.lst [(.tup [(.idxV 2 (.cst (.int 0))), (.idxV 2 (.cst (.int 1)))]), (.tup [(.idxV 2 (.cst (.int 1))), (.idxV 2 (.cst (.int 2)))]), (.tup [(.idxV 2 (.cst (.int 2))), (.idxV 2 (.cst (.int 2)))])])) [.ifs (.or (.cmp .ne (.call 16 [(.var 6), (.var 7)]) (.call 17 [(.var 6), (.var 7)])) (.and (.call 16 [(.var 6), (.var 7)]) (.call 16 [(.var 7), (.var 6)]))) [.ret (.cst (.bl false))] []]
def R5 : Sx := .asg (.nm 3) (.callS 10 [(.idxV 2 (.cst (.int 0))), (.idxV 2 (.cst (.int 1))), (.idxV 2 (.cst (.int 2)))])
def R6 : Sx := .ifs (.or (.cmp .nin (.var 3) (.var 2)) (.or (.cmp .ne (.lc (.var 6) (.nm 6) [6] (.seq (.var 2)) [(.call 17 [(.var 3), (.var 6)])]) (.lst [])) (.cmp .ne (.callS 10 [(.idxV 2 (.cst (.int 1)))]) (.idxV 2 (.cst (.int 1)))))) [.ret (.cst (.bl false))] []
def R7 : Sx := .par 8 9 (.bin .add (.cst (.int 2)) (.call 11 [.lv 0, (.cst (.int 5))])) (.bin .add (.bin .pow (.cst (.int 10)) (.cst (.int 11))) (.call 11 [.lv 0, (.cst (.int 1000))]))
def R8 : Sx := .ifs (.or (.cmp .ne (.call 5 [(.bin .mul (.idx (.idxV 1 (.cst (.int 0))) (.cst (.int 0))) (.var 8)), (.bin .mul (.idx (.idxV 1 (.cst (.int 0))) (.cst (.int 1))) (.var 8))]) (.idxV 2 (.cst (.int 0)))) (.cmp .ne (.call 5 [(.var 9), (.var 9)]) (.tup [(.cst (.int 1)), (.cst (.int 1))]))) [.ret (.cst (.bl false))] []
def R9 : Sx := .asg (.nm 4) (.lst [(.idxV 2 (.cst (.int 0))), (.idxV 1 (.cst (.int 0))), (.tup [(.idx (.idxV 2 (.cst (.int 0))) (.cst (.int 0))), (.cst (.int 0))]), (.tup [(.idx (.idxV 2 (.cst (.int 0))) (.cst (.int 0))), (.neg (.cst (.int 1)))]), (.bin .add (.idxV 2 (.cst (.int 0))) (.tup [(.cst (.int 1))])), (.blt .list [(.idxV 2 (.cst (.int 0)))]), (.tup [(.cst (.bl true)), (.cst (.int 2))])])
def R10 : Sx := .asg (.nm 4) (.bin .add (.var 4) (.lst [(.tup [(.cst (.int 1)), (.cst (.bl true))]), (.cst .non), (.cst (.int 3))]))
def R11 : Sx := .asg (.nm 5) (.bin .add (.lst [(.cst (.bl true)), (.call 15 [(.idxV 1 (.cst (.int 0)))])]) (.bin .mul (.lst [(.cst (.bl false))]) (.cst (.int 8))))
def R12 : Sx := .ret (.and (.cmp .eq (.lc (.call 6 [(.var 6)]) (.nm 6) [6] (.seq (.var 4)) []) (.var 5)) (.cmp .is (.call 6 [(.tup [(.cst (.int 0)), (.cst (.int 2))])]) (.cst (.bl false))))

theorem F18_body : F18 = ⟨11, 1, [0], [R0, R1, R2, R3, R4, R5, R6, R7, R8, R9, R10, R11, R12]⟩ := rfl
abbrev dc (a b c : Int) : D := .lst true [.int a, .int b, .int c]
theorem eq_prs (o o' : Bool) (a b c d e f : Int) : eqD (.lst o [pr a b, pr c d, pr e f]) (.lst o' [pr a b, pr c d, pr e f]) = some true := eq_same (x := .list [.tuple [.int a, .int b], .tuple [.int c, .int d], .tuple [.int e, .int f]]) rfl rfl rfl
theorem eq_pr (a b : Int) : eqD (pr a b) (pr a b) = some true := eq_same (x := .tuple [.int a, .int b]) rfl rfl rfl
theorem eq_nils (o o' : Bool) : eqD (.lst o []) (.lst o' []) = some true := eq_same (x := .list []) rfl rfl rfl
theorem eq_bl (a : Bool) : eqD (.bl a) (.bl a) = some true := eq_same (x := .bool a) rfl rfl rfl
theorem rng3 : rngD (.int 0) (.int 3) = some [.int 0, .int 1, .int 2] := by
  unfold rngD
  dsimp only
  rw [if_pos (by decide)]
  rfl
section
variable (n : Nat)
theorem r0_ok {a b c a1 c1 a2 c2 a3 c3 p1 q1 p2 q2 p3 q3 : Int} (e1 : runP wh fnT (n + 5) 13 [dc a b c] = .ok (pr p1 q1) [dc a1 b c1]) (e2 : runP wh fnT (n + 5) 13 [dc a1 b c1] = .ok (pr p2 q2) [dc a2 b c2]) (e3 : runP wh fnT (n + 5) 13 [dc a2 b c2] = .ok (pr p3 q3) [dc a3 b c3]) :
    evS (CE (n + 5)) wh R0 [some (dc a b c), none, none, none, none, none, none, none, none, none, none] = .nx [some (dc a3 b c3), some (.lst true [pr p1 q1, pr p2 q2, pr p3 q3]), none, none, none, none, none, none, none, none, none] := by
  simp [R0, ev_var, ev_cst, ev_glb, ev_tup, ev_lst, ev_bin, ev_neg, ev_not, ev_cmp, ev_chain, ev_and, ev_or, ev_ife, ev_idx, ev_idxV, ev_call, ev_blt, ev_join, ev_lrng, ev_lc, ev_callS, ev_nd, lc_nil, lc_cons, lcStep, tg_nm, tg_tp, tgs_nil, tgs_cons, es_expr, es_nm, es_tp, es_par, es_set, es_ret, es_if, es_while, es_for, for_nil, for_cons, body_ap, ess_nil, ess_cons, el_ok, seq_nx, seq_rt, of_some, asB_bl, evL, evA, evT, evI, getS, fz_int, fz_bl, fz_str, fz_non, fz_ty, fz_tup, fz_lst, fz_wls, fz_dct, opD, addD, subD, mulD, fdivD, modD, powD, cmD, ltD, leD, gtD, geD, bltD, intD, absD, lenD, max2D, min2D, idxD, seqOf, atI, ixN, outsOf, lentS, lend, back, mulOk_l, mulOk_r, mulOk_mod, eqD_int, isiLD, isiD, isiTy, tyD, List.lookup, szl, wip, unwip, CE_run, io_0, io_1, io_2, io_3, io_4, io_5, io_6, io_7, io_8, io_9, io_10, io_11, io_12, io_13, io_14, io_15, io_16, io_17, io_18, io_19, io_20, io_21, rng3, e1, e2, e3]
theorem r1_ok {z : D} {p1 q1 p2 q2 p3 q3 a1 b1 a2 b2 a3 b3 : Int} (o : Bool) (e1 : runP wh fnT (n + 5) 5 [.int p1, .int q1] = .ok (pr a1 b1) []) (e2 : runP wh fnT (n + 5) 5 [.int p2, .int q2] = .ok (pr a2 b2) []) (e3 : runP wh fnT (n + 5) 5 [.int p3, .int q3] = .ok (pr a3 b3) []) :
    evS (CE (n + 5)) wh R1 [some z, some (.lst o [pr p1 q1, pr p2 q2, pr p3 q3]), none, none, none, none, none, none, none, none, none] = .nx [some z, some (.lst false [pr p1 q1, pr p2 q2, pr p3 q3]), some (.lst true [pr a1 b1, pr a2 b2, pr a3 b3]), none, none, none, none, none, none, none, none] := by
  simp [R1, ev_var, ev_cst, ev_glb, ev_tup, ev_lst, ev_bin, ev_neg, ev_not, ev_cmp, ev_chain, ev_and, ev_or, ev_ife, ev_idx, ev_idxV, ev_call, ev_blt, ev_join, ev_lrng, ev_lc, ev_callS, ev_nd, lc_nil, lc_cons, lcStep, tg_nm, tg_tp, tgs_nil, tgs_cons, es_expr, es_nm, es_tp, es_par, es_set, es_ret, es_if, es_while, es_for, for_nil, for_cons, body_ap, ess_nil, ess_cons, el_ok, seq_nx, seq_rt, of_some, asB_bl, evL, evA, evT, evI, getS, fz_int, fz_bl, fz_str, fz_non, fz_ty, fz_tup, fz_lst, fz_wls, fz_dct, opD, addD, subD, mulD, fdivD, modD, powD, cmD, ltD, leD, gtD, geD, bltD, intD, absD, lenD, max2D, min2D, idxD, seqOf, atI, ixN, outsOf, lentS, lend, back, mulOk_l, mulOk_r, mulOk_mod, eqD_int, isiLD, isiD, isiTy, tyD, List.lookup, szl, wip, unwip, CE_run, io_0, io_1, io_2, io_3, io_4, io_5, io_6, io_7, io_8, io_9, io_10, io_11, io_12, io_13, io_14, io_15, io_16, io_17, io_18, io_19, io_20, io_21, seqD, e1, e2, e3]
theorem r2_ok {z : D} {p1 q1 p2 q2 p3 q3 a1 b1 a2 b2 a3 b3 : Int} (e1 : runP wh fnT (n + 5) 14 [.int p1, .int q1] = .ok (pr a1 b1) []) (e2 : runP wh fnT (n + 5) 14 [.int p2, .int q2] = .ok (pr a2 b2) []) (e3 : runP wh fnT (n + 5) 14 [.int p3, .int q3] = .ok (pr a3 b3) []) :
    evS (CE (n + 5)) wh R2 [some z, some (.lst false [pr p1 q1, pr p2 q2, pr p3 q3]), some (.lst true [pr a1 b1, pr a2 b2, pr a3 b3]), none, none, none, none, none, none, none, none] = .nx [some z, some (.lst false [pr p1 q1, pr p2 q2, pr p3 q3]), some (.lst false [pr a1 b1, pr a2 b2, pr a3 b3]), none, none, none, none, none, none, none, none] := by
  simp [R2, ev_var, ev_cst, ev_glb, ev_tup, ev_lst, ev_bin, ev_neg, ev_not, ev_cmp, ev_chain, ev_and, ev_or, ev_ife, ev_idx, ev_idxV, ev_call, ev_blt, ev_join, ev_lrng, ev_lc, ev_callS, ev_nd, lc_nil, lc_cons, lcStep, tg_nm, tg_tp, tgs_nil, tgs_cons, es_expr, es_nm, es_tp, es_par, es_set, es_ret, es_if, es_while, es_for, for_nil, for_cons, body_ap, ess_nil, ess_cons, el_ok, seq_nx, seq_rt, of_some, asB_bl, evL, evA, evT, evI, getS, fz_int, fz_bl, fz_str, fz_non, fz_ty, fz_tup, fz_lst, fz_wls, fz_dct, opD, addD, subD, mulD, fdivD, modD, powD, cmD, ltD, leD, gtD, geD, bltD, intD, absD, lenD, max2D, min2D, idxD, seqOf, atI, ixN, outsOf, lentS, lend, back, mulOk_l, mulOk_r, mulOk_mod, eqD_int, isiLD, isiD, isiTy, tyD, List.lookup, szl, wip, unwip, CE_run, io_0, io_1, io_2, io_3, io_4, io_5, io_6, io_7, io_8, io_9, io_10, io_11, io_12, io_13, io_14, io_15, io_16, io_17, io_18, io_19, io_20, io_21, seqD, e1, e2, e3, eq_prs]
theorem r3_ok {z y : D} {a1 b1 a2 b2 a3 b3 : Int} (e1 : runP wh fnT (n + 5) 15 [pr a1 b1] = .ok (.bl true) []) (e2 : runP wh fnT (n + 5) 15 [pr a2 b2] = .ok (.bl true) []) (e3 : runP wh fnT (n + 5) 15 [pr a3 b3] = .ok (.bl true) []) :
    evS (CE (n + 5)) wh R3 [some z, some y, some (.lst false [pr a1 b1, pr a2 b2, pr a3 b3]), none, none, none, none, none, none, none, none] = .nx [some z, some y, some (.lst false [pr a1 b1, pr a2 b2, pr a3 b3]), none, none, none, none, none, none, none, none] := by
  simp [R3, ev_var, ev_cst, ev_glb, ev_tup, ev_lst, ev_bin, ev_neg, ev_not, ev_cmp, ev_chain, ev_and, ev_or, ev_ife, ev_idx, ev_idxV, ev_call, ev_blt, ev_join, ev_lrng, ev_lc, ev_callS, ev_nd, lc_nil, lc_cons, lcStep, tg_nm, tg_tp, tgs_nil, tgs_cons, es_expr, es_nm, es_tp, es_par, es_set, es_ret, es_if, es_while, es_for, for_nil, for_cons, body_ap, ess_nil, ess_cons, el_ok, seq_nx, seq_rt, of_some, asB_bl, evL, evA, evT, evI, getS, fz_int, fz_bl, fz_str, fz_non, fz_ty, fz_tup, fz_lst, fz_wls, fz_dct, opD, addD, subD, mulD, fdivD, modD, powD, cmD, ltD, leD, gtD, geD, bltD, intD, absD, lenD, max2D, min2D, idxD, seqOf, atI, ixN, outsOf, lentS, lend, back, mulOk_l, mulOk_r, mulOk_mod, eqD_int, isiLD, isiD, isiTy, tyD, List.lookup, szl, wip, unwip, CE_run, io_0, io_1, io_2, io_3, io_4, io_5, io_6, io_7, io_8, io_9, io_10, io_11, io_12, io_13, io_14, io_15, io_16, io_17, io_18, io_19, io_20, io_21, seqD, e1, e2, e3, eq_nils]
theorem asym {a b c d : Int} : (decide (a * d < c * b) && decide (c * b < a * d)) = false := by
  rw [Bool.and_eq_false_iff, decide_eq_false_iff_not, decide_eq_false_iff_not]
  omega
theorem r4_ok {z y : D} {a1 b1 a2 b2 a3 b3 : Int} (h1 : Low a1 b1) (h2 : Low a2 b2) (h3 : Low a3 b3) :
    evS (CE (n + 5)) wh R4 [some z, some y, some (.lst false [pr a1 b1, pr a2 b2, pr a3 b3]), none, none, none, none, none, none, none, none] = .nx [some z, some y, some (.lst false [pr a1 b1, pr a2 b2, pr a3 b3]), none, none, none, some (pr a3 b3), some (pr a3 b3), none, none, none] := by
  have L := fun {a b c d : Int} (h : Low a b) (k : Low c d) => lower_ok n h k
  have T := fun {a b c d : Int} (h : Low a b) (k : Low c d) => lt2_ok (n + 4) a b c d h.sa k.sa
  have l1 := L h1 h2
  have l2 := L h2 h1
  have l3 := L h2 h3
  have l4 := L h3 h2
  have l5 := L h3 h3
  have t1 := T h1 h2
  have t2 := T h2 h3
  have t3 := T h3 h3
  have c1 : a1 * b2 < a2 * b1 → ¬ a2 * b1 < a1 * b2 := by omega
  have c2 : a2 * b3 < a3 * b2 → ¬ a3 * b2 < a2 * b3 := by omega
  by_cases k1 : a1 * b2 < a2 * b1 <;> by_cases k2 : a2 * b3 < a3 * b2
  · simp [R4, ev_var, ev_cst, ev_glb, ev_tup, ev_lst, ev_bin, ev_neg, ev_not, ev_cmp, ev_chain, ev_and, ev_or, ev_ife, ev_idx, ev_idxV, ev_call, ev_blt, ev_join, ev_lrng, ev_lc, ev_callS, ev_nd, lc_nil, lc_cons, lcStep, tg_nm, tg_tp, tgs_nil, tgs_cons, es_expr, es_nm, es_tp, es_par, es_set, es_ret, es_if, es_while, es_for, for_nil, for_cons, body_ap, ess_nil, ess_cons, el_ok, seq_nx, seq_rt, of_some, asB_bl, evL, evA, evT, evI, getS, fz_int, fz_bl, fz_str, fz_non, fz_ty, fz_tup, fz_lst, fz_wls, fz_dct, opD, addD, subD, mulD, fdivD, modD, powD, cmD, ltD, leD, gtD, geD, bltD, intD, absD, lenD, max2D, min2D, idxD, seqOf, atI, ixN, outsOf, lentS, lend, back, mulOk_l, mulOk_r, mulOk_mod, eqD_int, isiLD, isiD, isiTy, tyD, List.lookup, szl, wip, unwip, CE_run, io_0, io_1, io_2, io_3, io_4, io_5, io_6, io_7, io_8, io_9, io_10, io_11, io_12, io_13, io_14, io_15, io_16, io_17, io_18, io_19, io_20, io_21, seqD, l1, l2, l3, l4, l5, t1, t2, t3, k1, k2, c1 k1, c2 k2, eq_bl]
  · simp [R4, ev_var, ev_cst, ev_glb, ev_tup, ev_lst, ev_bin, ev_neg, ev_not, ev_cmp, ev_chain, ev_and, ev_or, ev_ife, ev_idx, ev_idxV, ev_call, ev_blt, ev_join, ev_lrng, ev_lc, ev_callS, ev_nd, lc_nil, lc_cons, lcStep, tg_nm, tg_tp, tgs_nil, tgs_cons, es_expr, es_nm, es_tp, es_par, es_set, es_ret, es_if, es_while, es_for, for_nil, for_cons, body_ap, ess_nil, ess_cons, el_ok, seq_nx, seq_rt, of_some, asB_bl, evL, evA, evT, evI, getS, fz_int, fz_bl, fz_str, fz_non, fz_ty, fz_tup, fz_lst, fz_wls, fz_dct, opD, addD, subD, mulD, fdivD, modD, powD, cmD, ltD, leD, gtD, geD, bltD, intD, absD, lenD, max2D, min2D, idxD, seqOf, atI, ixN, outsOf, lentS, lend, back, mulOk_l, mulOk_r, mulOk_mod, eqD_int, isiLD, isiD, isiTy, tyD, List.lookup, szl, wip, unwip, CE_run, io_0, io_1, io_2, io_3, io_4, io_5, io_6, io_7, io_8, io_9, io_10, io_11, io_12, io_13, io_14, io_15, io_16, io_17, io_18, io_19, io_20, io_21, seqD, l1, l2, l3, l4, l5, t1, t2, t3, k1, k2, c1 k1, eq_bl]
  · simp [R4, ev_var, ev_cst, ev_glb, ev_tup, ev_lst, ev_bin, ev_neg, ev_not, ev_cmp, ev_chain, ev_and, ev_or, ev_ife, ev_idx, ev_idxV, ev_call, ev_blt, ev_join, ev_lrng, ev_lc, ev_callS, ev_nd, lc_nil, lc_cons, lcStep, tg_nm, tg_tp, tgs_nil, tgs_cons, es_expr, es_nm, es_tp, es_par, es_set, es_ret, es_if, es_while, es_for, for_nil, for_cons, body_ap, ess_nil, ess_cons, el_ok, seq_nx, seq_rt, of_some, asB_bl, evL, evA, evT, evI, getS, fz_int, fz_bl, fz_str, fz_non, fz_ty, fz_tup, fz_lst, fz_wls, fz_dct, opD, addD, subD, mulD, fdivD, modD, powD, cmD, ltD, leD, gtD, geD, bltD, intD, absD, lenD, max2D, min2D, idxD, seqOf, atI, ixN, outsOf, lentS, lend, back, mulOk_l, mulOk_r, mulOk_mod, eqD_int, isiLD, isiD, isiTy, tyD, List.lookup, szl, wip, unwip, CE_run, io_0, io_1, io_2, io_3, io_4, io_5, io_6, io_7, io_8, io_9, io_10, io_11, io_12, io_13, io_14, io_15, io_16, io_17, io_18, io_19, io_20, io_21, seqD, l1, l2, l3, l4, l5, t1, t2, t3, k1, k2, c2 k2, eq_bl]
  · simp [R4, ev_var, ev_cst, ev_glb, ev_tup, ev_lst, ev_bin, ev_neg, ev_not, ev_cmp, ev_chain, ev_and, ev_or, ev_ife, ev_idx, ev_idxV, ev_call, ev_blt, ev_join, ev_lrng, ev_lc, ev_callS, ev_nd, lc_nil, lc_cons, lcStep, tg_nm, tg_tp, tgs_nil, tgs_cons, es_expr, es_nm, es_tp, es_par, es_set, es_ret, es_if, es_while, es_for, for_nil, for_cons, body_ap, ess_nil, ess_cons, el_ok, seq_nx, seq_rt, of_some, asB_bl, evL, evA, evT, evI, getS, fz_int, fz_bl, fz_str, fz_non, fz_ty, fz_tup, fz_lst, fz_wls, fz_dct, opD, addD, subD, mulD, fdivD, modD, powD, cmD, ltD, leD, gtD, geD, bltD, intD, absD, lenD, max2D, min2D, idxD, seqOf, atI, ixN, outsOf, lentS, lend, back, mulOk_l, mulOk_r, mulOk_mod, eqD_int, isiLD, isiD, isiTy, tyD, List.lookup, szl, wip, unwip, CE_run, io_0, io_1, io_2, io_3, io_4, io_5, io_6, io_7, io_8, io_9, io_10, io_11, io_12, io_13, io_14, io_15, io_16, io_17, io_18, io_19, io_20, io_21, seqD, l1, l2, l3, l4, l5, t1, t2, t3, k1, k2, eq_bl]
end
end YL
set_option Elab.async false
set_option linter.all false
set_option maxRecDepth 100000
set_option maxHeartbeats 4000000
/-! P01c: the law's right, to its end. -/
namespace YL
open PySem L2 Y YV

section
variable (n : Nat)
theorem intb_ok (b : Bool) : runP wh fnT (n + 1) 3 [.bl b] = .ok (.bl false) [] := by
  rw [run_s _ 3 F3 _ rfl]
  simp [F3, fnGo, ev_var, ev_cst, ev_glb, ev_tup, ev_lst, ev_bin, ev_neg, ev_not, ev_cmp, ev_chain, ev_and, ev_or, ev_ife, ev_idx, ev_idxV, ev_call, ev_blt, ev_join, ev_lrng, ev_lc, ev_callS, ev_nd, lc_nil, lc_cons, lcStep, tg_nm, tg_tp, tgs_nil, tgs_cons, es_expr, es_nm, es_tp, es_par, es_set, es_ret, es_if, es_while, es_for, for_nil, for_cons, body_ap, ess_nil, ess_cons, el_ok, seq_nx, seq_rt, of_some, asB_bl, evL, evA, evT, evI, getS, fz_int, fz_bl, fz_str, fz_non, fz_ty, fz_tup, fz_lst, fz_wls, fz_dct, opD, addD, subD, mulD, fdivD, modD, powD, cmD, ltD, leD, gtD, geD, bltD, intD, absD, lenD, max2D, min2D, idxD, seqOf, atI, ixN, outsOf, lentS, lend, back, mulOk_l, mulOk_r, mulOk_mod, eqD_int, isiLD, isiD, isiTy, tyD, List.lookup, szl, wip, unwip, CE_run, io_0, io_1, io_2, io_3, io_4, io_5, io_6, io_7, io_8, io_9, io_10, io_11, io_12, io_13, io_14, io_15, io_16, io_17, io_18, io_19, io_20, io_21]
theorem manyb_ok (b : Bool) : runP wh fnT (n + 2) 4 [.bl b] = .ok (.bl false) [] := by
  rw [run_s _ 4 F4 _ rfl]
  simp [F4, fnGo, ev_var, ev_cst, ev_glb, ev_tup, ev_lst, ev_bin, ev_neg, ev_not, ev_cmp, ev_chain, ev_and, ev_or, ev_ife, ev_idx, ev_idxV, ev_call, ev_blt, ev_join, ev_lrng, ev_lc, ev_callS, ev_nd, lc_nil, lc_cons, lcStep, tg_nm, tg_tp, tgs_nil, tgs_cons, es_expr, es_nm, es_tp, es_par, es_set, es_ret, es_if, es_while, es_for, for_nil, for_cons, body_ap, ess_nil, ess_cons, el_ok, seq_nx, seq_rt, of_some, asB_bl, evL, evA, evT, evI, getS, fz_int, fz_bl, fz_str, fz_non, fz_ty, fz_tup, fz_lst, fz_wls, fz_dct, opD, addD, subD, mulD, fdivD, modD, powD, cmD, ltD, leD, gtD, geD, bltD, intD, absD, lenD, max2D, min2D, idxD, seqOf, atI, ixN, outsOf, lentS, lend, back, mulOk_l, mulOk_r, mulOk_mod, eqD_int, isiLD, isiD, isiTy, tyD, List.lookup, szl, wip, unwip, CE_run, io_0, io_1, io_2, io_3, io_4, io_5, io_6, io_7, io_8, io_9, io_10, io_11, io_12, io_13, io_14, io_15, io_16, io_17, io_18, io_19, io_20, io_21, intb_ok]
theorem is3_ok (a b c : Int) : runP wh fnT (n + 3) 6 [.tup [.int a, .int b, .int c]] = .ok (.bl false) [] := by
  rw [run_s _ 6 F6 _ rfl]
  simp [F6, fnGo, ev_var, ev_cst, ev_glb, ev_tup, ev_lst, ev_bin, ev_neg, ev_not, ev_cmp, ev_chain, ev_and, ev_or, ev_ife, ev_idx, ev_idxV, ev_call, ev_blt, ev_join, ev_lrng, ev_lc, ev_callS, ev_nd, lc_nil, lc_cons, lcStep, tg_nm, tg_tp, tgs_nil, tgs_cons, es_expr, es_nm, es_tp, es_par, es_set, es_ret, es_if, es_while, es_for, for_nil, for_cons, body_ap, ess_nil, ess_cons, el_ok, seq_nx, seq_rt, of_some, asB_bl, evL, evA, evT, evI, getS, fz_int, fz_bl, fz_str, fz_non, fz_ty, fz_tup, fz_lst, fz_wls, fz_dct, opD, addD, subD, mulD, fdivD, modD, powD, cmD, ltD, leD, gtD, geD, bltD, intD, absD, lenD, max2D, min2D, idxD, seqOf, atI, ixN, outsOf, lentS, lend, back, mulOk_l, mulOk_r, mulOk_mod, eqD_int, isiLD, isiD, isiTy, tyD, List.lookup, szl, wip, unwip, CE_run, io_0, io_1, io_2, io_3, io_4, io_5, io_6, io_7, io_8, io_9, io_10, io_11, io_12, io_13, io_14, io_15, io_16, io_17, io_18, io_19, io_20, io_21]
theorem isl_ok (xs : List D) (o : Bool) : runP wh fnT (n + 3) 6 [.lst o xs] = .ok (.bl false) [] := by
  rw [run_s _ 6 F6 _ rfl]
  simp [F6, fnGo, ev_var, ev_cst, ev_glb, ev_tup, ev_lst, ev_bin, ev_neg, ev_not, ev_cmp, ev_chain, ev_and, ev_or, ev_ife, ev_idx, ev_idxV, ev_call, ev_blt, ev_join, ev_lrng, ev_lc, ev_callS, ev_nd, lc_nil, lc_cons, lcStep, tg_nm, tg_tp, tgs_nil, tgs_cons, es_expr, es_nm, es_tp, es_par, es_set, es_ret, es_if, es_while, es_for, for_nil, for_cons, body_ap, ess_nil, ess_cons, el_ok, seq_nx, seq_rt, of_some, asB_bl, evL, evA, evT, evI, getS, fz_int, fz_bl, fz_str, fz_non, fz_ty, fz_tup, fz_lst, fz_wls, fz_dct, opD, addD, subD, mulD, fdivD, modD, powD, cmD, ltD, leD, gtD, geD, bltD, intD, absD, lenD, max2D, min2D, idxD, seqOf, atI, ixN, outsOf, lentS, lend, back, mulOk_l, mulOk_r, mulOk_mod, eqD_int, isiLD, isiD, isiTy, tyD, List.lookup, szl, wip, unwip, CE_run, io_0, io_1, io_2, io_3, io_4, io_5, io_6, io_7, io_8, io_9, io_10, io_11, io_12, io_13, io_14, io_15, io_16, io_17, io_18, io_19, io_20, io_21]
theorem isn_ok : runP wh fnT (n + 3) 6 [.non] = .ok (.bl false) [] := by
  rw [run_s _ 6 F6 _ rfl]
  simp [F6, fnGo, ev_var, ev_cst, ev_glb, ev_tup, ev_lst, ev_bin, ev_neg, ev_not, ev_cmp, ev_chain, ev_and, ev_or, ev_ife, ev_idx, ev_idxV, ev_call, ev_blt, ev_join, ev_lrng, ev_lc, ev_callS, ev_nd, lc_nil, lc_cons, lcStep, tg_nm, tg_tp, tgs_nil, tgs_cons, es_expr, es_nm, es_tp, es_par, es_set, es_ret, es_if, es_while, es_for, for_nil, for_cons, body_ap, ess_nil, ess_cons, el_ok, seq_nx, seq_rt, of_some, asB_bl, evL, evA, evT, evI, getS, fz_int, fz_bl, fz_str, fz_non, fz_ty, fz_tup, fz_lst, fz_wls, fz_dct, opD, addD, subD, mulD, fdivD, modD, powD, cmD, ltD, leD, gtD, geD, bltD, intD, absD, lenD, max2D, min2D, idxD, seqOf, atI, ixN, outsOf, lentS, lend, back, mulOk_l, mulOk_r, mulOk_mod, eqD_int, isiLD, isiD, isiTy, tyD, List.lookup, szl, wip, unwip, CE_run, io_0, io_1, io_2, io_3, io_4, io_5, io_6, io_7, io_8, io_9, io_10, io_11, io_12, io_13, io_14, io_15, io_16, io_17, io_18, io_19, io_20, io_21]
theorem isi_ok (a : Int) : runP wh fnT (n + 3) 6 [.int a] = .ok (.bl false) [] := by
  rw [run_s _ 6 F6 _ rfl]
  simp [F6, fnGo, ev_var, ev_cst, ev_glb, ev_tup, ev_lst, ev_bin, ev_neg, ev_not, ev_cmp, ev_chain, ev_and, ev_or, ev_ife, ev_idx, ev_idxV, ev_call, ev_blt, ev_join, ev_lrng, ev_lc, ev_callS, ev_nd, lc_nil, lc_cons, lcStep, tg_nm, tg_tp, tgs_nil, tgs_cons, es_expr, es_nm, es_tp, es_par, es_set, es_ret, es_if, es_while, es_for, for_nil, for_cons, body_ap, ess_nil, ess_cons, el_ok, seq_nx, seq_rt, of_some, asB_bl, evL, evA, evT, evI, getS, fz_int, fz_bl, fz_str, fz_non, fz_ty, fz_tup, fz_lst, fz_wls, fz_dct, opD, addD, subD, mulD, fdivD, modD, powD, cmD, ltD, leD, gtD, geD, bltD, intD, absD, lenD, max2D, min2D, idxD, seqOf, atI, ixN, outsOf, lentS, lend, back, mulOk_l, mulOk_r, mulOk_mod, eqD_int, isiLD, isiD, isiTy, tyD, List.lookup, szl, wip, unwip, CE_run, io_0, io_1, io_2, io_3, io_4, io_5, io_6, io_7, io_8, io_9, io_10, io_11, io_12, io_13, io_14, io_15, io_16, io_17, io_18, io_19, io_20, io_21]
theorem isb1_ok (b : Bool) (a : Int) : runP wh fnT (n + 3) 6 [.tup [.bl b, .int a]] = .ok (.bl false) [] := by
  rw [run_s _ 6 F6 _ rfl]
  simp [F6, fnGo, ev_var, ev_cst, ev_glb, ev_tup, ev_lst, ev_bin, ev_neg, ev_not, ev_cmp, ev_chain, ev_and, ev_or, ev_ife, ev_idx, ev_idxV, ev_call, ev_blt, ev_join, ev_lrng, ev_lc, ev_callS, ev_nd, lc_nil, lc_cons, lcStep, tg_nm, tg_tp, tgs_nil, tgs_cons, es_expr, es_nm, es_tp, es_par, es_set, es_ret, es_if, es_while, es_for, for_nil, for_cons, body_ap, ess_nil, ess_cons, el_ok, seq_nx, seq_rt, of_some, asB_bl, evL, evA, evT, evI, getS, fz_int, fz_bl, fz_str, fz_non, fz_ty, fz_tup, fz_lst, fz_wls, fz_dct, opD, addD, subD, mulD, fdivD, modD, powD, cmD, ltD, leD, gtD, geD, bltD, intD, absD, lenD, max2D, min2D, idxD, seqOf, atI, ixN, outsOf, lentS, lend, back, mulOk_l, mulOk_r, mulOk_mod, eqD_int, isiLD, isiD, isiTy, tyD, List.lookup, szl, wip, unwip, CE_run, io_0, io_1, io_2, io_3, io_4, io_5, io_6, io_7, io_8, io_9, io_10, io_11, io_12, io_13, io_14, io_15, io_16, io_17, io_18, io_19, io_20, io_21, intb_ok]
theorem isb2_ok (b : Bool) (a : Int) : runP wh fnT (n + 3) 6 [.tup [.int a, .bl b]] = .ok (.bl false) [] := by
  rw [run_s _ 6 F6 _ rfl]
  simp [F6, fnGo, ev_var, ev_cst, ev_glb, ev_tup, ev_lst, ev_bin, ev_neg, ev_not, ev_cmp, ev_chain, ev_and, ev_or, ev_ife, ev_idx, ev_idxV, ev_call, ev_blt, ev_join, ev_lrng, ev_lc, ev_callS, ev_nd, lc_nil, lc_cons, lcStep, tg_nm, tg_tp, tgs_nil, tgs_cons, es_expr, es_nm, es_tp, es_par, es_set, es_ret, es_if, es_while, es_for, for_nil, for_cons, body_ap, ess_nil, ess_cons, el_ok, seq_nx, seq_rt, of_some, asB_bl, evL, evA, evT, evI, getS, fz_int, fz_bl, fz_str, fz_non, fz_ty, fz_tup, fz_lst, fz_wls, fz_dct, opD, addD, subD, mulD, fdivD, modD, powD, cmD, ltD, leD, gtD, geD, bltD, intD, absD, lenD, max2D, min2D, idxD, seqOf, atI, ixN, outsOf, lentS, lend, back, mulOk_l, mulOk_r, mulOk_mod, eqD_int, isiLD, isiD, isiTy, tyD, List.lookup, szl, wip, unwip, CE_run, io_0, io_1, io_2, io_3, io_4, io_5, io_6, io_7, io_8, io_9, io_10, io_11, io_12, io_13, io_14, io_15, io_16, io_17, io_18, io_19, io_20, io_21, int_ok, manyb_ok]
theorem r5_ok {z y : D} {u v : Option D} {a1 b1 a2 b2 a3 b3 m1 m2 : Int} (e : runP wh fnT (n + 5) 10 [.tup [pr a1 b1, pr a2 b2, pr a3 b3]] = .ok (pr m1 m2) []) :
    evS (CE (n + 5)) wh R5 [some z, some y, some (.lst false [pr a1 b1, pr a2 b2, pr a3 b3]), none, none, none, u, v, none, none, none] = .nx [some z, some y, some (.lst false [pr a1 b1, pr a2 b2, pr a3 b3]), some (pr m1 m2), none, none, u, v, none, none, none] := by
  simp [R5, ev_var, ev_cst, ev_glb, ev_tup, ev_lst, ev_bin, ev_neg, ev_not, ev_cmp, ev_chain, ev_and, ev_or, ev_ife, ev_idx, ev_idxV, ev_call, ev_blt, ev_join, ev_lrng, ev_lc, ev_callS, ev_nd, lc_nil, lc_cons, lcStep, tg_nm, tg_tp, tgs_nil, tgs_cons, es_expr, es_nm, es_tp, es_par, es_set, es_ret, es_if, es_while, es_for, for_nil, for_cons, body_ap, ess_nil, ess_cons, el_ok, seq_nx, seq_rt, of_some, asB_bl, evL, evA, evT, evI, getS, fz_int, fz_bl, fz_str, fz_non, fz_ty, fz_tup, fz_lst, fz_wls, fz_dct, opD, addD, subD, mulD, fdivD, modD, powD, cmD, ltD, leD, gtD, geD, bltD, intD, absD, lenD, max2D, min2D, idxD, seqOf, atI, ixN, outsOf, lentS, lend, back, mulOk_l, mulOk_r, mulOk_mod, eqD_int, isiLD, isiD, isiTy, tyD, List.lookup, szl, wip, unwip, CE_run, io_0, io_1, io_2, io_3, io_4, io_5, io_6, io_7, io_8, io_9, io_10, io_11, io_12, io_13, io_14, io_15, io_16, io_17, io_18, io_19, io_20, io_21, e]
theorem r6_ok {z y : D} {u v : Option D} {a1 b1 a2 b2 a3 b3 m1 m2 : Int} (hin : inOf (pr m1 m2) (.lst false [pr a1 b1, pr a2 b2, pr a3 b3]) = some true) (t1 : runP wh fnT (n + 5) 17 [pr m1 m2, pr a1 b1] = .ok (.bl false) []) (t2 : runP wh fnT (n + 5) 17 [pr m1 m2, pr a2 b2] = .ok (.bl false) []) (t3 : runP wh fnT (n + 5) 17 [pr m1 m2, pr a3 b3] = .ok (.bl false) [])
    (e : runP wh fnT (n + 5) 10 [.tup [pr a2 b2]] = .ok (pr a2 b2) []) :
    evS (CE (n + 5)) wh R6 [some z, some y, some (.lst false [pr a1 b1, pr a2 b2, pr a3 b3]), some (pr m1 m2), none, none, u, v, none, none, none] = .nx [some z, some y, some (.lst false [pr a1 b1, pr a2 b2, pr a3 b3]), some (pr m1 m2), none, none, u, v, none, none, none] := by
  simp [R6, ev_var, ev_cst, ev_glb, ev_tup, ev_lst, ev_bin, ev_neg, ev_not, ev_cmp, ev_chain, ev_and, ev_or, ev_ife, ev_idx, ev_idxV, ev_call, ev_blt, ev_join, ev_lrng, ev_lc, ev_callS, ev_nd, lc_nil, lc_cons, lcStep, tg_nm, tg_tp, tgs_nil, tgs_cons, es_expr, es_nm, es_tp, es_par, es_set, es_ret, es_if, es_while, es_for, for_nil, for_cons, body_ap, ess_nil, ess_cons, el_ok, seq_nx, seq_rt, of_some, asB_bl, evL, evA, evT, evI, getS, fz_int, fz_bl, fz_str, fz_non, fz_ty, fz_tup, fz_lst, fz_wls, fz_dct, opD, addD, subD, mulD, fdivD, modD, powD, cmD, ltD, leD, gtD, geD, bltD, intD, absD, lenD, max2D, min2D, idxD, seqOf, atI, ixN, outsOf, lentS, lend, back, mulOk_l, mulOk_r, mulOk_mod, eqD_int, isiLD, isiD, isiTy, tyD, List.lookup, szl, wip, unwip, CE_run, io_0, io_1, io_2, io_3, io_4, io_5, io_6, io_7, io_8, io_9, io_10, io_11, io_12, io_13, io_14, io_15, io_16, io_17, io_18, io_19, io_20, io_21, seqD, hin, t1, t2, t3, e, eq_nils, eq_pr]
theorem r7_ok {y x t : D} {u v : Option D} {a b c a1 c1 a2 c2 v1 v2 : Int} (e1 : runP wh fnT (n + 5) 11 [dc a b c, .int 5] = .ok (.int v1) [dc a1 b c1]) (e2 : runP wh fnT (n + 5) 11 [dc a1 b c1, .int 1000] = .ok (.int v2) [dc a2 b c2]) :
    evS (CE (n + 5)) wh R7 [some (dc a b c), some y, some x, some t, none, none, u, v, none, none, none] = .nx [some (dc a2 b c2), some y, some x, some t, none, none, u, v, some (.int (2 + v1)), some (.int (100000000000 + v2)), none] := by
  simp [R7, ev_var, ev_cst, ev_glb, ev_tup, ev_lst, ev_bin, ev_neg, ev_not, ev_cmp, ev_chain, ev_and, ev_or, ev_ife, ev_idx, ev_idxV, ev_call, ev_blt, ev_join, ev_lrng, ev_lc, ev_callS, ev_nd, lc_nil, lc_cons, lcStep, tg_nm, tg_tp, tgs_nil, tgs_cons, es_expr, es_nm, es_tp, es_par, es_set, es_ret, es_if, es_while, es_for, for_nil, for_cons, body_ap, ess_nil, ess_cons, el_ok, seq_nx, seq_rt, of_some, asB_bl, evL, evA, evT, evI, getS, fz_int, fz_bl, fz_str, fz_non, fz_ty, fz_tup, fz_lst, fz_wls, fz_dct, opD, addD, subD, mulD, fdivD, modD, powD, cmD, ltD, leD, gtD, geD, bltD, intD, absD, lenD, max2D, min2D, idxD, seqOf, atI, ixN, outsOf, lentS, lend, back, mulOk_l, mulOk_r, mulOk_mod, eqD_int, isiLD, isiD, isiTy, tyD, List.lookup, szl, wip, unwip, CE_run, io_0, io_1, io_2, io_3, io_4, io_5, io_6, io_7, io_8, io_9, io_10, io_11, io_12, io_13, io_14, io_15, io_16, io_17, io_18, io_19, io_20, io_21, e1, e2]
theorem r8_ok {z t : D} {u v : Option D} {p1 q1 p2 q2 p3 q3 a1 b1 k f : Int} {xs ys : List D} (hk : mulOk p1 k = true) (hk2 : mulOk q1 k = true) (e1 : runP wh fnT (n + 5) 5 [.int (p1 * k), .int (q1 * k)] = .ok (pr a1 b1) []) (e2 : runP wh fnT (n + 5) 5 [.int f, .int f] = .ok (pr 1 1) []) :
    evS (CE (n + 5)) wh R8 [some z, some (.lst false (pr p1 q1 :: ys)), some (.lst false (pr a1 b1 :: xs)), some t, none, none, u, v, some (.int k), some (.int f), none] = .nx [some z, some (.lst false (pr p1 q1 :: ys)), some (.lst false (pr a1 b1 :: xs)), some t, none, none, u, v, some (.int k), some (.int f), none] := by
  have h0 : ∀ m : Nat, (0 : Int) < (m : Int) + 1 := fun m => by omega
  simp [R8, ev_var, ev_cst, ev_glb, ev_tup, ev_lst, ev_bin, ev_neg, ev_not, ev_cmp, ev_chain, ev_and, ev_or, ev_ife, ev_idx, ev_idxV, ev_call, ev_blt, ev_join, ev_lrng, ev_lc, ev_callS, ev_nd, lc_nil, lc_cons, lcStep, tg_nm, tg_tp, tgs_nil, tgs_cons, es_expr, es_nm, es_tp, es_par, es_set, es_ret, es_if, es_while, es_for, for_nil, for_cons, body_ap, ess_nil, ess_cons, el_ok, seq_nx, seq_rt, of_some, asB_bl, evL, evA, evT, evI, getS, fz_int, fz_bl, fz_str, fz_non, fz_ty, fz_tup, fz_lst, fz_wls, fz_dct, opD, addD, subD, mulD, fdivD, modD, powD, cmD, ltD, leD, gtD, geD, bltD, intD, absD, lenD, max2D, min2D, idxD, seqOf, atI, ixN, outsOf, lentS, lend, back, mulOk_l, mulOk_r, mulOk_mod, eqD_int, isiLD, isiD, isiTy, tyD, List.lookup, szl, wip, unwip, CE_run, io_0, io_1, io_2, io_3, io_4, io_5, io_6, io_7, io_8, io_9, io_10, io_11, io_12, io_13, io_14, io_15, io_16, io_17, io_18, io_19, io_20, io_21, hk, hk2, e1, e2, eq_pr, h0]
theorem r9_ok {z t k f : D} {u v : Option D} {p1 q1 a1 b1 : Int} {xs ys : List D} :
    evS (CE (n + 5)) wh R9 [some z, some (.lst false (pr p1 q1 :: ys)), some (.lst false (pr a1 b1 :: xs)), some t, none, none, u, v, some k, some f, none] = .nx [some z, some (.lst false (pr p1 q1 :: ys)), some (.lst false (pr a1 b1 :: xs)), some t, some (.lst true [pr a1 b1, pr p1 q1, pr a1 0, pr a1 (-1), .tup [.int a1, .int b1, .int 1], .lst false [.int a1, .int b1], .tup [.bl true, .int 2]]), none, u, v, some k, some f, none] := by
  have h0 : ∀ m : Nat, (0 : Int) < (m : Int) + 1 := fun m => by omega
  simp [R9, ev_var, ev_cst, ev_glb, ev_tup, ev_lst, ev_bin, ev_neg, ev_not, ev_cmp, ev_chain, ev_and, ev_or, ev_ife, ev_idx, ev_idxV, ev_call, ev_blt, ev_join, ev_lrng, ev_lc, ev_callS, ev_nd, lc_nil, lc_cons, lcStep, tg_nm, tg_tp, tgs_nil, tgs_cons, es_expr, es_nm, es_tp, es_par, es_set, es_ret, es_if, es_while, es_for, for_nil, for_cons, body_ap, ess_nil, ess_cons, el_ok, seq_nx, seq_rt, of_some, asB_bl, evL, evA, evT, evI, getS, fz_int, fz_bl, fz_str, fz_non, fz_ty, fz_tup, fz_lst, fz_wls, fz_dct, opD, addD, subD, mulD, fdivD, modD, powD, cmD, ltD, leD, gtD, geD, bltD, intD, absD, lenD, max2D, min2D, idxD, seqOf, atI, ixN, outsOf, lentS, lend, back, mulOk_l, mulOk_r, mulOk_mod, eqD_int, isiLD, isiD, isiTy, tyD, List.lookup, szl, wip, unwip, CE_run, io_0, io_1, io_2, io_3, io_4, io_5, io_6, io_7, io_8, io_9, io_10, io_11, io_12, io_13, io_14, io_15, io_16, io_17, io_18, io_19, io_20, io_21, h0, listD]
theorem r10_ok {z y x t k f : D} {u v : Option D} {d0 d1 d2 d3 d4 d5 d6 : D} :
    evS (CE (n + 5)) wh R10 [some z, some y, some x, some t, some (.lst true [d0, d1, d2, d3, d4, d5, d6]), none, u, v, some k, some f, none] = .nx [some z, some y, some x, some t, some (.lst true [d0, d1, d2, d3, d4, d5, d6, .tup [.int 1, .bl true], .non, .int 3]), none, u, v, some k, some f, none] := by
  simp [R10, ev_var, ev_cst, ev_glb, ev_tup, ev_lst, ev_bin, ev_neg, ev_not, ev_cmp, ev_chain, ev_and, ev_or, ev_ife, ev_idx, ev_idxV, ev_call, ev_blt, ev_join, ev_lrng, ev_lc, ev_callS, ev_nd, lc_nil, lc_cons, lcStep, tg_nm, tg_tp, tgs_nil, tgs_cons, es_expr, es_nm, es_tp, es_par, es_set, es_ret, es_if, es_while, es_for, for_nil, for_cons, body_ap, ess_nil, ess_cons, el_ok, seq_nx, seq_rt, of_some, asB_bl, evL, evA, evT, evI, getS, fz_int, fz_bl, fz_str, fz_non, fz_ty, fz_tup, fz_lst, fz_wls, fz_dct, opD, addD, subD, mulD, fdivD, modD, powD, cmD, ltD, leD, gtD, geD, bltD, intD, absD, lenD, max2D, min2D, idxD, seqOf, atI, ixN, outsOf, lentS, lend, back, mulOk_l, mulOk_r, mulOk_mod, eqD_int, isiLD, isiD, isiTy, tyD, List.lookup, szl, wip, unwip, CE_run, io_0, io_1, io_2, io_3, io_4, io_5, io_6, io_7, io_8, io_9, io_10, io_11, io_12, io_13, io_14, io_15, io_16, io_17, io_18, io_19, io_20, io_21]
theorem rep8 : (List.replicate 8 [D.bl false]).flatten = [.bl false, .bl false, .bl false, .bl false, .bl false, .bl false, .bl false, .bl false] := rfl
theorem r11_ok {z x t l k f : D} {u v : Option D} {p1 q1 : Int} {ys : List D} {b : Bool} (e : runP wh fnT (n + 5) 15 [pr p1 q1] = .ok (.bl b) []) :
    evS (CE (n + 5)) wh R11 [some z, some (.lst false (pr p1 q1 :: ys)), some x, some t, some l, none, u, v, some k, some f, none] = .nx [some z, some (.lst false (pr p1 q1 :: ys)), some x, some t, some l, some (.lst true [.bl true, .bl b, .bl false, .bl false, .bl false, .bl false, .bl false, .bl false, .bl false, .bl false]), u, v, some k, some f, none] := by
  have h0 : ∀ m : Nat, (0 : Int) < (m : Int) + 1 := fun m => by omega
  simp [R11, ev_var, ev_cst, ev_glb, ev_tup, ev_lst, ev_bin, ev_neg, ev_not, ev_cmp, ev_chain, ev_and, ev_or, ev_ife, ev_idx, ev_idxV, ev_call, ev_blt, ev_join, ev_lrng, ev_lc, ev_callS, ev_nd, lc_nil, lc_cons, lcStep, tg_nm, tg_tp, tgs_nil, tgs_cons, es_expr, es_nm, es_tp, es_par, es_set, es_ret, es_if, es_while, es_for, for_nil, for_cons, body_ap, ess_nil, ess_cons, el_ok, seq_nx, seq_rt, of_some, asB_bl, evL, evA, evT, evI, getS, fz_int, fz_bl, fz_str, fz_non, fz_ty, fz_tup, fz_lst, fz_wls, fz_dct, opD, addD, subD, mulD, fdivD, modD, powD, cmD, ltD, leD, gtD, geD, bltD, intD, absD, lenD, max2D, min2D, idxD, seqOf, atI, ixN, outsOf, lentS, lend, back, mulOk_l, mulOk_r, mulOk_mod, eqD_int, isiLD, isiD, isiTy, tyD, List.lookup, szl, wip, unwip, CE_run, io_0, io_1, io_2, io_3, io_4, io_5, io_6, io_7, io_8, io_9, io_10, io_11, io_12, io_13, io_14, io_15, io_16, io_17, io_18, io_19, io_20, io_21, h0, e, rep8]
theorem r12_ok {z y x t k f : D} {u v : Option D} {p1 q1 a1 b1 : Int} {b : Bool} (h : Low a1 b1) (hp : p1.natAbs < 1000) (hb : (decide (1 ≤ q1) && decide (Int.gcd p1 q1 = 1)) = b) :
    ∃ r, evS (CE (n + 5)) wh R12 [some z, some y, some x, some t, some (.lst true [pr a1 b1, pr p1 q1, pr a1 0, pr a1 (-1), .tup [.int a1, .int b1, .int 1], .lst false [.int a1, .int b1], .tup [.bl true, .int 2], .tup [.int 1, .bl true], .non, .int 3]), some (.lst true [.bl true, .bl b, .bl false, .bl false, .bl false, .bl false, .bl false, .bl false, .bl false, .bl false]), u, v, some k, some f, none] = .rt (.bl true) (some z :: r) := by
  have hw : (wh : Int) = 10000000000000 := rfl
  have := h.sa
  have i1 := h.is (n + 2)
  have i2 := is_ok (n + 2) p1 q1 (by omega)
  rw [hb] at i2
  have i3 := is_ok (n + 2) a1 0 (by omega)
  have i4 := is_ok (n + 2) a1 (-1) (by omega)
  have i5 := is3_ok (n + 2) a1 b1 1
  have i6 := isl_ok (n + 2) [.int a1, .int b1] false
  have i7 := isb1_ok (n + 2) true 2
  have i8 := isb2_ok (n + 2) true 1
  have i9 := isn_ok (n + 2)
  have i10 := isi_ok (n + 2) 3
  have i11 := is_ok (n + 2) 0 2 (by omega)
  have e0 : ∀ o o', eqD (.lst o [.bl true, .bl b, .bl false, .bl false, .bl false, .bl false, .bl false, .bl false, .bl false, .bl false]) (.lst o' [.bl true, .bl b, .bl false, .bl false, .bl false, .bl false, .bl false, .bl false, .bl false, .bl false]) = some true := fun o o' => eq_same (x := .list [.bool true, .bool b, .bool false, .bool false, .bool false, .bool false, .bool false, .bool false, .bool false, .bool false]) rfl rfl rfl
  have g : Int.gcd 0 2 = 2 := by decide
  simp at i3 i4
  simp [g] at i11
  simp (maxSteps := 2000000) [R12, ev_var, ev_cst, ev_glb, ev_tup, ev_lst, ev_bin, ev_neg, ev_not, ev_cmp, ev_chain, ev_and, ev_or, ev_ife, ev_idx, ev_idxV, ev_call, ev_blt, ev_join, ev_lrng, ev_lc, ev_callS, ev_nd, lc_nil, lc_cons, lcStep, tg_nm, tg_tp, tgs_nil, tgs_cons, es_expr, es_nm, es_tp, es_par, es_set, es_ret, es_if, es_while, es_for, for_nil, for_cons, body_ap, ess_nil, ess_cons, el_ok, seq_nx, seq_rt, of_some, asB_bl, evL, evA, evT, evI, getS, fz_int, fz_bl, fz_str, fz_non, fz_ty, fz_tup, fz_lst, fz_wls, fz_dct, opD, addD, subD, mulD, fdivD, modD, powD, cmD, ltD, leD, gtD, geD, bltD, intD, absD, lenD, max2D, min2D, idxD, seqOf, atI, ixN, outsOf, lentS, lend, back, mulOk_l, mulOk_r, mulOk_mod, eqD_int, isiLD, isiD, isiTy, tyD, List.lookup, szl, wip, unwip, CE_run, io_0, io_1, io_2, io_3, io_4, io_5, io_6, io_7, io_8, io_9, io_10, io_11, io_12, io_13, io_14, io_15, io_16, io_17, io_18, io_19, io_20, io_21, seqD, i1, i2, i3, i4, i5, i6, i7, i8, i9, i10, i11, e0, isD]
end
end YL
set_option Elab.async false
set_option linter.all false
set_option maxRecDepth 100000
set_option maxHeartbeats 4000000
/-! P01d: the law's right, whole. -/
namespace YL
open PySem L2 Y YV

theorem fn_rt {C : Y.Env} {w : Nat} {F : Fn} {ds : List D} {r : Rho} {d : D} {os : List D} (h : ds.length = F.np) (h2 : F.np ≤ F.n) (e : evSs C w F.body (ds.map some ++ List.replicate (F.n - F.np) none) = .rt d r) (ho : outsOf F.io r = some os) : fnGo C w F ds = .ok d os := by
  unfold fnGo
  rw [if_pos ⟨h, h2⟩, e]
  dsimp only
  rw [ho]
theorem row_ok (n : Nat) {p q : Int} (d : Drw p q) : ∃ A B : Int, Low A B ∧ runP wh fnT (n + 5) 5 [.int p, .int q] = .ok (pr A B) [] ∧ runP wh fnT (n + 5) 14 [.int p, .int q] = .ok (pr A B) [] ∧ runP wh fnT (n + 5) 15 [pr A B] = .ok (.bl true) [] ∧
    (∀ k : Int, 0 < k → k < 10 → runP wh fnT (n + 5) 5 [.int (p * k), .int (q * k)] = .ok (pr A B) []) := by
  have hw : (wh : Int) = 10000000000000 := rfl
  have := d.lo
  have := d.hi
  have := d.q0
  have := d.q1
  have L := fr_low (p := p) (q := q) (by omega) (by omega) (by omega)
  have g0 : 0 < Int.gcd p q := Int.gcd_pos_of_ne_zero_right p (by omega)
  have hb : q / Int.gcd p q ≤ q := Int.ediv_le_self _ (by omega)
  have ha := Int.natAbs_ediv_le_natAbs p (Int.gcd p q : Int)
  have l := lowest_ok (n + 4) (p / Int.gcd p q) (q / Int.gcd p q) L.pos (by omega) (by omega)
  rw [L.gcd] at l
  refine ⟨_, _, L, fr_ok (n + 2) p q (by omega) (by omega) (by omega), low_ok (n + 4) p q (by omega) (by omega), l, fun k k0 k1 => ?_⟩
  have m1 : (p * k).natAbs ≤ 400 := by
    rw [Int.natAbs_mul]
    have h1 : p.natAbs ≤ 40 := by omega
    have h2 : k.natAbs ≤ 10 := by omega
    exact Nat.mul_le_mul h1 h2
  have m2 : q * k ≤ 40 * 10 := Int.mul_le_mul (by omega) (by omega) (by omega) (by omega)
  have m3 : 0 < q * k := Int.mul_pos (by omega) k0
  have e := fr_ok (n + 2) (p * k) (q * k) m3 (by omega) (by omega)
  have eg : (Int.gcd (p * k) (q * k) : Int) = Int.gcd p q * k := by
    rw [Int.gcd_mul_right]
    have : (k.natAbs : Int) = k := by omega
    push_cast
    rw [this]
  rw [eg, Int.mul_ediv_mul_of_pos_left _ _ k0, Int.mul_ediv_mul_of_pos_left _ _ k0] at e
  exact e
theorem le_tr {a b c d e f : Int} (h1 : a * d ≤ c * b) (h2 : c * f ≤ e * d) (hb : 0 < b) (hd : 0 < d) (hf : 0 < f) : a * f ≤ e * b := by
  have k1 : (a * d) * f ≤ (c * b) * f := Int.mul_le_mul_of_nonneg_right h1 (by omega)
  have k2 : (c * f) * b ≤ (e * d) * b := Int.mul_le_mul_of_nonneg_right h2 (by omega)
  have q1 : (a * d) * f = (a * f) * d := Int.mul_right_comm a d f
  have q2 : (c * b) * f = (c * f) * b := Int.mul_right_comm c b f
  have q3 : (e * d) * b = (e * b) * d := Int.mul_right_comm e d b
  rw [q1, q2] at k1
  rw [q3] at k2
  exact Int.le_of_mul_le_mul_right (Int.le_trans k1 k2) hd
theorem most_facts {a1 b1 a2 b2 a3 b3 : Int} (h1 : Low a1 b1) (h2 : Low a2 b2) (h3 : Low a3 b3) : ∃ m1 m2 : Int, gt2 (gt2 (a1, b1) (a2, b2)) (a3, b3) = (m1, m2) ∧ m1.natAbs < 1000000000000 ∧ inOf (pr m1 m2) (.lst false [pr a1 b1, pr a2 b2, pr a3 b3]) = some true ∧ ¬ m1 * b1 < a1 * m2 ∧ ¬ m1 * b2 < a2 * m2 ∧ ¬ m1 * b3 < a3 * m2 := by
  have i1 : inOf (pr a1 b1) (.lst false [pr a1 b1, pr a2 b2, pr a3 b3]) = some true := by
    show (if SeqAt.shaped (.tuple [.int a1, .int b1]) = true ∧ SeqAt.shaped (.list [.tuple [.int a1, .int b1], .tuple [.int a2, .int b2], .tuple [.int a3, .int b3]]) = true then some (List.any [PyData.tuple [.int a1, .int b1], .tuple [.int a2, .int b2], .tuple [.int a3, .int b3]] fun z => PyData.eqv z (.tuple [.int a1, .int b1])) else none) = _
    rw [if_pos ⟨rfl, rfl⟩]
    simp [PyData.eqv, PyData.eqvAll]
  have i2 : inOf (pr a2 b2) (.lst false [pr a1 b1, pr a2 b2, pr a3 b3]) = some true := by
    show (if SeqAt.shaped (.tuple [.int a2, .int b2]) = true ∧ SeqAt.shaped (.list [.tuple [.int a1, .int b1], .tuple [.int a2, .int b2], .tuple [.int a3, .int b3]]) = true then some (List.any [PyData.tuple [.int a1, .int b1], .tuple [.int a2, .int b2], .tuple [.int a3, .int b3]] fun z => PyData.eqv z (.tuple [.int a2, .int b2])) else none) = _
    rw [if_pos ⟨rfl, rfl⟩]
    simp [PyData.eqv, PyData.eqvAll]
  have i3 : inOf (pr a3 b3) (.lst false [pr a1 b1, pr a2 b2, pr a3 b3]) = some true := by
    show (if SeqAt.shaped (.tuple [.int a3, .int b3]) = true ∧ SeqAt.shaped (.list [.tuple [.int a1, .int b1], .tuple [.int a2, .int b2], .tuple [.int a3, .int b3]]) = true then some (List.any [PyData.tuple [.int a1, .int b1], .tuple [.int a2, .int b2], .tuple [.int a3, .int b3]] fun z => PyData.eqv z (.tuple [.int a3, .int b3])) else none) = _
    rw [if_pos ⟨rfl, rfl⟩]
    simp [PyData.eqv, PyData.eqvAll]
  by_cases k1 : a1 * b2 < a2 * b1
  · by_cases k2 : a2 * b3 < a3 * b2
    · have z := le_tr (Int.le_of_lt k1) (Int.le_of_lt k2) h1.pos h2.pos h3.pos
      exact ⟨a3, b3, by simp [gt2, k1, k2], h3.sa, i3, by omega, by omega, by omega⟩
    · exact ⟨a2, b2, by simp [gt2, k1, k2], h2.sa, i2, by omega, by omega, by omega⟩
  · by_cases k2 : a1 * b3 < a3 * b1
    · have z := le_tr (show a2 * b1 ≤ a1 * b2 by omega) (Int.le_of_lt k2) h2.pos h1.pos h3.pos
      exact ⟨a3, b3, by simp [gt2, k1, k2], h3.sa, i3, by omega, by omega, by omega⟩
    · exact ⟨a1, b1, by simp [gt2, k1, k2], h1.sa, i1, by omega, by omega, by omega⟩
theorem right_ok (n : Nat) (a b c : Int) : ∃ a' c', runP wh fnT (n + 6) 18 [dc a b c] = .ok (.bl true) [dc a' b c'] := by
  have hw : (wh : Int) = 10000000000000 := rfl
  obtain ⟨p1, q1, x1, y1, e1, d1⟩ := drawn_ok (n + 2) a b c
  obtain ⟨p2, q2, x2, y2, e2, d2⟩ := drawn_ok (n + 2) x1 b y1
  obtain ⟨p3, q3, x3, y3, e3, d3⟩ := drawn_ok (n + 2) x2 b y2
  obtain ⟨A1, B1, L1, f1, w1, l1, k1⟩ := row_ok n d1
  obtain ⟨A2, B2, L2, f2, w2, l2, k2⟩ := row_ok n d2
  obtain ⟨A3, B3, L3, f3, w3, l3, k3⟩ := row_ok n d3
  obtain ⟨m1, m2, em, sm, hin, o1, o2, o3⟩ := most_facts L1 L2 L3
  have em := most3 n L1 L2 L3 |>.trans (by rw [em])
  obtain ⟨v1, x4, y4, e4, v10, v11⟩ := roll_ok (n + 4) x3 b y3 5 (by omega) (by omega)
  obtain ⟨v2, x5, y5, e5, v20, v21⟩ := roll_ok (n + 4) x4 b y4 1000 (by omega) (by omega)
  have t := fun (A B : Int) (h : A.natAbs < 1000000000000) => lt2_ok (n + 4) m1 m2 A B sm h
  have t1 := t A1 B1 L1.sa
  have t2 := t A2 B2 L2.sa
  have t3 := t A3 B3 L3.sa
  rw [decide_eq_false o1] at t1
  rw [decide_eq_false o2] at t2
  rw [decide_eq_false o3] at t3
  have := d1.lo
  have := d1.hi
  have := d1.q0
  have := d1.q1
  have ff : runP wh fnT (n + 5) 5 [.int (100000000000 + v2), .int (100000000000 + v2)] = .ok (pr 1 1) [] := by
    have z := fr_ok (n + 2) (100000000000 + v2) (100000000000 + v2) (by omega) (by omega) (by omega)
    have eg : (Int.gcd (100000000000 + v2) (100000000000 + v2) : Int) = 100000000000 + v2 := by
      rw [Int.gcd_self]
      omega
    rw [eg, Int.ediv_self (by omega)] at z
    exact z
  have z0 := r0_ok n e1 e2 e3
  have z1 := r1_ok n (z := dc x3 b y3) true f1 f2 f3
  have z2 := r2_ok n (z := dc x3 b y3) w1 w2 w3
  have z3 := r3_ok n (z := dc x3 b y3) (y := .lst false [pr p1 q1, pr p2 q2, pr p3 q3]) l1 l2 l3
  have z4 := r4_ok n (z := dc x3 b y3) (y := .lst false [pr p1 q1, pr p2 q2, pr p3 q3]) L1 L2 L3
  have z5 := r5_ok n (z := dc x3 b y3) (y := .lst false [pr p1 q1, pr p2 q2, pr p3 q3]) (u := some (pr A3 B3)) (v := some (pr A3 B3)) em
  have z6 := r6_ok n (z := dc x3 b y3) (y := .lst false [pr p1 q1, pr p2 q2, pr p3 q3]) (u := some (pr A3 B3)) (v := some (pr A3 B3)) hin t1 t2 t3 (most1 n L2)
  have z7 := r7_ok n (y := .lst false [pr p1 q1, pr p2 q2, pr p3 q3]) (x := .lst false [pr A1 B1, pr A2 B2, pr A3 B3]) (t := pr m1 m2) (u := some (pr A3 B3)) (v := some (pr A3 B3)) e4 e5
  have z8 := r8_ok n (z := dc x5 b y5) (t := pr m1 m2) (u := some (pr A3 B3)) (v := some (pr A3 B3)) (xs := [pr A2 B2, pr A3 B3]) (ys := [pr p2 q2, pr p3 q3]) (p2 := 0) (q2 := 0) (p3 := 0) (q3 := 0) (mulOk_l p1 (2 + v1) (by omega) (by omega)) (mulOk_l q1 (2 + v1) (by omega) (by omega)) (k1 (2 + v1) (by omega) (by omega)) ff
  have z9 := r9_ok n (z := dc x5 b y5) (t := pr m1 m2) (k := .int (2 + v1)) (f := .int (100000000000 + v2)) (u := some (pr A3 B3)) (v := some (pr A3 B3)) (p1 := p1) (q1 := q1) (a1 := A1) (b1 := B1) (xs := [pr A2 B2, pr A3 B3]) (ys := [pr p2 q2, pr p3 q3])
  have z10 := fun d0 d1 d2 d3 d4 d5 d6 => r10_ok n (z := dc x5 b y5) (y := .lst false [pr p1 q1, pr p2 q2, pr p3 q3]) (x := .lst false [pr A1 B1, pr A2 B2, pr A3 B3]) (t := pr m1 m2) (k := .int (2 + v1)) (f := .int (100000000000 + v2)) (u := some (pr A3 B3)) (v := some (pr A3 B3)) (d0 := d0) (d1 := d1) (d2 := d2) (d3 := d3) (d4 := d4) (d5 := d5) (d6 := d6)
  have z11 := fun l => r11_ok n (z := dc x5 b y5) (x := .lst false [pr A1 B1, pr A2 B2, pr A3 B3]) (t := pr m1 m2) (l := l) (k := .int (2 + v1)) (f := .int (100000000000 + v2)) (u := some (pr A3 B3)) (v := some (pr A3 B3)) (ys := [pr p2 q2, pr p3 q3]) (lowest_ok (n + 4) p1 q1 (by omega) (by omega) (by omega))
  obtain ⟨rr, z12⟩ := r12_ok n (z := dc x5 b y5) (y := .lst false [pr p1 q1, pr p2 q2, pr p3 q3]) (x := .lst false [pr A1 B1, pr A2 B2, pr A3 B3]) (t := pr m1 m2) (k := .int (2 + v1)) (f := .int (100000000000 + v2)) (u := some (pr A3 B3)) (v := some (pr A3 B3)) (p1 := p1) (q1 := q1) (b := decide (Int.gcd p1 q1 = 1)) L1 (by omega) (by rw [decide_eq_true (show (1 : Int) ≤ q1 by omega)]; rfl)
  refine ⟨x5, y5, ?_⟩
  rw [run_s _ 18 F18 _ rfl, F18_body]
  have zz : evSs (CE (n + 5)) wh [R0, R1, R2, R3, R4, R5, R6, R7, R8, R9, R10, R11, R12] [some (dc a b c), none, none, none, none, none, none, none, none, none, none] = .rt (.bl true) (some (dc x5 b y5) :: rr) := by
    rw [ess_cons, z0, seq_nx, ess_cons, z1, seq_nx, ess_cons, z2, seq_nx, ess_cons, z3, seq_nx, ess_cons, z4, seq_nx, ess_cons, z5, seq_nx, ess_cons, z6, seq_nx, ess_cons, z7, seq_nx, ess_cons, z8, seq_nx, ess_cons, z9, seq_nx, ess_cons, z10, seq_nx, ess_cons, z11, seq_nx, ess_cons, z12, seq_rt]
  exact fn_rt rfl (by decide) zz rfl
end YL
set_option Elab.async false
set_option linter.all false
set_option maxRecDepth 100000
set_option maxHeartbeats 4000000
/-! P01e: the places. -/
namespace YL
open PySem L2 Y YV
def Q0 : Sx := .asg (.nm 1) (.join (.cst (.str "")) (.lc (.call 12 [.lv 0, (.lst [(.cst (.str "a")), (.cst (.str "b")), (.cst (.str "z"))])]) (.nm 3) [3] (.rng1 (.bin .add (.cst (.int 1)) (.call 11 [.lv 0, (.cst (.int 8))]))) []))
def Q1 : Sx := .asg (.nm 2) (.lst [(.var 1), (.bin .add (.var 1) (.cst (.str "qqqqqqqq"))), (.bin .add (.var 1) (.cst (.str "A"))), (.cst (.str "")), (.bin .add (.var 1) (.cst (.str " "))), (.tup [(.var 1)]), (.cst .non), (.cst (.int 0)), (.cst (.bl true)), (.lst [(.var 1)]), .nd, (.bin .add (.var 1) (.cst (.str "1")))])
def Q2 : Sx := .ret (.cmp .eq (.lc (.call 19 [(.var 4)]) (.nm 4) [4] (.seq (.var 2)) []) (.bin .add (.lst [(.cst (.bl true))]) (.bin .mul (.lst [(.cst (.bl false))]) (.cst (.int 11)))))

theorem F20_body : F20 = ⟨5, 1, [0], [Q0, Q1, Q2]⟩ := rfl
abbrev abc : Str := "abcdefghijklmnopqrstuvwxyz"
def sgn (c : Nat) : Str := ⟨#[c]⟩
def inL (c : Nat) : Bool := !(Builtin.Str.occurrences abc (sgn c) 0 abc.length 1).isEmpty
theorem bools_map : ∀ bs : List Bool, bools (bs.map D.bl) = some bs
  | [] => rfl
  | b :: bs => by
    rw [List.map_cons]
    unfold bools
    rw [bools_map bs]
theorem bools_comp (f : Nat → Bool) (cs : List Nat) : bools (cs.map (D.bl ∘ f)) = some (cs.map f) := by
  rw [← bools_map (cs.map f), List.map_map]
theorem texts_map : ∀ ss : List Str, texts (ss.map D.str) = some ss
  | [] => rfl
  | b :: bs => by
    rw [List.map_cons]
    unfold texts
    rw [texts_map bs]
theorem lc_let (C : Y.Env) (v : Option D) : ∀ (cs : List Nat) (acc : List Bool), lcGo (lcStep C (.cmp .in_ (.var 1) (.glb "LETTERS" (.str "abcdefghijklmnopqrstuvwxyz"))) (.nm 1) [1] []) (cs.map fun c => .str (sgn c)) (acc.map D.bl) [v, none] = .ok ((acc ++ cs.map inL).map D.bl) [v, none]
  | [], acc => by simp [lc_nil]
  | c :: cs, acc => by
    have ih := lc_let C v cs (acc ++ [inL c])
    have st : lcStep C (.cmp .in_ (.var 1) (.glb "LETTERS" (.str "abcdefghijklmnopqrstuvwxyz"))) (.nm 1) [1] [] (.str (sgn c)) [v, none] = .ok (some (.bl (inL c))) [v, none] := by
      simp [ev_var, ev_cst, ev_glb, ev_tup, ev_lst, ev_bin, ev_neg, ev_not, ev_cmp, ev_chain, ev_and, ev_or, ev_ife, ev_idx, ev_idxV, ev_call, ev_blt, ev_join, ev_lrng, ev_lc, ev_callS, ev_nd, lc_nil, lc_cons, lcStep, tg_nm, tg_tp, tgs_nil, tgs_cons, es_expr, es_nm, es_tp, es_par, es_set, es_ret, es_if, es_while, es_for, for_nil, for_cons, body_ap, ess_nil, ess_cons, el_ok, seq_nx, seq_rt, of_some, asB_bl, evL, evA, evT, evI, getS, fz_int, fz_bl, fz_str, fz_non, fz_ty, fz_tup, fz_lst, fz_wls, fz_dct, opD, addD, subD, mulD, fdivD, modD, powD, cmD, ltD, leD, gtD, geD, bltD, intD, absD, lenD, max2D, min2D, idxD, seqOf, atI, ixN, outsOf, lentS, lend, back, mulOk_l, mulOk_r, mulOk_mod, eqD_int, isiLD, isiD, isiTy, tyD, List.lookup, szl, wip, unwip, CE_run, io_0, io_1, io_2, io_3, io_4, io_5, io_6, io_7, io_8, io_9, io_10, io_11, io_12, io_13, io_14, io_15, io_16, io_17, io_18, io_19, io_20, io_21, inOf, inL]
    rw [List.map_cons, lc_cons, st, el_ok]
    have e : acc.map D.bl ++ [D.bl (inL c)] = (acc ++ [inL c]).map D.bl := by simp
    dsimp only
    rw [e, ih]
    simp
theorem place_ok (n : Nat) (s : Str) (h : s.length ≤ 100) : runP wh fnT (n + 1) 19 [.str s] = .ok (.bl (decide (1 ≤ s.length) && (decide (s.length ≤ 8) && s.cps.toList.all inL))) [] := by
  have hs : s.cps.size ≤ 16777216 := by
    have : s.length = s.cps.size := rfl
    omega
  have hs2 : s.length ≤ 16777216 := by omega
  have hlc : evO (CE n) (.lc (.cmp .in_ (.var 1) (.glb "LETTERS" (.str "abcdefghijklmnopqrstuvwxyz"))) (.nm 1) [1] (.seq (.var 0)) []) [some (.str s), none] = .ok (.lst true ((s.cps.toList.map inL).map D.bl)) [some (.str s), none] := by
    have e := lc_let (CE n) (some (.str s)) s.cps.toList []
    have hI : evI (CE n) (.seq (.var 0)) [some (.str s), none] = .ok (s.cps.toList.map fun c => .str (sgn c)) [some (.str s), none] := by
      simp [ev_var, ev_cst, ev_glb, ev_tup, ev_lst, ev_bin, ev_neg, ev_not, ev_cmp, ev_chain, ev_and, ev_or, ev_ife, ev_idx, ev_idxV, ev_call, ev_blt, ev_join, ev_lrng, ev_lc, ev_callS, ev_nd, lc_nil, lc_cons, lcStep, tg_nm, tg_tp, tgs_nil, tgs_cons, es_expr, es_nm, es_tp, es_par, es_set, es_ret, es_if, es_while, es_for, for_nil, for_cons, body_ap, ess_nil, ess_cons, el_ok, seq_nx, seq_rt, of_some, asB_bl, evL, evA, evT, evI, getS, fz_int, fz_bl, fz_str, fz_non, fz_ty, fz_tup, fz_lst, fz_wls, fz_dct, opD, addD, subD, mulD, fdivD, modD, powD, cmD, ltD, leD, gtD, geD, bltD, intD, absD, lenD, max2D, min2D, idxD, seqOf, atI, ixN, outsOf, lentS, lend, back, mulOk_l, mulOk_r, mulOk_mod, eqD_int, isiLD, isiD, isiTy, tyD, List.lookup, szl, wip, unwip, CE_run, io_0, io_1, io_2, io_3, io_4, io_5, io_6, io_7, io_8, io_9, io_10, io_11, io_12, io_13, io_14, io_15, io_16, io_17, io_18, io_19, io_20, io_21, seqD, hs]
      intro a _
      rfl
    rw [ev_lc, hI]
    show (lcGo _ (s.cps.toList.map fun c => .str (sgn c)) [] [some (.str s), none]).el _ _ _ = _
    rw [List.map_nil, List.nil_append] at e
    rw [e]
    rfl
  rw [run_s _ 19 F19 _ rfl]
  unfold F19
  generalize (Ex.lc (.cmp .in_ (.var 1) (.glb "LETTERS" (.str "abcdefghijklmnopqrstuvwxyz"))) (.nm 1) [1] (.seq (.var 0)) []) = LC at hlc ⊢
  by_cases h1 : 1 ≤ s.length
  · by_cases h2 : s.length ≤ 8
    · have h1' : (1 : Int) ≤ s.length := by omega
      have h2' : (s.length : Int) ≤ 8 := by omega
      simp [fnGo, ev_var, ev_cst, ev_glb, ev_tup, ev_lst, ev_bin, ev_neg, ev_not, ev_cmp, ev_chain, ev_and, ev_or, ev_ife, ev_idx, ev_idxV, ev_call, ev_blt, ev_join, ev_lrng, ev_lc, ev_callS, ev_nd, lc_nil, lc_cons, lcStep, tg_nm, tg_tp, tgs_nil, tgs_cons, es_expr, es_nm, es_tp, es_par, es_set, es_ret, es_if, es_while, es_for, for_nil, for_cons, body_ap, ess_nil, ess_cons, el_ok, seq_nx, seq_rt, of_some, asB_bl, evL, evA, evT, evI, getS, fz_int, fz_bl, fz_str, fz_non, fz_ty, fz_tup, fz_lst, fz_wls, fz_dct, opD, addD, subD, mulD, fdivD, modD, powD, cmD, ltD, leD, gtD, geD, bltD, intD, absD, lenD, max2D, min2D, idxD, seqOf, atI, ixN, outsOf, lentS, lend, back, mulOk_l, mulOk_r, mulOk_mod, eqD_int, isiLD, isiD, isiTy, tyD, List.lookup, szl, wip, unwip, CE_run, io_0, io_1, io_2, io_3, io_4, io_5, io_6, io_7, io_8, io_9, io_10, io_11, io_12, io_13, io_14, io_15, io_16, io_17, io_18, io_19, io_20, io_21, hlc, allD, bools_map, bools_comp, h1, h2, h1', h2', hs2]
    · have h1' : (1 : Int) ≤ s.length := by omega
      have h2' : ¬ (s.length : Int) ≤ 8 := by omega
      simp [fnGo, ev_var, ev_cst, ev_glb, ev_tup, ev_lst, ev_bin, ev_neg, ev_not, ev_cmp, ev_chain, ev_and, ev_or, ev_ife, ev_idx, ev_idxV, ev_call, ev_blt, ev_join, ev_lrng, ev_lc, ev_callS, ev_nd, lc_nil, lc_cons, lcStep, tg_nm, tg_tp, tgs_nil, tgs_cons, es_expr, es_nm, es_tp, es_par, es_set, es_ret, es_if, es_while, es_for, for_nil, for_cons, body_ap, ess_nil, ess_cons, el_ok, seq_nx, seq_rt, of_some, asB_bl, evL, evA, evT, evI, getS, fz_int, fz_bl, fz_str, fz_non, fz_ty, fz_tup, fz_lst, fz_wls, fz_dct, opD, addD, subD, mulD, fdivD, modD, powD, cmD, ltD, leD, gtD, geD, bltD, intD, absD, lenD, max2D, min2D, idxD, seqOf, atI, ixN, outsOf, lentS, lend, back, mulOk_l, mulOk_r, mulOk_mod, eqD_int, isiLD, isiD, isiTy, tyD, List.lookup, szl, wip, unwip, CE_run, io_0, io_1, io_2, io_3, io_4, io_5, io_6, io_7, io_8, io_9, io_10, io_11, io_12, io_13, io_14, io_15, io_16, io_17, io_18, io_19, io_20, io_21, hlc, allD, bools_map, bools_comp, h1, h2, h1', h2', hs2]
  · have h1' : ¬ (1 : Int) ≤ s.length := by omega
    simp [fnGo, ev_var, ev_cst, ev_glb, ev_tup, ev_lst, ev_bin, ev_neg, ev_not, ev_cmp, ev_chain, ev_and, ev_or, ev_ife, ev_idx, ev_idxV, ev_call, ev_blt, ev_join, ev_lrng, ev_lc, ev_callS, ev_nd, lc_nil, lc_cons, lcStep, tg_nm, tg_tp, tgs_nil, tgs_cons, es_expr, es_nm, es_tp, es_par, es_set, es_ret, es_if, es_while, es_for, for_nil, for_cons, body_ap, ess_nil, ess_cons, el_ok, seq_nx, seq_rt, of_some, asB_bl, evL, evA, evT, evI, getS, fz_int, fz_bl, fz_str, fz_non, fz_ty, fz_tup, fz_lst, fz_wls, fz_dct, opD, addD, subD, mulD, fdivD, modD, powD, cmD, ltD, leD, gtD, geD, bltD, intD, absD, lenD, max2D, min2D, idxD, seqOf, atI, ixN, outsOf, lentS, lend, back, mulOk_l, mulOk_r, mulOk_mod, eqD_int, isiLD, isiD, isiTy, tyD, List.lookup, szl, wip, unwip, CE_run, io_0, io_1, io_2, io_3, io_4, io_5, io_6, io_7, io_8, io_9, io_10, io_11, io_12, io_13, io_14, io_15, io_16, io_17, io_18, io_19, io_20, io_21, hlc, allD, bools_map, bools_comp, h1, h1', hs2]
theorem plc_n (n : Nat) : runP wh fnT (n + 1) 19 [.non] = .ok (.bl false) [] := by
  rw [run_s _ 19 F19 _ rfl]
  simp [F19, fnGo, ev_var, ev_cst, ev_glb, ev_tup, ev_lst, ev_bin, ev_neg, ev_not, ev_cmp, ev_chain, ev_and, ev_or, ev_ife, ev_idx, ev_idxV, ev_call, ev_blt, ev_join, ev_lrng, ev_lc, ev_callS, ev_nd, lc_nil, lc_cons, lcStep, tg_nm, tg_tp, tgs_nil, tgs_cons, es_expr, es_nm, es_tp, es_par, es_set, es_ret, es_if, es_while, es_for, for_nil, for_cons, body_ap, ess_nil, ess_cons, el_ok, seq_nx, seq_rt, of_some, asB_bl, evL, evA, evT, evI, getS, fz_int, fz_bl, fz_str, fz_non, fz_ty, fz_tup, fz_lst, fz_wls, fz_dct, opD, addD, subD, mulD, fdivD, modD, powD, cmD, ltD, leD, gtD, geD, bltD, intD, absD, lenD, max2D, min2D, idxD, seqOf, atI, ixN, outsOf, lentS, lend, back, mulOk_l, mulOk_r, mulOk_mod, eqD_int, isiLD, isiD, isiTy, tyD, List.lookup, szl, wip, unwip, CE_run, io_0, io_1, io_2, io_3, io_4, io_5, io_6, io_7, io_8, io_9, io_10, io_11, io_12, io_13, io_14, io_15, io_16, io_17, io_18, io_19, io_20, io_21]
theorem plc_i (n : Nat) (i : Int) : runP wh fnT (n + 1) 19 [.int i] = .ok (.bl false) [] := by
  rw [run_s _ 19 F19 _ rfl]
  simp [F19, fnGo, ev_var, ev_cst, ev_glb, ev_tup, ev_lst, ev_bin, ev_neg, ev_not, ev_cmp, ev_chain, ev_and, ev_or, ev_ife, ev_idx, ev_idxV, ev_call, ev_blt, ev_join, ev_lrng, ev_lc, ev_callS, ev_nd, lc_nil, lc_cons, lcStep, tg_nm, tg_tp, tgs_nil, tgs_cons, es_expr, es_nm, es_tp, es_par, es_set, es_ret, es_if, es_while, es_for, for_nil, for_cons, body_ap, ess_nil, ess_cons, el_ok, seq_nx, seq_rt, of_some, asB_bl, evL, evA, evT, evI, getS, fz_int, fz_bl, fz_str, fz_non, fz_ty, fz_tup, fz_lst, fz_wls, fz_dct, opD, addD, subD, mulD, fdivD, modD, powD, cmD, ltD, leD, gtD, geD, bltD, intD, absD, lenD, max2D, min2D, idxD, seqOf, atI, ixN, outsOf, lentS, lend, back, mulOk_l, mulOk_r, mulOk_mod, eqD_int, isiLD, isiD, isiTy, tyD, List.lookup, szl, wip, unwip, CE_run, io_0, io_1, io_2, io_3, io_4, io_5, io_6, io_7, io_8, io_9, io_10, io_11, io_12, io_13, io_14, io_15, io_16, io_17, io_18, io_19, io_20, io_21]
theorem plc_b (n : Nat) (i : Bool) : runP wh fnT (n + 1) 19 [.bl i] = .ok (.bl false) [] := by
  rw [run_s _ 19 F19 _ rfl]
  simp [F19, fnGo, ev_var, ev_cst, ev_glb, ev_tup, ev_lst, ev_bin, ev_neg, ev_not, ev_cmp, ev_chain, ev_and, ev_or, ev_ife, ev_idx, ev_idxV, ev_call, ev_blt, ev_join, ev_lrng, ev_lc, ev_callS, ev_nd, lc_nil, lc_cons, lcStep, tg_nm, tg_tp, tgs_nil, tgs_cons, es_expr, es_nm, es_tp, es_par, es_set, es_ret, es_if, es_while, es_for, for_nil, for_cons, body_ap, ess_nil, ess_cons, el_ok, seq_nx, seq_rt, of_some, asB_bl, evL, evA, evT, evI, getS, fz_int, fz_bl, fz_str, fz_non, fz_ty, fz_tup, fz_lst, fz_wls, fz_dct, opD, addD, subD, mulD, fdivD, modD, powD, cmD, ltD, leD, gtD, geD, bltD, intD, absD, lenD, max2D, min2D, idxD, seqOf, atI, ixN, outsOf, lentS, lend, back, mulOk_l, mulOk_r, mulOk_mod, eqD_int, isiLD, isiD, isiTy, tyD, List.lookup, szl, wip, unwip, CE_run, io_0, io_1, io_2, io_3, io_4, io_5, io_6, io_7, io_8, io_9, io_10, io_11, io_12, io_13, io_14, io_15, io_16, io_17, io_18, io_19, io_20, io_21]
theorem plc_t (n : Nat) (i : List D) : runP wh fnT (n + 1) 19 [.tup i] = .ok (.bl false) [] := by
  rw [run_s _ 19 F19 _ rfl]
  simp [F19, fnGo, ev_var, ev_cst, ev_glb, ev_tup, ev_lst, ev_bin, ev_neg, ev_not, ev_cmp, ev_chain, ev_and, ev_or, ev_ife, ev_idx, ev_idxV, ev_call, ev_blt, ev_join, ev_lrng, ev_lc, ev_callS, ev_nd, lc_nil, lc_cons, lcStep, tg_nm, tg_tp, tgs_nil, tgs_cons, es_expr, es_nm, es_tp, es_par, es_set, es_ret, es_if, es_while, es_for, for_nil, for_cons, body_ap, ess_nil, ess_cons, el_ok, seq_nx, seq_rt, of_some, asB_bl, evL, evA, evT, evI, getS, fz_int, fz_bl, fz_str, fz_non, fz_ty, fz_tup, fz_lst, fz_wls, fz_dct, opD, addD, subD, mulD, fdivD, modD, powD, cmD, ltD, leD, gtD, geD, bltD, intD, absD, lenD, max2D, min2D, idxD, seqOf, atI, ixN, outsOf, lentS, lend, back, mulOk_l, mulOk_r, mulOk_mod, eqD_int, isiLD, isiD, isiTy, tyD, List.lookup, szl, wip, unwip, CE_run, io_0, io_1, io_2, io_3, io_4, io_5, io_6, io_7, io_8, io_9, io_10, io_11, io_12, io_13, io_14, io_15, io_16, io_17, io_18, io_19, io_20, io_21]
theorem plc_l (n : Nat) (o : Bool) (i : List D) : runP wh fnT (n + 1) 19 [.lst o i] = .ok (.bl false) [] := by
  rw [run_s _ 19 F19 _ rfl]
  simp [F19, fnGo, ev_var, ev_cst, ev_glb, ev_tup, ev_lst, ev_bin, ev_neg, ev_not, ev_cmp, ev_chain, ev_and, ev_or, ev_ife, ev_idx, ev_idxV, ev_call, ev_blt, ev_join, ev_lrng, ev_lc, ev_callS, ev_nd, lc_nil, lc_cons, lcStep, tg_nm, tg_tp, tgs_nil, tgs_cons, es_expr, es_nm, es_tp, es_par, es_set, es_ret, es_if, es_while, es_for, for_nil, for_cons, body_ap, ess_nil, ess_cons, el_ok, seq_nx, seq_rt, of_some, asB_bl, evL, evA, evT, evI, getS, fz_int, fz_bl, fz_str, fz_non, fz_ty, fz_tup, fz_lst, fz_wls, fz_dct, opD, addD, subD, mulD, fdivD, modD, powD, cmD, ltD, leD, gtD, geD, bltD, intD, absD, lenD, max2D, min2D, idxD, seqOf, atI, ixN, outsOf, lentS, lend, back, mulOk_l, mulOk_r, mulOk_mod, eqD_int, isiLD, isiD, isiTy, tyD, List.lookup, szl, wip, unwip, CE_run, io_0, io_1, io_2, io_3, io_4, io_5, io_6, io_7, io_8, io_9, io_10, io_11, io_12, io_13, io_14, io_15, io_16, io_17, io_18, io_19, io_20, io_21]
theorem plc_d (n : Nat) (o : Bool) : runP wh fnT (n + 1) 19 [.dct o []] = .ok (.bl false) [] := by
  rw [run_s _ 19 F19 _ rfl]
  simp [F19, fnGo, ev_var, ev_cst, ev_glb, ev_tup, ev_lst, ev_bin, ev_neg, ev_not, ev_cmp, ev_chain, ev_and, ev_or, ev_ife, ev_idx, ev_idxV, ev_call, ev_blt, ev_join, ev_lrng, ev_lc, ev_callS, ev_nd, lc_nil, lc_cons, lcStep, tg_nm, tg_tp, tgs_nil, tgs_cons, es_expr, es_nm, es_tp, es_par, es_set, es_ret, es_if, es_while, es_for, for_nil, for_cons, body_ap, ess_nil, ess_cons, el_ok, seq_nx, seq_rt, of_some, asB_bl, evL, evA, evT, evI, getS, fz_int, fz_bl, fz_str, fz_non, fz_ty, fz_tup, fz_lst, fz_wls, fz_dct, opD, addD, subD, mulD, fdivD, modD, powD, cmD, ltD, leD, gtD, geD, bltD, intD, absD, lenD, max2D, min2D, idxD, seqOf, atI, ixN, outsOf, lentS, lend, back, mulOk_l, mulOk_r, mulOk_mod, eqD_int, isiLD, isiD, isiTy, tyD, List.lookup, szl, wip, unwip, CE_run, io_0, io_1, io_2, io_3, io_4, io_5, io_6, io_7, io_8, io_9, io_10, io_11, io_12, io_13, io_14, io_15, io_16, io_17, io_18, io_19, io_20, io_21]
theorem draws (n : Nat) (b : Int) : ∀ (is acc : List D) (a c : Int), ∃ (cs : List Nat) (a' c' : Int), cs.length = is.length ∧ (∀ x ∈ cs, x = 97 ∨ x = 98 ∨ x = 122) ∧ lcGo (lcStep (CE (n + 2)) (.call 12 [.lv 0, (.lst [(.cst (.str "a")), (.cst (.str "b")), (.cst (.str "z"))])]) (.nm 3) [3] []) is acc [some (dc a b c), none, none, none, none] = .ok (acc ++ cs.map fun c => .str (sgn c)) [some (dc a' b c'), none, none, none, none]
  | [], acc, a, c => ⟨[], a, c, rfl, fun _ h => (nomatch h), by simp [lc_nil]⟩
  | i :: is, acc, a, c => by
    obtain ⟨x, a1, c1, hx, e1⟩ := one_of_ok n a b c [.str "a", .str "b", .str "z"] (by simp) (by simp) false
    obtain ⟨k, hk, ek⟩ : ∃ k, (k = 97 ∨ k = 98 ∨ k = 122) ∧ x = .str (sgn k) := by
      simp only [List.mem_cons, List.not_mem_nil, or_false] at hx
      rcases hx with rfl | rfl | rfl
      · exact ⟨97, .inl rfl, rfl⟩
      · exact ⟨98, .inr (.inl rfl), rfl⟩
      · exact ⟨122, .inr (.inr rfl), rfl⟩
    subst ek
    rw [fz_str] at e1
    obtain ⟨cs, a2, c2, h1, h2, e2⟩ := draws n b is (acc ++ [.str (sgn k)]) a1 c1
    refine ⟨k :: cs, a2, c2, by simp [h1], fun y hy => ?_, ?_⟩
    · rcases List.mem_cons.mp hy with rfl | hy
      · exact hk
      · exact h2 y hy
    · have st : lcStep (CE (n + 2)) (.call 12 [.lv 0, (.lst [(.cst (.str "a")), (.cst (.str "b")), (.cst (.str "z"))])]) (.nm 3) [3] [] i [some (dc a b c), none, none, none, none] = .ok (some (.str (sgn k))) [some (dc a1 b c1), none, none, none, none] := by
        simp [ev_var, ev_cst, ev_glb, ev_tup, ev_lst, ev_bin, ev_neg, ev_not, ev_cmp, ev_chain, ev_and, ev_or, ev_ife, ev_idx, ev_idxV, ev_call, ev_blt, ev_join, ev_lrng, ev_lc, ev_callS, ev_nd, lc_nil, lc_cons, lcStep, tg_nm, tg_tp, tgs_nil, tgs_cons, es_expr, es_nm, es_tp, es_par, es_set, es_ret, es_if, es_while, es_for, for_nil, for_cons, body_ap, ess_nil, ess_cons, el_ok, seq_nx, seq_rt, of_some, asB_bl, evL, evA, evT, evI, getS, fz_int, fz_bl, fz_str, fz_non, fz_ty, fz_tup, fz_lst, fz_wls, fz_dct, opD, addD, subD, mulD, fdivD, modD, powD, cmD, ltD, leD, gtD, geD, bltD, intD, absD, lenD, max2D, min2D, idxD, seqOf, atI, ixN, outsOf, lentS, lend, back, mulOk_l, mulOk_r, mulOk_mod, eqD_int, isiLD, isiD, isiTy, tyD, List.lookup, szl, wip, unwip, CE_run, io_0, io_1, io_2, io_3, io_4, io_5, io_6, io_7, io_8, io_9, io_10, io_11, io_12, io_13, io_14, io_15, io_16, io_17, io_18, io_19, io_20, io_21, e1]
      rw [lc_cons, st, el_ok]
      dsimp only
      rw [e2]
      simp
theorem join_sgn : ∀ cs : List Nat, (Str.join "" (cs.map sgn)).cps.toList = cs
  | [] => rfl
  | [c] => rfl
  | c :: d :: cs => by
    have ih := join_sgn (d :: cs)
    show ((sgn c ++ "" ++ Str.join "" ((d :: cs).map sgn) : Str)).cps.toList = _
    show ((#[c] ++ #[]) ++ (Str.join "" ((d :: cs).map sgn)).cps).toList = _
    simp only [Array.toList_append, ih]
    rfl
theorem join_txt (cs : List Nat) : (Txt.join "" (cs.map sgn)).cps.toList = cs := by
  have e : Txt.join "" (cs.map sgn) = Str.join "" (cs.map sgn) := by
    show Builtin.Str.glued "" (cs.map sgn) = _
    rw [StrLaws.glued_eq_join]
  rw [e]
  exact join_sgn cs
theorem inL_low {x : Nat} (h : x = 97 ∨ x = 98 ∨ x = 122) : inL x = true := by
  rcases h with rfl | rfl | rfl <;> decide +kernel
theorem all_low (cs : List Nat) (h : ∀ x ∈ cs, x = 97 ∨ x = 98 ∨ x = 122) : cs.all inL = true := by
  rw [List.all_eq_true]
  exact fun x hx => inL_low (h x hx)
theorem more_bad (n : Nat) (s t : Str) (c : Nat) (e : t = sgn c) (hc : inL c = false) (h : s.length ≤ 8) : runP wh fnT (n + 1) 19 [.str (s ++ t)] = .ok (.bl false) [] := by
  subst e
  have hl : (s ++ sgn c : Str).length = s.length + 1 := by
    show (s.cps ++ #[c]).size = s.cps.size + 1
    simp
  have ha : (s ++ sgn c : Str).cps.toList.all inL = false := by
    show (s.cps ++ #[c]).toList.all inL = false
    simp [hc]
  rw [place_ok n _ (by omega), ha]
  simp
theorem more_long (n : Nat) (s : Str) (h0 : 1 ≤ s.length) (h : s.length ≤ 8) : runP wh fnT (n + 1) 19 [.str (s ++ "qqqqqqqq")] = .ok (.bl false) [] := by
  have hl : (s ++ "qqqqqqqq" : Str).length = s.length + 8 := by
    show (s.cps ++ ("qqqqqqqq" : Str).cps).size = s.cps.size + 8
    rw [Array.size_append]
    rfl
  rw [place_ok n _ (by omega), hl]
  have : ¬ (s.length + 8 ≤ 8) := by omega
  simp [this]
theorem rep11 : (List.replicate 11 [D.bl false]).flatten = [.bl false, .bl false, .bl false, .bl false, .bl false, .bl false, .bl false, .bl false, .bl false, .bl false, .bl false] := rfl
theorem places_ok (n : Nat) (a b c : Int) : ∃ a' c', runP wh fnT (n + 3) 20 [dc a b c] = .ok (.bl true) [dc a' b c'] := by
  obtain ⟨v, a1, c1, e1, v0, v1⟩ := roll_ok (n + 1) a b c 8 (by omega) (by omega)
  have er : rngD (.int 0) (.int (1 + v)) = some ((List.range (1 + v - 0).toNat).map fun (i : Nat) => .int (0 + i)) := by
    unfold rngD
    dsimp only
    rw [if_pos ⟨by omega, by omega, by omega, by omega, by omega⟩]
  obtain ⟨cs, a2, c2, hl, hm, e2⟩ := draws n b ((List.range (1 + v - 0).toNat).map fun (i : Nat) => .int (0 + i)) [] a1 c1
  rw [List.length_map, List.length_range] at hl
  refine ⟨a2, c2, ?_⟩
  have hlc : evO (CE (n + 2)) (.lc (.call 12 [.lv 0, (.lst [(.cst (.str "a")), (.cst (.str "b")), (.cst (.str "z"))])]) (.nm 3) [3] (.rng1 (.bin .add (.cst (.int 1)) (.call 11 [.lv 0, (.cst (.int 8))]))) []) [some (dc a b c), none, none, none, none] = .ok (.lst true (cs.map fun c => .str (sgn c))) [some (dc a2 b c2), none, none, none, none] := by
    have hI : evI (CE (n + 2)) (.rng1 (.bin .add (.cst (.int 1)) (.call 11 [.lv 0, (.cst (.int 8))]))) [some (dc a b c), none, none, none, none] = .ok ((List.range (1 + v - 0).toNat).map fun (i : Nat) => .int (0 + i)) [some (dc a1 b c1), none, none, none, none] := by
      simp [ev_var, ev_cst, ev_glb, ev_tup, ev_lst, ev_bin, ev_neg, ev_not, ev_cmp, ev_chain, ev_and, ev_or, ev_ife, ev_idx, ev_idxV, ev_call, ev_blt, ev_join, ev_lrng, ev_lc, ev_callS, ev_nd, lc_nil, lc_cons, lcStep, tg_nm, tg_tp, tgs_nil, tgs_cons, es_expr, es_nm, es_tp, es_par, es_set, es_ret, es_if, es_while, es_for, for_nil, for_cons, body_ap, ess_nil, ess_cons, el_ok, seq_nx, seq_rt, of_some, asB_bl, evL, evA, evT, evI, getS, fz_int, fz_bl, fz_str, fz_non, fz_ty, fz_tup, fz_lst, fz_wls, fz_dct, opD, addD, subD, mulD, fdivD, modD, powD, cmD, ltD, leD, gtD, geD, bltD, intD, absD, lenD, max2D, min2D, idxD, seqOf, atI, ixN, outsOf, lentS, lend, back, mulOk_l, mulOk_r, mulOk_mod, eqD_int, isiLD, isiD, isiTy, tyD, List.lookup, szl, wip, unwip, CE_run, io_0, io_1, io_2, io_3, io_4, io_5, io_6, io_7, io_8, io_9, io_10, io_11, io_12, io_13, io_14, io_15, io_16, io_17, io_18, io_19, io_20, io_21, e1]
      rw [er]
      simp [ev_var, ev_cst, ev_glb, ev_tup, ev_lst, ev_bin, ev_neg, ev_not, ev_cmp, ev_chain, ev_and, ev_or, ev_ife, ev_idx, ev_idxV, ev_call, ev_blt, ev_join, ev_lrng, ev_lc, ev_callS, ev_nd, lc_nil, lc_cons, lcStep, tg_nm, tg_tp, tgs_nil, tgs_cons, es_expr, es_nm, es_tp, es_par, es_set, es_ret, es_if, es_while, es_for, for_nil, for_cons, body_ap, ess_nil, ess_cons, el_ok, seq_nx, seq_rt, of_some, asB_bl, evL, evA, evT, evI, getS, fz_int, fz_bl, fz_str, fz_non, fz_ty, fz_tup, fz_lst, fz_wls, fz_dct, opD, addD, subD, mulD, fdivD, modD, powD, cmD, ltD, leD, gtD, geD, bltD, intD, absD, lenD, max2D, min2D, idxD, seqOf, atI, ixN, outsOf, lentS, lend, back, mulOk_l, mulOk_r, mulOk_mod, eqD_int, isiLD, isiD, isiTy, tyD, List.lookup, szl, wip, unwip, CE_run, io_0, io_1, io_2, io_3, io_4, io_5, io_6, io_7, io_8, io_9, io_10, io_11, io_12, io_13, io_14, io_15, io_16, io_17, io_18, io_19, io_20, io_21]
    rw [ev_lc, hI]
    show (lcGo _ _ [] [some (dc a1 b c1), none, none, none, none]).el _ _ _ = _
    rw [e2]
    rfl
  obtain ⟨w, hw⟩ : ∃ w, w = Txt.join "" (cs.map sgn) := ⟨_, rfl⟩
  have hc : w.cps.toList = cs := by rw [hw]; exact join_txt cs
  have wl : w.length = cs.length := by
    rw [← hc]
    show w.cps.size = w.cps.toList.length
    simp
  have ej : joinD (.str "") (.lst false (cs.map fun c => .str (sgn c))) = some (.str w) := by
    have et : texts (cs.map fun c => .str (sgn c)) = some (cs.map sgn) := by
      rw [← texts_map (cs.map sgn), List.map_map]
      rfl
    have es : ((cs.map sgn).map Str.length).sum = cs.length := by
      rw [List.map_map]
      show (cs.map fun _ => 1).sum = _
      clear hl hm e2 hlc hw hc wl et
      induction cs with
      | nil => rfl
      | cons x xs ih =>
        rw [List.map_cons, List.sum_cons, ih, List.length_cons]
        omega
    unfold joinD
    dsimp only
    rw [et]
    dsimp only
    rw [es, if_pos, hw]
    rw [List.length_map, show (("" : Str)).length = 0 from rfl]
    omega
  have z0 : evS (CE (n + 2)) wh Q0 [some (dc a b c), none, none, none, none] = .nx [some (dc a2 b c2), some (.str w), none, none, none] := by
    unfold Q0
    generalize (Ex.lc (.call 12 [.lv 0, (.lst [(.cst (.str "a")), (.cst (.str "b")), (.cst (.str "z"))])]) (.nm 3) [3] (.rng1 (.bin .add (.cst (.int 1)) (.call 11 [.lv 0, (.cst (.int 8))]))) []) = LC at hlc ⊢
    simp [ev_var, ev_cst, ev_glb, ev_tup, ev_lst, ev_bin, ev_neg, ev_not, ev_cmp, ev_chain, ev_and, ev_or, ev_ife, ev_idx, ev_idxV, ev_call, ev_blt, ev_join, ev_lrng, ev_lc, ev_callS, ev_nd, lc_nil, lc_cons, lcStep, tg_nm, tg_tp, tgs_nil, tgs_cons, es_expr, es_nm, es_tp, es_par, es_set, es_ret, es_if, es_while, es_for, for_nil, for_cons, body_ap, ess_nil, ess_cons, el_ok, seq_nx, seq_rt, of_some, asB_bl, evL, evA, evT, evI, getS, fz_int, fz_bl, fz_str, fz_non, fz_ty, fz_tup, fz_lst, fz_wls, fz_dct, opD, addD, subD, mulD, fdivD, modD, powD, cmD, ltD, leD, gtD, geD, bltD, intD, absD, lenD, max2D, min2D, idxD, seqOf, atI, ixN, outsOf, lentS, lend, back, mulOk_l, mulOk_r, mulOk_mod, eqD_int, isiLD, isiD, isiTy, tyD, List.lookup, szl, wip, unwip, CE_run, io_0, io_1, io_2, io_3, io_4, io_5, io_6, io_7, io_8, io_9, io_10, io_11, io_12, io_13, io_14, io_15, io_16, io_17, io_18, io_19, io_20, io_21, hlc, ej]
  have w0 : 1 ≤ w.length := by omega
  have w8 : w.length ≤ 8 := by omega
  have q1 : (("qqqqqqqq" : Str)).length = 8 := rfl
  have q2 : (("A" : Str)).length = 1 := rfl
  have q3 : ((" " : Str)).length = 1 := rfl
  have q4 : (("1" : Str)).length = 1 := rfl
  have u1 : w.length + 8 ≤ 16777216 := by omega
  have u2 : w.length + 1 ≤ 16777216 := by omega
  have z1 : evS (CE (n + 2)) wh Q1 [some (dc a2 b c2), some (.str w), none, none, none] = .nx [some (dc a2 b c2), some (.str w), some (.lst true [.str w, .str (w ++ "qqqqqqqq"), .str (w ++ "A"), .str "", .str (w ++ " "), .tup [.str w], .non, .int 0, .bl true, .lst false [.str w], .dct false [], .str (w ++ "1")]), none, none] := by
    simp [Q1, ev_var, ev_cst, ev_glb, ev_tup, ev_lst, ev_bin, ev_neg, ev_not, ev_cmp, ev_chain, ev_and, ev_or, ev_ife, ev_idx, ev_idxV, ev_call, ev_blt, ev_join, ev_lrng, ev_lc, ev_callS, ev_nd, lc_nil, lc_cons, lcStep, tg_nm, tg_tp, tgs_nil, tgs_cons, es_expr, es_nm, es_tp, es_par, es_set, es_ret, es_if, es_while, es_for, for_nil, for_cons, body_ap, ess_nil, ess_cons, el_ok, seq_nx, seq_rt, of_some, asB_bl, evL, evA, evT, evI, getS, fz_int, fz_bl, fz_str, fz_non, fz_ty, fz_tup, fz_lst, fz_wls, fz_dct, opD, addD, subD, mulD, fdivD, modD, powD, cmD, ltD, leD, gtD, geD, bltD, intD, absD, lenD, max2D, min2D, idxD, seqOf, atI, ixN, outsOf, lentS, lend, back, mulOk_l, mulOk_r, mulOk_mod, eqD_int, isiLD, isiD, isiTy, tyD, List.lookup, szl, wip, unwip, CE_run, io_0, io_1, io_2, io_3, io_4, io_5, io_6, io_7, io_8, io_9, io_10, io_11, io_12, io_13, io_14, io_15, io_16, io_17, io_18, io_19, io_20, io_21, q1, q2, q3, q4, u1, u2]
  have p0 := place_ok (n + 1) w (by omega)
  rw [hc, all_low cs hm, decide_eq_true w0, decide_eq_true w8] at p0
  have p1 := more_long (n + 1) w w0 w8
  have p2 := more_bad (n + 1) w "A" 65 rfl (by decide +kernel) w8
  have p3 := place_ok (n + 1) "" (by decide)
  rw [show decide (1 ≤ (("" : Str)).length) = false from rfl, Bool.false_and] at p3
  have p4 := more_bad (n + 1) w " " 32 rfl (by decide +kernel) w8
  have p5 := more_bad (n + 1) w "1" 49 rfl (by decide +kernel) w8
  have p6 := plc_t (n + 1) [.str w]
  have p7 := plc_n (n + 1)
  have p8 := plc_i (n + 1) 0
  have p9 := plc_b (n + 1) true
  have p10 := plc_l (n + 1) false [.str w]
  have p11 := plc_d (n + 1) false
  have ee : ∀ o o', eqD (.lst o [.bl true, .bl false, .bl false, .bl false, .bl false, .bl false, .bl false, .bl false, .bl false, .bl false, .bl false, .bl false]) (.lst o' [.bl true, .bl false, .bl false, .bl false, .bl false, .bl false, .bl false, .bl false, .bl false, .bl false, .bl false, .bl false]) = some true := fun o o' => eq_same (x := .list [.bool true, .bool false, .bool false, .bool false, .bool false, .bool false, .bool false, .bool false, .bool false, .bool false, .bool false, .bool false]) rfl rfl rfl
  have z2 : ∃ r, evS (CE (n + 2)) wh Q2 [some (dc a2 b c2), some (.str w), some (.lst true [.str w, .str (w ++ "qqqqqqqq"), .str (w ++ "A"), .str "", .str (w ++ " "), .tup [.str w], .non, .int 0, .bl true, .lst false [.str w], .dct false [], .str (w ++ "1")]), none, none] = .rt (.bl true) (some (dc a2 b c2) :: r) := by
    simp (maxSteps := 2000000) [Q2, ev_var, ev_cst, ev_glb, ev_tup, ev_lst, ev_bin, ev_neg, ev_not, ev_cmp, ev_chain, ev_and, ev_or, ev_ife, ev_idx, ev_idxV, ev_call, ev_blt, ev_join, ev_lrng, ev_lc, ev_callS, ev_nd, lc_nil, lc_cons, lcStep, tg_nm, tg_tp, tgs_nil, tgs_cons, es_expr, es_nm, es_tp, es_par, es_set, es_ret, es_if, es_while, es_for, for_nil, for_cons, body_ap, ess_nil, ess_cons, el_ok, seq_nx, seq_rt, of_some, asB_bl, evL, evA, evT, evI, getS, fz_int, fz_bl, fz_str, fz_non, fz_ty, fz_tup, fz_lst, fz_wls, fz_dct, opD, addD, subD, mulD, fdivD, modD, powD, cmD, ltD, leD, gtD, geD, bltD, intD, absD, lenD, max2D, min2D, idxD, seqOf, atI, ixN, outsOf, lentS, lend, back, mulOk_l, mulOk_r, mulOk_mod, eqD_int, isiLD, isiD, isiTy, tyD, List.lookup, szl, wip, unwip, CE_run, io_0, io_1, io_2, io_3, io_4, io_5, io_6, io_7, io_8, io_9, io_10, io_11, io_12, io_13, io_14, io_15, io_16, io_17, io_18, io_19, io_20, io_21, seqD, p0, p1, p2, p3, p4, p5, p6, p7, p8, p9, p10, p11, rep11, ee]
  obtain ⟨rr, z2⟩ := z2
  rw [run_s _ 20 F20 _ rfl, F20_body]
  have zz : evSs (CE (n + 2)) wh [Q0, Q1, Q2] [some (dc a b c), none, none, none, none] = .rt (.bl true) (some (dc a2 b c2) :: rr) := by
    rw [ess_cons, z0, seq_nx, ess_cons, z1, seq_nx, ess_cons, z2, seq_rt]
  exact fn_rt rfl (by decide) zz rfl
end YL
set_option Elab.async false
set_option linter.all false
set_option maxRecDepth 100000
set_option maxHeartbeats 4000000
/-! P01f: the law. -/
namespace YL
open PySem L2 Y YV
def W0 : Sx := .for (.nm 1) (.rng1 (.blt .max2 [(.cst (.int 1)), (.blt .min2 [(.cst (.int 8)), (.blt .len [(.var 0)])])])) [.asg (.nm 3) (.call 0 [(.var 0), (.var 1)]), .ifs (.or (.not (.call 18 [.lv 3])) (.not (.call 20 [.lv 3]))) [.ret (.cst (.bl false))] []]
def W1 : Sx := .asg (.nm 2) (.lst [(.call 5 [(.cst (.int 6)), (.cst (.int 4))]), (.call 5 [(.neg (.cst (.int 2))), (.cst (.int 6))]), (.call 5 [(.cst (.int 0)), (.cst (.int 7))]), (.callS 10 [(.tup [(.cst (.int 1)), (.cst (.int 2))]), (.tup [(.cst (.int 2)), (.cst (.int 3))]), (.tup [(.cst (.int 3)), (.cst (.int 5))])]), (.glb "MAX_LETTERS" (.int 8))])
def W2 : Sx := .ret (.cmp .eq (.var 2) (.lst [(.tup [(.cst (.int 3)), (.cst (.int 2))]), (.tup [(.neg (.cst (.int 1))), (.cst (.int 3))]), (.tup [(.cst (.int 0)), (.cst (.int 1))]), (.tup [(.cst (.int 2)), (.cst (.int 3))]), (.cst (.int 8))]))

def WB : List Sx := [.asg (.nm 3) (.call 0 [(.var 0), (.var 1)]), .ifs (.or (.not (.call 18 [.lv 3])) (.not (.call 20 [.lv 3]))) [.ret (.cst (.bl false))] []]
theorem F21_body : F21 = ⟨4, 1, [], [W0, W1, W2]⟩ := rfl
theorem turn_ok (ns : List Int) (i : Int) (h0 : 0 ≤ i) (s3 : Option D) : ∃ a b c, evSs (CE 10) wh WB [some (.wls (ns.map D.int)), some (.int i), none, s3] = .nx [some (.wls (ns.map D.int)), some (.int i), none, some (dc a b c)] := by
  obtain ⟨a, b, e1⟩ := dice_ok 9 ns i h0
  obtain ⟨a1, c1, e2⟩ := right_ok 4 a b 0
  obtain ⟨a2, c2, e3⟩ := places_ok 7 a1 b c1
  refine ⟨a2, b, c2, ?_⟩
  simp [WB, ev_var, ev_cst, ev_glb, ev_tup, ev_lst, ev_bin, ev_neg, ev_not, ev_cmp, ev_chain, ev_and, ev_or, ev_ife, ev_idx, ev_idxV, ev_call, ev_blt, ev_join, ev_lrng, ev_lc, ev_callS, ev_nd, lc_nil, lc_cons, lcStep, tg_nm, tg_tp, tgs_nil, tgs_cons, es_expr, es_nm, es_tp, es_par, es_set, es_ret, es_if, es_while, es_for, for_nil, for_cons, body_ap, ess_nil, ess_cons, el_ok, seq_nx, seq_rt, of_some, asB_bl, evL, evA, evT, evI, getS, fz_int, fz_bl, fz_str, fz_non, fz_ty, fz_tup, fz_lst, fz_wls, fz_dct, opD, addD, subD, mulD, fdivD, modD, powD, cmD, ltD, leD, gtD, geD, bltD, intD, absD, lenD, max2D, min2D, idxD, seqOf, atI, ixN, outsOf, lentS, lend, back, mulOk_l, mulOk_r, mulOk_mod, eqD_int, isiLD, isiD, isiTy, tyD, List.lookup, szl, wip, unwip, CE_run, io_0, io_1, io_2, io_3, io_4, io_5, io_6, io_7, io_8, io_9, io_10, io_11, io_12, io_13, io_14, io_15, io_16, io_17, io_18, io_19, io_20, io_21, e1, e2, e3]
theorem for_ok (ns : List Int) : ∀ (is : List Nat) (s1 s3 : Option D), ∃ t1 t3, forGo (.nm 1) (bodyOf (CE 10) wh WB) (is.map fun (i : Nat) => .int (0 + i)) [some (.wls (ns.map D.int)), s1, none, s3] = .nx [some (.wls (ns.map D.int)), t1, none, t3]
  | [], s1, s3 => ⟨s1, s3, by simp [for_nil]⟩
  | i :: is, s1, s3 => by
    obtain ⟨a, b, c, e⟩ := turn_ok ns (0 + i) (by omega) s3
    obtain ⟨t1, t3, e2⟩ := for_ok ns is (some (.int (0 + i))) (some (dc a b c))
    refine ⟨t1, t3, ?_⟩
    rw [List.map_cons, for_cons]
    have et : tgS (.nm 1) (.int (0 + i)) [some (.wls (ns.map D.int)), s1, none, s3] = some [some (.wls (ns.map D.int)), some (.int (0 + i)), none, s3] := by simp [tg_nm, fz_int]
    rw [et]
    dsimp only
    rw [body_ap, e]
    exact e2
theorem law_ok (ns : List Int) : ∃ outs, runP wh fnT (10 + 1) 21 [.wls (ns.map D.int)] = .ok (.bl true) outs := by
  have hw : (wh : Int) = 10000000000000 := rfl
  obtain ⟨k, k0, k8, ek⟩ : ∃ k : Int, 0 ≤ k ∧ k ≤ 8 ∧ (max2D [.int 1, .int (if (ns.length : Int) < 8 then (ns.length : Int) else 8)]) = some (.int k) := by
    refine ⟨_, ?_, ?_, rfl⟩
    · split <;> split <;> omega
    · split <;> split <;> omega
  have er : rngD (.int 0) (.int k) = some ((List.range (k - 0).toNat).map fun (i : Nat) => .int (0 + i)) := by
    unfold rngD
    dsimp only
    rw [if_pos ⟨by omega, by omega, by omega, by omega, by omega⟩]
  obtain ⟨t1, t3, e0⟩ := for_ok ns (List.range (k - 0).toNat) none none
  have z0 : evS (CE 10) wh W0 [some (.wls (ns.map D.int)), none, none, none] = .nx [some (.wls (ns.map D.int)), t1, none, t3] := by
    unfold W0
    rw [es_for]
    have hI : evI (CE 10) (.rng1 (.blt .max2 [(.cst (.int 1)), (.blt .min2 [(.cst (.int 8)), (.blt .len [(.var 0)])])])) [some (.wls (ns.map D.int)), none, none, none] = .ok ((List.range (k - 0).toNat).map fun (i : Nat) => .int (0 + i)) [some (.wls (ns.map D.int)), none, none, none] := by
      have e1 : evO (CE 10) (.blt .max2 [(.cst (.int 1)), (.blt .min2 [(.cst (.int 8)), (.blt .len [(.var 0)])])]) [some (.wls (ns.map D.int)), none, none, none] = .ok (.int k) [some (.wls (ns.map D.int)), none, none, none] := by
        have e2 : evO (CE 10) (.blt .min2 [(.cst (.int 8)), (.blt .len [(.var 0)])]) [some (.wls (ns.map D.int)), none, none, none] = .ok (.int (if (ns.length : Int) < 8 then (ns.length : Int) else 8)) [some (.wls (ns.map D.int)), none, none, none] := by
          simp [ev_var, ev_cst, ev_glb, ev_tup, ev_lst, ev_bin, ev_neg, ev_not, ev_cmp, ev_chain, ev_and, ev_or, ev_ife, ev_idx, ev_idxV, ev_call, ev_blt, ev_join, ev_lrng, ev_lc, ev_callS, ev_nd, lc_nil, lc_cons, lcStep, tg_nm, tg_tp, tgs_nil, tgs_cons, es_expr, es_nm, es_tp, es_par, es_set, es_ret, es_if, es_while, es_for, for_nil, for_cons, body_ap, ess_nil, ess_cons, el_ok, seq_nx, seq_rt, of_some, asB_bl, evL, evA, evT, evI, getS, fz_int, fz_bl, fz_str, fz_non, fz_ty, fz_tup, fz_lst, fz_wls, fz_dct, opD, addD, subD, mulD, fdivD, modD, powD, cmD, ltD, leD, gtD, geD, bltD, intD, absD, lenD, max2D, min2D, idxD, seqOf, atI, ixN, outsOf, lentS, lend, back, mulOk_l, mulOk_r, mulOk_mod, eqD_int, isiLD, isiD, isiTy, tyD, List.lookup, szl, wip, unwip, CE_run, io_0, io_1, io_2, io_3, io_4, io_5, io_6, io_7, io_8, io_9, io_10, io_11, io_12, io_13, io_14, io_15, io_16, io_17, io_18, io_19, io_20, io_21]
        generalize Ex.blt .min2 [(.cst (.int 8)), (.blt .len [(.var 0)])] = M at e2 ⊢
        rw [ev_blt]
        simp only [evL, ev_cst, el_ok, e2, fz_int]
        rw [show bltD .max2 = max2D from rfl, ek]
        rfl
      simp only [evI, e1, el_ok, fz_int, er, of_some]
    rw [hI]
    exact e0
  have f1 : runP wh fnT 10 5 [.int 6, .int 4] = .ok (pr 3 2) [] := (fr_ok 7 6 4 (by omega) (by omega) (by omega)).trans rfl
  have f2 : runP wh fnT 10 5 [.int (-2), .int 6] = .ok (pr (-1) 3) [] := (fr_ok 7 (-2) 6 (by omega) (by omega) (by omega)).trans rfl
  have f3 : runP wh fnT 10 5 [.int 0, .int 7] = .ok (pr 0 1) [] := (fr_ok 7 0 7 (by omega) (by omega) (by omega)).trans rfl
  have f4 : runP wh fnT 10 10 [.tup [pr 1 2, pr 2 3, pr 3 5]] = .ok (pr 2 3) [] := (most3 5 (a := 1) (b := 2) (c := 2) (d := 3) (e := 3) (f := 5) ⟨by decide, by decide, by decide, by decide⟩ ⟨by decide, by decide, by decide, by decide⟩ ⟨by decide, by decide, by decide, by decide⟩).trans rfl
  have z1 : evS (CE 10) wh W1 [some (.wls (ns.map D.int)), t1, none, t3] = .nx [some (.wls (ns.map D.int)), t1, some (.lst true [pr 3 2, pr (-1) 3, pr 0 1, pr 2 3, .int 8]), t3] := by
    simp [W1, ev_var, ev_cst, ev_glb, ev_tup, ev_lst, ev_bin, ev_neg, ev_not, ev_cmp, ev_chain, ev_and, ev_or, ev_ife, ev_idx, ev_idxV, ev_call, ev_blt, ev_join, ev_lrng, ev_lc, ev_callS, ev_nd, lc_nil, lc_cons, lcStep, tg_nm, tg_tp, tgs_nil, tgs_cons, es_expr, es_nm, es_tp, es_par, es_set, es_ret, es_if, es_while, es_for, for_nil, for_cons, body_ap, ess_nil, ess_cons, el_ok, seq_nx, seq_rt, of_some, asB_bl, evL, evA, evT, evI, getS, fz_int, fz_bl, fz_str, fz_non, fz_ty, fz_tup, fz_lst, fz_wls, fz_dct, opD, addD, subD, mulD, fdivD, modD, powD, cmD, ltD, leD, gtD, geD, bltD, intD, absD, lenD, max2D, min2D, idxD, seqOf, atI, ixN, outsOf, lentS, lend, back, mulOk_l, mulOk_r, mulOk_mod, eqD_int, isiLD, isiD, isiTy, tyD, List.lookup, szl, wip, unwip, CE_run, io_0, io_1, io_2, io_3, io_4, io_5, io_6, io_7, io_8, io_9, io_10, io_11, io_12, io_13, io_14, io_15, io_16, io_17, io_18, io_19, io_20, io_21, f1, f2, f3, f4]
  have ee : ∀ o o', eqD (.lst o [pr 3 2, pr (-1) 3, pr 0 1, pr 2 3, .int 8]) (.lst o' [pr 3 2, pr (-1) 3, pr 0 1, pr 2 3, .int 8]) = some true := fun o o' => eq_same (x := .list [.tuple [.int 3, .int 2], .tuple [.int (-1), .int 3], .tuple [.int 0, .int 1], .tuple [.int 2, .int 3], .int 8]) rfl rfl rfl
  have z2 : ∃ r, evS (CE 10) wh W2 [some (.wls (ns.map D.int)), t1, some (.lst true [pr 3 2, pr (-1) 3, pr 0 1, pr 2 3, .int 8]), t3] = .rt (.bl true) r := by
    simp [W2, ev_var, ev_cst, ev_glb, ev_tup, ev_lst, ev_bin, ev_neg, ev_not, ev_cmp, ev_chain, ev_and, ev_or, ev_ife, ev_idx, ev_idxV, ev_call, ev_blt, ev_join, ev_lrng, ev_lc, ev_callS, ev_nd, lc_nil, lc_cons, lcStep, tg_nm, tg_tp, tgs_nil, tgs_cons, es_expr, es_nm, es_tp, es_par, es_set, es_ret, es_if, es_while, es_for, for_nil, for_cons, body_ap, ess_nil, ess_cons, el_ok, seq_nx, seq_rt, of_some, asB_bl, evL, evA, evT, evI, getS, fz_int, fz_bl, fz_str, fz_non, fz_ty, fz_tup, fz_lst, fz_wls, fz_dct, opD, addD, subD, mulD, fdivD, modD, powD, cmD, ltD, leD, gtD, geD, bltD, intD, absD, lenD, max2D, min2D, idxD, seqOf, atI, ixN, outsOf, lentS, lend, back, mulOk_l, mulOk_r, mulOk_mod, eqD_int, isiLD, isiD, isiTy, tyD, List.lookup, szl, wip, unwip, CE_run, io_0, io_1, io_2, io_3, io_4, io_5, io_6, io_7, io_8, io_9, io_10, io_11, io_12, io_13, io_14, io_15, io_16, io_17, io_18, io_19, io_20, io_21, ee]
  obtain ⟨rr, z2⟩ := z2
  refine ⟨[], ?_⟩
  rw [run_s _ 21 F21 _ rfl, F21_body]
  have zz : evSs (CE 10) wh [W0, W1, W2] [some (.wls (ns.map D.int)), none, none, none] = .rt (.bl true) rr := by
    rw [ess_cons, z0, seq_nx, ess_cons, z1, seq_nx, ess_cons, z2, seq_rt]
  exact fn_rt rfl (by decide) zz rfl
end YL
namespace YL
open PySem PySem.Spec L2 Y
open PyProof.Rows hiding St
def tp (i : Nat) : Stmt := PySem.Challenge.pw_holdsfast_k01_whole_fractions_in_lowest.main.body.getD i (.Pass ⟨0, 0, 0, 0⟩)
def G : Pgm := ⟨fnT, nmT, [("LETTERS", (.str "abcdefghijklmnopqrstuvwxyz")), ("MAX_LETTERS", (.int 8)), ("bool", .ty "bool"), ("int", .ty "int"), ("str", .ty "str"), ("tuple", .ty "tuple")], fun i => i == 10⟩
abbrev s0 : Stmt := tp 20
abbrev s1 : Stmt := tp 10
abbrev s2 : Stmt := tp 12
abbrev s3 : Stmt := tp 7
abbrev s4 : Stmt := tp 8
abbrev s5 : Stmt := tp 13
abbrev s6 : Stmt := tp 11
abbrev s7 : Stmt := tp 14
abbrev s8 : Stmt := tp 15
abbrev s9 : Stmt := tp 17
abbrev s10 : Stmt := tp 18
abbrev s11 : Stmt := tp 21
abbrev s12 : Stmt := tp 22
abbrev s13 : Stmt := tp 26
abbrev s14 : Stmt := tp 23
abbrev s15 : Stmt := tp 25
abbrev s16 : Stmt := tp 16
abbrev s17 : Stmt := tp 24
abbrev s18 : Stmt := tp 27
abbrev s19 : Stmt := tp 9
abbrev s20 : Stmt := tp 28
abbrev s21 : Stmt := tp 29
theorem sc0 : FnScope N0 ["_law_script", "_law_at"] (defScope s0) := ⟨rfl, rfl, rfl, by decide +kernel, rfl, by decide +kernel, by decide +kernel⟩
theorem ck0 : chkSs G N0 F0.io (defScope s0) (fun _ => true) F0.body (defBody s0) = true := by decide +kernel
theorem sc1 : FnScope N1 ["one", "other"] (defScope s1) := ⟨rfl, rfl, rfl, by decide +kernel, rfl, by decide +kernel, by decide +kernel⟩
theorem ck1 : chkSs G N1 F1.io (defScope s1) (fun _ => true) F1.body (defBody s1) = true := by decide +kernel
theorem sc2 : FnScope N2 ["numerator", "denominator"] (defScope s2) := ⟨rfl, rfl, rfl, by decide +kernel, rfl, by decide +kernel, by decide +kernel⟩
theorem ck2 : chkSs G N2 F2.io (defScope s2) (fun _ => true) F2.body (defBody s2) = true := by decide +kernel
theorem sc3 : FnScope N3 ["value"] (defScope s3) := ⟨rfl, rfl, rfl, by decide +kernel, rfl, by decide +kernel, by decide +kernel⟩
theorem ck3 : chkSs G N3 F3.io (defScope s3) (fun _ => true) F3.body (defBody s3) = true := by decide +kernel
theorem sc4 : FnScope N4 ["value"] (defScope s4) := ⟨rfl, rfl, rfl, by decide +kernel, rfl, by decide +kernel, by decide +kernel⟩
theorem ck4 : chkSs G N4 F4.io (defScope s4) (fun _ => true) F4.body (defBody s4) = true := by decide +kernel
theorem sc5 : FnScope N5 ["numerator", "denominator"] (defScope s5) := ⟨rfl, rfl, rfl, by decide +kernel, rfl, by decide +kernel, by decide +kernel⟩
theorem ck5 : chkSs G N5 F5.io (defScope s5) (fun _ => true) F5.body (defBody s5) = true := by decide +kernel
theorem sc6 : FnScope N6 ["value"] (defScope s6) := ⟨rfl, rfl, rfl, by decide +kernel, rfl, by decide +kernel, by decide +kernel⟩
theorem ck6 : chkSs G N6 F6.io (defScope s6) (fun _ => true) F6.body (defBody s6) = true := by decide +kernel
theorem sc7 : FnScope N7 ["values"] (defScope s7) := ⟨rfl, rfl, rfl, by decide +kernel, rfl, by decide +kernel, by decide +kernel⟩
theorem ck7 : chkSs G N7 F7.io (defScope s7) (fun _ => true) F7.body (defBody s7) = true := by decide +kernel
theorem sc8 : FnScope N8 ["one", "other"] (defScope s8) := ⟨rfl, rfl, rfl, by decide +kernel, rfl, by decide +kernel, by decide +kernel⟩
theorem ck8 : chkSs G N8 F8.io (defScope s8) (fun _ => true) F8.body (defBody s8) = true := by decide +kernel
theorem sc9 : FnScope N9 ["values"] (defScope s9) := ⟨rfl, rfl, rfl, by decide +kernel, rfl, by decide +kernel, by decide +kernel⟩
theorem ck9 : chkSs G N9 F9.io (defScope s9) (fun _ => true) F9.body (defBody s9) = true := by decide +kernel
theorem sc10 : FnScope N10 ["fractions"] (defScope s10) := ⟨rfl, rfl, rfl, by decide +kernel, rfl, by decide +kernel, by decide +kernel⟩
theorem ck10 : chkSs G N10 F10.io (defScope s10) (fun _ => true) F10.body (defBody s10) = true := by decide +kernel
theorem sc11 : FnScope N11 ["_law_dice_here", "_law_total"] (defScope s11) := ⟨rfl, rfl, rfl, by decide +kernel, rfl, by decide +kernel, by decide +kernel⟩
theorem ck11 : chkSs G N11 F11.io (defScope s11) (fun _ => true) F11.body (defBody s11) = true := by decide +kernel
theorem sc12 : FnScope N12 ["_law_dice_here", "_law_items"] (defScope s12) := ⟨rfl, rfl, rfl, by decide +kernel, rfl, by decide +kernel, by decide +kernel⟩
theorem ck12 : chkSs G N12 F12.io (defScope s12) (fun _ => true) F12.body (defBody s12) = true := by decide +kernel
theorem sc13 : FnScope N13 ["_law_dice_here"] (defScope s13) := ⟨rfl, rfl, rfl, by decide +kernel, rfl, by decide +kernel, by decide +kernel⟩
theorem ck13 : chkSs G N13 F13.io (defScope s13) (fun _ => true) F13.body (defBody s13) = true := by decide +kernel
theorem sc14 : FnScope N14 ["_law_numerator", "_law_denominator"] (defScope s14) := ⟨rfl, rfl, rfl, by decide +kernel, rfl, by decide +kernel, by decide +kernel⟩
theorem ck14 : chkSs G N14 F14.io (defScope s14) (fun _ => true) F14.body (defBody s14) = true := by decide +kernel
theorem sc15 : FnScope N15 ["_law_one"] (defScope s15) := ⟨rfl, rfl, rfl, by decide +kernel, rfl, by decide +kernel, by decide +kernel⟩
theorem ck15 : chkSs G N15 F15.io (defScope s15) (fun _ => true) F15.body (defBody s15) = true := by decide +kernel
theorem sc16 : FnScope N16 ["one", "other"] (defScope s16) := ⟨rfl, rfl, rfl, by decide +kernel, rfl, by decide +kernel, by decide +kernel⟩
theorem ck16 : chkSs G N16 F16.io (defScope s16) (fun _ => true) F16.body (defBody s16) = true := by decide +kernel
theorem sc17 : FnScope N17 ["_law_one", "_law_other"] (defScope s17) := ⟨rfl, rfl, rfl, by decide +kernel, rfl, by decide +kernel, by decide +kernel⟩
theorem ck17 : chkSs G N17 F17.io (defScope s17) (fun _ => true) F17.body (defBody s17) = true := by decide +kernel
theorem sc18 : FnScope N18 ["_law_dice_here"] (defScope s18) := ⟨rfl, rfl, rfl, by decide +kernel, rfl, by decide +kernel, by decide +kernel⟩
theorem ck18 : chkSs G N18 F18.io (defScope s18) (fun _ => true) F18.body (defBody s18) = true := by decide +kernel
theorem sc19 : FnScope N19 ["value"] (defScope s19) := ⟨rfl, rfl, rfl, by decide +kernel, rfl, by decide +kernel, by decide +kernel⟩
theorem ck19 : chkSs G N19 F19.io (defScope s19) (fun _ => true) F19.body (defBody s19) = true := by decide +kernel
theorem sc20 : FnScope N20 ["_law_dice_here"] (defScope s20) := ⟨rfl, rfl, rfl, by decide +kernel, rfl, by decide +kernel, by decide +kernel⟩
theorem ck20 : chkSs G N20 F20.io (defScope s20) (fun _ => true) F20.body (defBody s20) = true := by decide +kernel
theorem sc21 : FnScope N21 ["_law_script"] (defScope s21) := ⟨rfl, rfl, rfl, by decide +kernel, rfl, by decide +kernel, by decide +kernel⟩
theorem ck21 : chkSs G N21 F21.io (defScope s21) (fun _ => true) F21.body (defBody s21) = true := by decide +kernel
def d0 : He.DefD := ⟨("_law_dice", none), "_law_dice", "_law_dice", defArgs s0, defBody s0, defScope s0, [], []⟩
def d1 : He.DefD := ⟨("divisor_of", none), "divisor_of", "divisor_of", defArgs s1, defBody s1, defScope s1, [], []⟩
def d2 : He.DefD := ⟨("fraction_in", none), "fraction_in", "fraction_in", defArgs s2, defBody s2, defScope s2, [], []⟩
def d3 : He.DefD := ⟨("is_integer", none), "is_integer", "is_integer", defArgs s3, defBody s3, defScope s3, [], []⟩
def d4 : He.DefD := ⟨("is_many", none), "is_many", "is_many", defArgs s4, defBody s4, defScope s4, [], []⟩
def d5 : He.DefD := ⟨("fraction", none), "fraction", "fraction", defArgs s5, defBody s5, defScope s5, [], []⟩
def d6 : He.DefD := ⟨("is_fraction", none), "is_fraction", "is_fraction", defArgs s6, defBody s6, defScope s6, [], []⟩
def d7 : He.DefD := ⟨("require_fractions", none), "require_fractions", "require_fractions", defArgs s7, defBody s7, defScope s7, [], []⟩
def d8 : He.DefD := ⟨("is_less", none), "is_less", "is_less", defArgs s8, defBody s8, defScope s8, [], []⟩
def d9 : He.DefD := ⟨("greatest_in", none), "greatest_in", "greatest_in", defArgs s9, defBody s9, defScope s9, [], []⟩
def d10 : He.DefD := ⟨("greatest", none), "greatest", "greatest", defArgs s10, defBody s10, defScope s10, [], []⟩
def d11 : He.DefD := ⟨("_law_roll", none), "_law_roll", "_law_roll", defArgs s11, defBody s11, defScope s11, [], []⟩
def d12 : He.DefD := ⟨("_law_one_of", none), "_law_one_of", "_law_one_of", defArgs s12, defBody s12, defScope s12, [], []⟩
def d13 : He.DefD := ⟨("_law_drawn", none), "_law_drawn", "_law_drawn", defArgs s13, defBody s13, defScope s13, [], []⟩
def d14 : He.DefD := ⟨("_law_lowest", none), "_law_lowest", "_law_lowest", defArgs s14, defBody s14, defScope s14, [], []⟩
def d15 : He.DefD := ⟨("_law_is_lowest", none), "_law_is_lowest", "_law_is_lowest", defArgs s15, defBody s15, defScope s15, [], []⟩
def d16 : He.DefD := ⟨("is_lower", none), "is_lower", "is_lower", defArgs s16, defBody s16, defScope s16, [], []⟩
def d17 : He.DefD := ⟨("_law_less", none), "_law_less", "_law_less", defArgs s17, defBody s17, defScope s17, [], []⟩
def d18 : He.DefD := ⟨("_law_right", none), "_law_right", "_law_right", defArgs s18, defBody s18, defScope s18, [], []⟩
def d19 : He.DefD := ⟨("is_place", none), "is_place", "is_place", defArgs s19, defBody s19, defScope s19, [], []⟩
def d20 : He.DefD := ⟨("_law_places_right", none), "_law_places_right", "_law_places_right", defArgs s20, defBody s20, defScope s20, [], []⟩
def d21 : He.DefD := ⟨("law", none), "law", "law", defArgs s21, defBody s21, defScope s21, [], []⟩
def fnD : List He.DefD := [d0, d1, d2, d3, d4, d5, d6, d7, d8, d9, d10, d11, d12, d13, d14, d15, d16, d17, d18, d19, d20, d21]
def faD : List He.Fa := [.glo "_law_dice", .glo "divisor_of", .glo "fraction_in", .glo "is_integer", .glo "is_many", .glo "fraction", .glo "is_fraction", .glo "require_fractions", .glo "is_less", .glo "greatest_in", .glo "greatest", .glo "_law_roll", .glo "_law_one_of", .glo "_law_drawn", .glo "_law_lowest", .glo "_law_is_lowest", .glo "is_lower", .glo "_law_less", .glo "_law_right", .glo "is_place", .glo "_law_places_right", .glo "law", .free "len", .free "abs", .free "int", .free "max", .free "min", .free "all", .free "any", .free "isinstance", .free "list", .free "tuple", .free "range", .free "bool", .free "str", .str "LETTERS" "abcdefghijklmnopqrstuvwxyz", .int "MAX_LETTERS" 8]
abbrev R : PySem.W.OpenRow := PySem.W.OpenLaw.row PySem.Challenge.rw_holdsfast_k01_whole_fractions_in_lowest
abbrev hk : PySem.W.Hook := He.hookD 4 faD fnD
def ob (s : PySem.W.SharedT) : He.AlD := He.obsDG 4 faD fnD (HandSHeadRun.getT s)
theorem ob_eq (s : PySem.W.SharedT) : ob s = hk.obs s.abs := He.obsDG_eq (HandSHeadRun.getT_eq s)
def loose : List Str := ["NetError", "InvalidOperation", "InvalidNumber", "MAX_LETTERS", "LETTERS", "is_integer", "is_many", "is_place", "divisor_of", "is_fraction", "fraction_in", "fraction", "require_fractions", "is_less", "is_lower", "greatest_in", "greatest", "_law_dice", "_law_roll", "_law_one_of", "_law_lowest", "_law_less", "_law_is_lowest", "_law_drawn", "_law_right", "_law_places_right"]
theorem run (w : World) : HandSHeadRun.RunEq R (PySem.W.view R.prog [29]) hk ob 4000 loose w := by
  intro os
  kernel_rfl
section
variable {K : PySem.W.Frag} {h : Heap} {mg : Str → Option Value}
theorem mod_ok (X : K.In h) (M : h.Ns mainGlobals mg) (c : He.SaysD faD fnD K) : Mod G K mg := by
  have fr : ∀ (i : Nat) (x : Str), faD[i]? = some (.free x) → mg x = none := fun i x e => He.free_ok X M (c.fact i e)
  refine ⟨fun b => ?_, fr 32 _ rfl, fun p hp => ?_⟩
  · cases b
    · exact fr 22 _ rfl
    · exact fr 23 _ rfl
    · exact fr 24 _ rfl
    · exact fr 25 _ rfl
    · exact fr 26 _ rfl
    · exact fr 27 _ rfl
    · exact fr 28 _ rfl
    · exact fr 29 _ rfl
    · exact fr 30 _ rfl
    · exact fr 31 _ rfl
  · have hp : p ∈ [(("LETTERS" : Str), ((.str "abcdefghijklmnopqrstuvwxyz") : D)), (("MAX_LETTERS" : Str), ((.int 8) : D)), (("bool" : Str), (.ty "bool" : D)), (("int" : Str), (.ty "int" : D)), (("str" : Str), (.ty "str" : D)), (("tuple" : Str), (.ty "tuple" : D))] := hp
    simp only [List.mem_cons, List.not_mem_nil, or_false] at hp
    rcases hp with rfl | rfl | rfl | rfl | rfl | rfl
    · obtain ⟨t, e⟩ := He.str_ok X M (c.fact 35 (f := .str "LETTERS" "abcdefghijklmnopqrstuvwxyz") rfl)
      exact .inl ⟨_, .str "abcdefghijklmnopqrstuvwxyz", e, ⟨t, rfl⟩, fun _ _ => rfl, rfl⟩
    · obtain ⟨t, e⟩ := He.int_ok X M (c.fact 36 (f := .int "MAX_LETTERS" 8) rfl)
      exact .inl ⟨_, .int 8, e, ⟨t, rfl⟩, fun _ _ => rfl, rfl⟩
    · exact .inr ⟨_, rfl, fr 33 _ rfl, rfl, by decide +kernel⟩
    · exact .inr ⟨_, rfl, fr 24 _ rfl, rfl, by decide +kernel⟩
    · exact .inr ⟨_, rfl, fr 34 _ rfl, rfl, by decide +kernel⟩
    · exact .inr ⟨_, rfl, fr 31 _ rfl, rfl, by decide +kernel⟩
theorem df0 (X : K.In h) (M : h.Ns mainGlobals mg) (c : He.SaysD faD fnD K) : ∃ ad fd, DefN G K mg 0 F0 (defArgs s0) (defBody s0) (defScope s0) N0 ["_law_script", "_law_at"] ad fd ∧ mg "_law_dice" = some (.ref ad) := by
  obtain ⟨fd, F⟩ := c.def_ 0 (d := d0) rfl
  have e := He.glo_ok X M (c.fact 0 (f := .glo "_law_dice") rfl)
  exact ⟨_, fd, ⟨F, e, sc0, rfl, rfl, ck0, .one rfl (F.bindsN fun _ _ _ _ _ _ us hl => match us, hl with | [_, _], _ => rfl)⟩, e⟩
theorem df1 (X : K.In h) (M : h.Ns mainGlobals mg) (c : He.SaysD faD fnD K) : ∃ ad fd, DefN G K mg 1 F1 (defArgs s1) (defBody s1) (defScope s1) N1 ["one", "other"] ad fd ∧ mg "divisor_of" = some (.ref ad) := by
  obtain ⟨fd, F⟩ := c.def_ 1 (d := d1) rfl
  have e := He.glo_ok X M (c.fact 1 (f := .glo "divisor_of") rfl)
  exact ⟨_, fd, ⟨F, e, sc1, rfl, rfl, ck1, .one rfl (F.bindsN fun _ _ _ _ _ _ us hl => match us, hl with | [_, _], _ => rfl)⟩, e⟩
theorem df2 (X : K.In h) (M : h.Ns mainGlobals mg) (c : He.SaysD faD fnD K) : ∃ ad fd, DefN G K mg 2 F2 (defArgs s2) (defBody s2) (defScope s2) N2 ["numerator", "denominator"] ad fd ∧ mg "fraction_in" = some (.ref ad) := by
  obtain ⟨fd, F⟩ := c.def_ 2 (d := d2) rfl
  have e := He.glo_ok X M (c.fact 2 (f := .glo "fraction_in") rfl)
  exact ⟨_, fd, ⟨F, e, sc2, rfl, rfl, ck2, .one rfl (F.bindsN fun _ _ _ _ _ _ us hl => match us, hl with | [_, _], _ => rfl)⟩, e⟩
theorem df3 (X : K.In h) (M : h.Ns mainGlobals mg) (c : He.SaysD faD fnD K) : ∃ ad fd, DefN G K mg 3 F3 (defArgs s3) (defBody s3) (defScope s3) N3 ["value"] ad fd ∧ mg "is_integer" = some (.ref ad) := by
  obtain ⟨fd, F⟩ := c.def_ 3 (d := d3) rfl
  have e := He.glo_ok X M (c.fact 3 (f := .glo "is_integer") rfl)
  exact ⟨_, fd, ⟨F, e, sc3, rfl, rfl, ck3, .one rfl (F.bindsN fun _ _ _ _ _ _ us hl => match us, hl with | [_], _ => rfl)⟩, e⟩
theorem df4 (X : K.In h) (M : h.Ns mainGlobals mg) (c : He.SaysD faD fnD K) : ∃ ad fd, DefN G K mg 4 F4 (defArgs s4) (defBody s4) (defScope s4) N4 ["value"] ad fd ∧ mg "is_many" = some (.ref ad) := by
  obtain ⟨fd, F⟩ := c.def_ 4 (d := d4) rfl
  have e := He.glo_ok X M (c.fact 4 (f := .glo "is_many") rfl)
  exact ⟨_, fd, ⟨F, e, sc4, rfl, rfl, ck4, .one rfl (F.bindsN fun _ _ _ _ _ _ us hl => match us, hl with | [_], _ => rfl)⟩, e⟩
theorem df5 (X : K.In h) (M : h.Ns mainGlobals mg) (c : He.SaysD faD fnD K) : ∃ ad fd, DefN G K mg 5 F5 (defArgs s5) (defBody s5) (defScope s5) N5 ["numerator", "denominator"] ad fd ∧ mg "fraction" = some (.ref ad) := by
  obtain ⟨fd, F⟩ := c.def_ 5 (d := d5) rfl
  have e := He.glo_ok X M (c.fact 5 (f := .glo "fraction") rfl)
  exact ⟨_, fd, ⟨F, e, sc5, rfl, rfl, ck5, .one rfl (F.bindsN fun _ _ _ _ _ _ us hl => match us, hl with | [_, _], _ => rfl)⟩, e⟩
theorem df6 (X : K.In h) (M : h.Ns mainGlobals mg) (c : He.SaysD faD fnD K) : ∃ ad fd, DefN G K mg 6 F6 (defArgs s6) (defBody s6) (defScope s6) N6 ["value"] ad fd ∧ mg "is_fraction" = some (.ref ad) := by
  obtain ⟨fd, F⟩ := c.def_ 6 (d := d6) rfl
  have e := He.glo_ok X M (c.fact 6 (f := .glo "is_fraction") rfl)
  exact ⟨_, fd, ⟨F, e, sc6, rfl, rfl, ck6, .one rfl (F.bindsN fun _ _ _ _ _ _ us hl => match us, hl with | [_], _ => rfl)⟩, e⟩
theorem df7 (X : K.In h) (M : h.Ns mainGlobals mg) (c : He.SaysD faD fnD K) : ∃ ad fd, DefN G K mg 7 F7 (defArgs s7) (defBody s7) (defScope s7) N7 ["values"] ad fd ∧ mg "require_fractions" = some (.ref ad) := by
  obtain ⟨fd, F⟩ := c.def_ 7 (d := d7) rfl
  have e := He.glo_ok X M (c.fact 7 (f := .glo "require_fractions") rfl)
  exact ⟨_, fd, ⟨F, e, sc7, rfl, rfl, ck7, .one rfl (F.bindsN fun _ _ _ _ _ _ us hl => match us, hl with | [_], _ => rfl)⟩, e⟩
theorem df8 (X : K.In h) (M : h.Ns mainGlobals mg) (c : He.SaysD faD fnD K) : ∃ ad fd, DefN G K mg 8 F8 (defArgs s8) (defBody s8) (defScope s8) N8 ["one", "other"] ad fd ∧ mg "is_less" = some (.ref ad) := by
  obtain ⟨fd, F⟩ := c.def_ 8 (d := d8) rfl
  have e := He.glo_ok X M (c.fact 8 (f := .glo "is_less") rfl)
  exact ⟨_, fd, ⟨F, e, sc8, rfl, rfl, ck8, .one rfl (F.bindsN fun _ _ _ _ _ _ us hl => match us, hl with | [_, _], _ => rfl)⟩, e⟩
theorem df9 (X : K.In h) (M : h.Ns mainGlobals mg) (c : He.SaysD faD fnD K) : ∃ ad fd, DefN G K mg 9 F9 (defArgs s9) (defBody s9) (defScope s9) N9 ["values"] ad fd ∧ mg "greatest_in" = some (.ref ad) := by
  obtain ⟨fd, F⟩ := c.def_ 9 (d := d9) rfl
  have e := He.glo_ok X M (c.fact 9 (f := .glo "greatest_in") rfl)
  exact ⟨_, fd, ⟨F, e, sc9, rfl, rfl, ck9, .one rfl (F.bindsN fun _ _ _ _ _ _ us hl => match us, hl with | [_], _ => rfl)⟩, e⟩
theorem df10 (X : K.In h) (M : h.Ns mainGlobals mg) (c : He.SaysD faD fnD K) : ∃ ad fd, DefN G K mg 10 F10 (defArgs s10) (defBody s10) (defScope s10) N10 ["fractions"] ad fd ∧ mg "greatest" = some (.ref ad) := by
  obtain ⟨fd, F⟩ := c.def_ 10 (d := d10) rfl
  have e := He.glo_ok X M (c.fact 10 (f := .glo "greatest") rfl)
  exact ⟨_, fd, ⟨F, e, sc10, rfl, rfl, ck10, .star rfl rfl fun _ _ _ _ _ _ us => match us with | [] => rfl | _ :: _ => rfl⟩, e⟩
theorem df11 (X : K.In h) (M : h.Ns mainGlobals mg) (c : He.SaysD faD fnD K) : ∃ ad fd, DefN G K mg 11 F11 (defArgs s11) (defBody s11) (defScope s11) N11 ["_law_dice_here", "_law_total"] ad fd ∧ mg "_law_roll" = some (.ref ad) := by
  obtain ⟨fd, F⟩ := c.def_ 11 (d := d11) rfl
  have e := He.glo_ok X M (c.fact 11 (f := .glo "_law_roll") rfl)
  exact ⟨_, fd, ⟨F, e, sc11, rfl, rfl, ck11, .one rfl (F.bindsN fun _ _ _ _ _ _ us hl => match us, hl with | [_, _], _ => rfl)⟩, e⟩
theorem df12 (X : K.In h) (M : h.Ns mainGlobals mg) (c : He.SaysD faD fnD K) : ∃ ad fd, DefN G K mg 12 F12 (defArgs s12) (defBody s12) (defScope s12) N12 ["_law_dice_here", "_law_items"] ad fd ∧ mg "_law_one_of" = some (.ref ad) := by
  obtain ⟨fd, F⟩ := c.def_ 12 (d := d12) rfl
  have e := He.glo_ok X M (c.fact 12 (f := .glo "_law_one_of") rfl)
  exact ⟨_, fd, ⟨F, e, sc12, rfl, rfl, ck12, .one rfl (F.bindsN fun _ _ _ _ _ _ us hl => match us, hl with | [_, _], _ => rfl)⟩, e⟩
theorem df13 (X : K.In h) (M : h.Ns mainGlobals mg) (c : He.SaysD faD fnD K) : ∃ ad fd, DefN G K mg 13 F13 (defArgs s13) (defBody s13) (defScope s13) N13 ["_law_dice_here"] ad fd ∧ mg "_law_drawn" = some (.ref ad) := by
  obtain ⟨fd, F⟩ := c.def_ 13 (d := d13) rfl
  have e := He.glo_ok X M (c.fact 13 (f := .glo "_law_drawn") rfl)
  exact ⟨_, fd, ⟨F, e, sc13, rfl, rfl, ck13, .one rfl (F.bindsN fun _ _ _ _ _ _ us hl => match us, hl with | [_], _ => rfl)⟩, e⟩
theorem df14 (X : K.In h) (M : h.Ns mainGlobals mg) (c : He.SaysD faD fnD K) : ∃ ad fd, DefN G K mg 14 F14 (defArgs s14) (defBody s14) (defScope s14) N14 ["_law_numerator", "_law_denominator"] ad fd ∧ mg "_law_lowest" = some (.ref ad) := by
  obtain ⟨fd, F⟩ := c.def_ 14 (d := d14) rfl
  have e := He.glo_ok X M (c.fact 14 (f := .glo "_law_lowest") rfl)
  exact ⟨_, fd, ⟨F, e, sc14, rfl, rfl, ck14, .one rfl (F.bindsN fun _ _ _ _ _ _ us hl => match us, hl with | [_, _], _ => rfl)⟩, e⟩
theorem df15 (X : K.In h) (M : h.Ns mainGlobals mg) (c : He.SaysD faD fnD K) : ∃ ad fd, DefN G K mg 15 F15 (defArgs s15) (defBody s15) (defScope s15) N15 ["_law_one"] ad fd ∧ mg "_law_is_lowest" = some (.ref ad) := by
  obtain ⟨fd, F⟩ := c.def_ 15 (d := d15) rfl
  have e := He.glo_ok X M (c.fact 15 (f := .glo "_law_is_lowest") rfl)
  exact ⟨_, fd, ⟨F, e, sc15, rfl, rfl, ck15, .one rfl (F.bindsN fun _ _ _ _ _ _ us hl => match us, hl with | [_], _ => rfl)⟩, e⟩
theorem df16 (X : K.In h) (M : h.Ns mainGlobals mg) (c : He.SaysD faD fnD K) : ∃ ad fd, DefN G K mg 16 F16 (defArgs s16) (defBody s16) (defScope s16) N16 ["one", "other"] ad fd ∧ mg "is_lower" = some (.ref ad) := by
  obtain ⟨fd, F⟩ := c.def_ 16 (d := d16) rfl
  have e := He.glo_ok X M (c.fact 16 (f := .glo "is_lower") rfl)
  exact ⟨_, fd, ⟨F, e, sc16, rfl, rfl, ck16, .one rfl (F.bindsN fun _ _ _ _ _ _ us hl => match us, hl with | [_, _], _ => rfl)⟩, e⟩
theorem df17 (X : K.In h) (M : h.Ns mainGlobals mg) (c : He.SaysD faD fnD K) : ∃ ad fd, DefN G K mg 17 F17 (defArgs s17) (defBody s17) (defScope s17) N17 ["_law_one", "_law_other"] ad fd ∧ mg "_law_less" = some (.ref ad) := by
  obtain ⟨fd, F⟩ := c.def_ 17 (d := d17) rfl
  have e := He.glo_ok X M (c.fact 17 (f := .glo "_law_less") rfl)
  exact ⟨_, fd, ⟨F, e, sc17, rfl, rfl, ck17, .one rfl (F.bindsN fun _ _ _ _ _ _ us hl => match us, hl with | [_, _], _ => rfl)⟩, e⟩
theorem df18 (X : K.In h) (M : h.Ns mainGlobals mg) (c : He.SaysD faD fnD K) : ∃ ad fd, DefN G K mg 18 F18 (defArgs s18) (defBody s18) (defScope s18) N18 ["_law_dice_here"] ad fd ∧ mg "_law_right" = some (.ref ad) := by
  obtain ⟨fd, F⟩ := c.def_ 18 (d := d18) rfl
  have e := He.glo_ok X M (c.fact 18 (f := .glo "_law_right") rfl)
  exact ⟨_, fd, ⟨F, e, sc18, rfl, rfl, ck18, .one rfl (F.bindsN fun _ _ _ _ _ _ us hl => match us, hl with | [_], _ => rfl)⟩, e⟩
theorem df19 (X : K.In h) (M : h.Ns mainGlobals mg) (c : He.SaysD faD fnD K) : ∃ ad fd, DefN G K mg 19 F19 (defArgs s19) (defBody s19) (defScope s19) N19 ["value"] ad fd ∧ mg "is_place" = some (.ref ad) := by
  obtain ⟨fd, F⟩ := c.def_ 19 (d := d19) rfl
  have e := He.glo_ok X M (c.fact 19 (f := .glo "is_place") rfl)
  exact ⟨_, fd, ⟨F, e, sc19, rfl, rfl, ck19, .one rfl (F.bindsN fun _ _ _ _ _ _ us hl => match us, hl with | [_], _ => rfl)⟩, e⟩
theorem df20 (X : K.In h) (M : h.Ns mainGlobals mg) (c : He.SaysD faD fnD K) : ∃ ad fd, DefN G K mg 20 F20 (defArgs s20) (defBody s20) (defScope s20) N20 ["_law_dice_here"] ad fd ∧ mg "_law_places_right" = some (.ref ad) := by
  obtain ⟨fd, F⟩ := c.def_ 20 (d := d20) rfl
  have e := He.glo_ok X M (c.fact 20 (f := .glo "_law_places_right") rfl)
  exact ⟨_, fd, ⟨F, e, sc20, rfl, rfl, ck20, .one rfl (F.bindsN fun _ _ _ _ _ _ us hl => match us, hl with | [_], _ => rfl)⟩, e⟩
theorem df21 (X : K.In h) (M : h.Ns mainGlobals mg) (c : He.SaysD faD fnD K) : ∃ ad fd, DefN G K mg 21 F21 (defArgs s21) (defBody s21) (defScope s21) N21 ["_law_script"] ad fd ∧ mg "law" = some (.ref ad) := by
  obtain ⟨fd, F⟩ := c.def_ 21 (d := d21) rfl
  have e := He.glo_ok X M (c.fact 21 (f := .glo "law") rfl)
  exact ⟨_, fd, ⟨F, e, sc21, rfl, rfl, ck21, .one rfl (F.bindsN fun _ _ _ _ _ _ us hl => match us, hl with | [_], _ => rfl)⟩, e⟩
theorem defs_ok (X : K.In h) (M : h.Ns mainGlobals mg) (c : He.SaysD faD fnD K) : Defs G K mg := by
  intro f F hF
  have hF : fnT f = some F := hF
  unfold fnT at hF
  split at hF
  · cases hF
    obtain ⟨ad, fd, d, _⟩ := df0 X M c
    exact ⟨_, _, _, _, _, _, _, d⟩
  · cases hF
    obtain ⟨ad, fd, d, _⟩ := df1 X M c
    exact ⟨_, _, _, _, _, _, _, d⟩
  · cases hF
    obtain ⟨ad, fd, d, _⟩ := df2 X M c
    exact ⟨_, _, _, _, _, _, _, d⟩
  · cases hF
    obtain ⟨ad, fd, d, _⟩ := df3 X M c
    exact ⟨_, _, _, _, _, _, _, d⟩
  · cases hF
    obtain ⟨ad, fd, d, _⟩ := df4 X M c
    exact ⟨_, _, _, _, _, _, _, d⟩
  · cases hF
    obtain ⟨ad, fd, d, _⟩ := df5 X M c
    exact ⟨_, _, _, _, _, _, _, d⟩
  · cases hF
    obtain ⟨ad, fd, d, _⟩ := df6 X M c
    exact ⟨_, _, _, _, _, _, _, d⟩
  · cases hF
    obtain ⟨ad, fd, d, _⟩ := df7 X M c
    exact ⟨_, _, _, _, _, _, _, d⟩
  · cases hF
    obtain ⟨ad, fd, d, _⟩ := df8 X M c
    exact ⟨_, _, _, _, _, _, _, d⟩
  · cases hF
    obtain ⟨ad, fd, d, _⟩ := df9 X M c
    exact ⟨_, _, _, _, _, _, _, d⟩
  · cases hF
    obtain ⟨ad, fd, d, _⟩ := df10 X M c
    exact ⟨_, _, _, _, _, _, _, d⟩
  · cases hF
    obtain ⟨ad, fd, d, _⟩ := df11 X M c
    exact ⟨_, _, _, _, _, _, _, d⟩
  · cases hF
    obtain ⟨ad, fd, d, _⟩ := df12 X M c
    exact ⟨_, _, _, _, _, _, _, d⟩
  · cases hF
    obtain ⟨ad, fd, d, _⟩ := df13 X M c
    exact ⟨_, _, _, _, _, _, _, d⟩
  · cases hF
    obtain ⟨ad, fd, d, _⟩ := df14 X M c
    exact ⟨_, _, _, _, _, _, _, d⟩
  · cases hF
    obtain ⟨ad, fd, d, _⟩ := df15 X M c
    exact ⟨_, _, _, _, _, _, _, d⟩
  · cases hF
    obtain ⟨ad, fd, d, _⟩ := df16 X M c
    exact ⟨_, _, _, _, _, _, _, d⟩
  · cases hF
    obtain ⟨ad, fd, d, _⟩ := df17 X M c
    exact ⟨_, _, _, _, _, _, _, d⟩
  · cases hF
    obtain ⟨ad, fd, d, _⟩ := df18 X M c
    exact ⟨_, _, _, _, _, _, _, d⟩
  · cases hF
    obtain ⟨ad, fd, d, _⟩ := df19 X M c
    exact ⟨_, _, _, _, _, _, _, d⟩
  · cases hF
    obtain ⟨ad, fd, d, _⟩ := df20 X M c
    exact ⟨_, _, _, _, _, _, _, d⟩
  · cases hF
    obtain ⟨ad, fd, d, _⟩ := df21 X M c
    exact ⟨_, _, _, _, _, _, _, d⟩
  · cases hF
end
def depth : Nat := 10
theorem holds (hp : ∃ wh, ∀ ns : List Int, ns.length ≤ 63 → ∃ outs, runP wh fnT (depth + 1) 21 [.wls (ns.map D.int)] = .ok (.bl true) outs) : PySem.Challenge.rw_holdsfast_k01_whole_fractions_in_lowest.Holds := by
  obtain ⟨wh, hp⟩ := hp
  open PySem PySem.W PySem.Calls PyProof.Rows in
  w_on; o_law
  refine HandSHeadRun.head_any (r := R) (q := PySem.W.view R.prog [29]) (H := hk) (ob := ob) (M := 4000) (loose := loose) (d := HandSHeadRun.topDef R.prog 29) (kwd := []) ob_eq
    (by kernel_rfl) (fun s => by kernel_rfl) run (by kernel_rfl) (by kernel_rfl) (by kernel_rfl) (by rfl) (by first | assumption | decide +kernel) (by decide +kernel) ⟨rfl, rfl, rfl, rfl, rfl, by decide +kernel⟩ ?hw ?hc
  case hw => w_witness2
  case hc =>
    refine L2.walk_ofE (l := PySem.Challenge.rw_holdsfast_k01_whole_fractions_in_lowest) (n := 63) (k := 2 * depth + 3) (x := "_law_script") (CX := L2.CX0) rfl (by decide) (by kernel_rfl) ⟨rfl, by decide, by decide⟩ ?F (fun _ _ _ _ z => z)
    intro w mg fa h Y M hmg0
    obtain ⟨K, KX, c⟩ := Y
    have hmg : mg ("law" : PySem.Str) = some (.ref fa) := by
      have e : (HandSHeadRun.topDef R.prog 29).name = ("law" : PySem.Str) := by kernel_rfl
      rw [← e]
      exact hmg0
    obtain ⟨ad, fd, d, e1⟩ := df21 KX M c
    have e2 := hmg.symm.trans e1
    cases e2
    have b := FunD.bindsA (ps := ["_law_script"]) d.fn fun _ _ _ _ _ _ us hl => match us, hl with | [_], _ => rfl
    exact ⟨K, fd, fun vs H Q _ => spF K ⟨fun _ => .none, fun _ => []⟩ F21.np F21.io (runP wh G.fn (depth + 1) 21) vs H Q fun _ _ _ => False, KX, fun s v => b s [v] rfl, fun H a ns hl _ hS => sp_script hS (hp ns hl), fun base _ _ => law_fn (n := depth) (wh := wh) (mod_ok KX M c) (defs_ok KX M c) d rfl⟩
end YL
open PySem PySem.W PyProof.Rows
set_option Elab.async false
set_option maxRecDepth 100000 in
set_option maxHeartbeats 8000000 in
theorem PySem.Challenge.cw_holdsfast_k01_whole_fractions_in_lowest_holds : PySem.Challenge.rw_holdsfast_k01_whole_fractions_in_lowest.Holds :=
  YL.holds ⟨YL.wh, fun ns _ => YL.law_ok ns⟩
