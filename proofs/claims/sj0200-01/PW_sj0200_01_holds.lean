import PyProof.Rows.All
import Wide.All
import OpenK.AllK
import Wide.FinOn
import PySem.Challenge.RW_sj0200_01
set_option Elab.async false
set_option maxRecDepth 100000
set_option linter.all false
section -- EngA
namespace Mine
open PySem

/-! the evaluator: abstract values, objects, outcomes -/
inductive Bi where
  | len | isi | abs | int | range | enum | sorted | list | str | tuple
  deriving DecidableEq
inductive AV where
  | none
  | bool (b : Bool)
  | int (i : Int)
  | str (s : List Nat)
  | tup (l : List AV)
  | ref (i : Nat)
  | fn (k : Nat)
  | cls (k : Nat)
  | bi (b : Bi)
  | ilist (l : List Int)
  | rng (a b : Int)
inductive AObj where
  | list (l : List AV)
  | inst (c : Nat) (fs : List (Nat × AV))
  | dict
noncomputable abbrev AH := List AObj
noncomputable abbrev Loc := List (Option AV)
inductive Out (α : Type) where
  | ok (a : α) (h : AH)
  | bad
noncomputable def Out.bind {α β : Type} (x : Out α) (f : α → AH → Out β) : Out β := match x with
  | .ok a h => f a h
  | .bad => .bad
inductive Fl where
  | next | cont
  | ret (v : AV)
inductive SO where
  | ok (f : Fl) (l : Loc) (h : AH)
  | bad

/-! the stripped syntax -/
mutual
inductive E0 where
  | bad
  | val (v : AV)
  | loc (i : Nat)
  | tup (es : List E0)
  | list (es : List E0)
  | attr (o : E0) (a : Nat)
  | item (o i : E0)
  | slice (o : E0) (lo hi st : E0)
  | bin (l : E0) (op : Operator) (r : E0)
  | neg (e : E0)
  | not (e : E0)
  | bop (op : BoolOp) (es : List E0)
  | cmp (l : E0) (ops : List CmpOp) (rs : List E0)
  | ite (c a b : E0)
  | call (f : E0) (args : List E0)
  | meth (o : E0) (m : Nat) (args : List E0)
  | comp (elt : E0) (tg : T0) (it : E0) (ifs : List E0) (n : Nat)
  | dict (ks vs : List E0)
inductive T0 where
  | bad
  | name (i : Nat)
  | attr (o : E0) (a : Nat)
  | item (o i : E0)
  | tup (ts : List T0)
end
inductive S0 where
  | bad
  | expr (e : E0)
  | asg (t : T0) (e : E0)
  | augN (i : Nat) (op : Operator) (e : E0)
  | augA (o : E0) (a : Nat) (op : Operator) (e : E0)
  | ret (e : E0)
  | ite (c : E0) (a b : List S0)
  | while_ (c : E0) (b : List S0)
  | for_ (t : T0) (it : E0) (b : List S0)
  | forE (t : T0) (a : E0) (b : List S0)
  | cont

/-! values -/
noncomputable def big : Nat := 16777216
noncomputable def lookL (a : Nat) : List (Nat × AV) → Option AV
  | [] => none
  | (b, v) :: r => if a = b then some v else lookL a r
noncomputable def setL (a : Nat) (v : AV) : List (Nat × AV) → List (Nat × AV)
  | [] => [(a, v)]
  | (b, u) :: r => if a = b then (a, v) :: r else (b, u) :: setL a v r
noncomputable def intsOf : List AV → Option (List Int)
  | [] => some []
  | .int i :: r => (intsOf r).map (i :: ·)
  | _ :: _ => none
noncomputable def aeqL (H : AH) (i j : Nat) : Option Bool := match H[i]?, H[j]? with
  | some (.list x), some (.list y) => (match intsOf x, intsOf y with
    | some x, some y => some (decide (x = y))
    | _, _ => none)
  | _, _ => none
noncomputable def aeq (H : AH) (a b : AV) : Option Bool := match a with
  | .int x => (match b with | .int y => some (decide (x = y)) | _ => none)
  | .str x => (match b with | .str y => some (decide (x = y)) | _ => none)
  | .ref i => (match b with | .ref j => aeqL H i j | _ => none)
  | _ => none
noncomputable def strsOf : List AV → Option (List (List Nat))
  | [] => some []
  | .str s :: r => (strsOf r).map (s :: ·)
  | _ :: _ => none
noncomputable def isV (a b : AV) : Option Bool := match b with
  | .none => (match a with | .none => some true | _ => some false)
  | _ => none
noncomputable def cmpV (H : AH) (op : CmpOp) (a b : AV) : Option Bool := match op with
  | .Eq => aeq H a b
  | .NotEq => (aeq H a b).map fun x => !x
  | .Lt => (match a with | .int x => (match b with | .int y => some (decide (x < y)) | _ => none) | _ => none)
  | .Gt => (match a with | .int x => (match b with | .int y => some (decide (y < x)) | _ => none) | _ => none)
  | .Is => isV a b
  | .IsNot => (isV a b).map fun x => !x
  | .In => (match a with | .str x => (match b with | .tup l => (strsOf l).map fun ss => ss.any (· == x) | _ => none) | _ => none)
  | _ => none
noncomputable def truthV : AV → Option Bool
  | .bool b => some b
  | _ => none

noncomputable def natOf : AV → Option Nat
  | .int i => if 0 ≤ i then some i.toNat else none
  | _ => none
inductive SK where
  | all | take (b : Nat) | drop (a : Nat) | run (a b : Nat) | rev | down
noncomputable def SK.ap {α : Type} (k : SK) (l : List α) : List α := match k with
  | .all => l
  | .take b => l.take b
  | .drop a => l.drop a
  | .run a b => (l.take b).drop a
  | .rev => l.reverse
  | .down => (l.drop 1).reverse
noncomputable def SK.of (x y : Option Nat) : SK := match x with
  | none => (match y with | none => .all | some b => .take b)
  | some a => (match y with | none => .drop a | some b => .run a b)
noncomputable def SK.back (x y : Option Nat) : Option SK := match x with
  | none => (match y with | none => some .rev | some j => if j = 0 then some .down else none)
  | some _ => none
noncomputable def partN : AV → Option (Option Nat)
  | .none => some none
  | .int i => if 0 ≤ i then some (some i.toNat) else none
  | _ => none
noncomputable def stK : AV → Option Bool
  | .none => some true
  | .int s => if s = -1 then some false else none
  | _ => none
noncomputable def skOf (lo hi st : AV) : Option SK := (partN lo).bind fun x => (partN hi).bind fun y => (stK st).bind fun p => if p = true then some (SK.of x y) else SK.back x y
noncomputable def sliceV (H : AH) (v lo hi st : AV) : Out AV := match skOf lo hi st with
  | none => .bad
  | some k => (match v with
    | .str s => (match st with | .none => .ok (.str (k.ap s)) H | _ => .bad)
    | .ref i => (match H[i]? with
      | some (.list l) => .ok (.ref H.length) (H ++ [.list (k.ap l)])
      | _ => .bad)
    | .ilist l => .ok (.ref H.length) (H ++ [.list ((k.ap l).map AV.int)])
    | _ => .bad)
noncomputable def itemN (H : AH) (v : AV) (k : Nat) : Option AV := match v with
  | .tup l => l[k]?
  | .str s => s[k]?.map fun c => .str [c]
  | .ref j => (match H[j]? with | some (.list l) => l[k]? | _ => none)
  | _ => none
noncomputable def itemV (H : AH) (v i : AV) : Option AV := (natOf i).bind fun k => itemN H v k
noncomputable def attrV (fld : Nat → Nat → Bool) (H : AH) (v : AV) (a : Nat) : Option AV := match v with
  | .ref i => (match H[i]? with | some (.inst c fs) => if fld c a then lookL a fs else none | _ => none)
  | _ => none
noncomputable def catV (H : AH) (i j : Nat) : Out AV := match H[i]?, H[j]? with
  | some (.list x), some (.list y) => if x.length + y.length ≤ big then .ok (.ref H.length) (H ++ [.list (x ++ y)]) else .bad
  | _, _ => .bad
noncomputable def addV (H : AH) (a b : AV) : Out AV := match a with
  | .int x => (match b with | .int y => .ok (.int (x + y)) H | _ => .bad)
  | .str x => (match b with | .str y => if x.length + y.length ≤ big then .ok (.str (x ++ y)) H else .bad | _ => .bad)
  | .ref i => (match b with | .ref j => catV H i j | _ => .bad)
  | _ => .bad
noncomputable def binV (H : AH) (op : Operator) (a b : AV) : Out AV := match op with
  | .Add => addV H a b
  | .Sub => (match a with | .int x => (match b with | .int y => .ok (.int (x - y)) H | _ => .bad) | _ => .bad)
  | .Mod => (match a with | .int x => (match b with | .int y => if 0 < y then .ok (.int (x % y)) H else .bad | _ => .bad) | _ => .bad)
  | .Mult => (match a with | .str x => (match b with | .int y => if 0 ≤ y ∧ y ≤ 1000 ∧ x.length ≤ 1000 then .ok (.str (List.replicate y.toNat x).flatten) H else .bad | _ => .bad) | _ => .bad)
  | _ => .bad
noncomputable def lenV (H : AH) (a : AV) : Out AV := match a with
  | .str s => .ok (.int s.length) H
  | .tup l => .ok (.int l.length) H
  | .ref i => (match H[i]? with | some (.list l) => .ok (.int l.length) H | _ => .bad)
  | _ => .bad
noncomputable def isiV (H : AH) (a b : AV) : Out AV := match b with
  | .bi .str => (match a with | .str _ => .ok (.bool true) H | _ => .bad)
  | .bi .tuple => (match a with | .str _ => .ok (.bool false) H | .int _ => .ok (.bool false) H | .none => .ok (.bool false) H | _ => .bad)
  | _ => .bad
noncomputable def biV (H : AH) (b : Bi) (args : List AV) : Out AV := match args with
  | [a] => (match b with
    | .len => lenV H a
    | .abs => (match a with | .int i => .ok (.int i.natAbs) H | _ => .bad)
    | .int => (match a with | .int i => .ok (.int i) H | _ => .bad)
    | .range => (match a with | .int b => if 0 ≤ b ∧ b ≤ 1000000 then .ok (.rng 0 b) H else .bad | _ => .bad)
    | _ => .bad)
  | [a, c] => (match b with | .isi => isiV H a c | _ => .bad)
  | _ => .bad
noncomputable def joinL (sep : List Nat) : List (List Nat) → List Nat
  | [] => []
  | [x] => x
  | x :: r => x ++ sep ++ joinL sep r
/-- what a method's name finds: a def of the text, or a built-in kind's: 0 append, 1 pop, 2 extend, 3 insert, 4 reverse; 5 join; 6 get -/
inductive Hd where
  | fn (k : Nat)
  | bim
noncomputable def popV (H : AH) (i : Nat) (l : List AV) : Out AV := match l.getLast? with | some v => .ok v (H.set i (.list l.dropLast)) | none => .bad
noncomputable def extV (H : AH) (i : Nat) (l : List AV) (a : AV) : Out AV := match a with
  | .ref j => (match H[j]? with
    | some (.list x) => if l.length + x.length < big then .ok .none (H.set i (.list (l ++ x))) else .bad
    | _ => .bad)
  | _ => .bad
noncomputable def liV (H : AH) (i : Nat) (l : List AV) (m : Nat) (args : List AV) : Out AV := match args with
  | [] => (match m with
    | 1 => popV H i l
    | 4 => .ok .none (H.set i (.list l.reverse))
    | _ => .bad)
  | [v] => (match m with
    | 0 => if l.length < big then .ok .none (H.set i (.list (l ++ [v]))) else .bad
    | 2 => extV H i l v
    | _ => .bad)
  | _ => .bad
noncomputable def joinV (H : AH) (s : List Nat) (a : AV) : Out AV := match a with
  | .ref i => (match H[i]? with
    | some (.list l) => (match strsOf l with
      | some x => if (x.map (·.length)).sum + x.length * s.length ≤ 16777216 then .ok (.str (joinL s x)) H else .bad
      | none => .bad)
    | _ => .bad)
  | _ => .bad
noncomputable def bimV (H : AH) (o : AV) (m : Nat) (args : List AV) : Out AV := match o with
  | .ref i => (match H[i]? with
    | some (.list l) => liV H i l m args
    | _ => .bad)
  | .str s => (match args with | [a] => joinV H s a | _ => .bad)
  | _ => .bad

/-! iteration -/
inductive It where
  | list (r k : Nat)
  | rng (a b : Int)
  | enm (k : Nat) (s : List Nat)
noncomputable def iterOf (H : AH) : AV → Option It
  | .ref r => (match H[r]? with | some (.list _) => some (.list r 0) | _ => none)
  | .rng a b => some (.rng a b)
  | _ => none
noncomputable def stepIt (H : AH) : It → Option (Option (AV × It))
  | .list r k => (match H[r]? with | some (.list xs) => some (xs[k]?.map fun v => (v, .list r (k + 1))) | _ => none)
  | .rng a b => some (if a < b then some (.int a, .rng (a + 1) b) else none)
  | .enm k s => (match s with | [] => some none | c :: r => some (some (.tup [.int k, .str [c]], .enm (k + 1) r)))

/-! the program's tables -/
structure P0 where
  body : Nat → Option (Nat × Nat × List S0)
  init : Nat → Option Nat
  meth : Nat → Nat → Option Nat
  fld : Nat → Nat → Bool

section
variable (P : P0) (call : Nat → List AV → AH → Out AV) (N : Nat)
noncomputable def callV (f : AV) (args : List AV) (H : AH) : Out AV := match f with
  | .fn k => call k args H
  | .cls c => (match P.init c with
    | some k => (call k (.ref H.length :: args) (H ++ [.inst c []])).bind fun v H' => match v with | .none => .ok (.ref H.length) H' | _ => .bad
    | none => .bad)
  | .bi b => biV H b args
  | _ => .bad
noncomputable def isFn : AV → Bool
  | .fn k => (P.body k).isSome
  | .cls c => (P.init c).isSome
  | .bi _ => true
  | _ => false
noncomputable def headV (H : AH) (o : AV) (m : Nat) : Option Hd := match o with
  | .ref i => (match H[i]? with
    | some (.inst c fs) => (match lookL m fs, P.meth c m with
      | none, some k => some (.fn k)
      | _, _ => none)
    | some (.list _) => if m < 5 then some .bim else none
    | _ => none)
  | .str _ => if m = 5 then some .bim else none
  | _ => none
noncomputable def methV (hd : Hd) (o : AV) (m : Nat) (args : List AV) (H : AH) : Out AV := match hd with
  | .fn k => call k (o :: args) H
  | .bim => bimV H o m args
noncomputable def cmpGo (H : AH) (a : AV) : List CmpOp → List (AH → Out AV) → Out AV
  | [op], [r] => (r H).bind fun b H => match cmpV H op a b with | some x => .ok (.bool x) H | none => .bad
  | _, _ => .bad
noncomputable def bopGo (op : BoolOp) (H : AH) : List (AH → Out AV) → Out AV
  | [] => .bad
  | [x] => x H
  | x :: r => (x H).bind fun v H => match op, truthV v with
    | .And, some false => .ok v H
    | .Or, some true => .ok v H
    | _, some _ => bopGo op H r
    | _, none => .bad
noncomputable def compIn (k : Loc → AH → List AV → Out (List AV)) (ifs elt : Loc → AH → Out AV) (l : Loc) (H : AH) (acc : List AV) : Out (List AV) := match ifs l H with
  | .ok (.bool true) H1 => (match elt l H1 with
    | .ok x H2 => if acc.length < big then k l H2 (acc ++ [x]) else .bad
    | _ => .bad)
  | .ok (.bool false) H1 => k l H1 acc
  | _ => .bad
noncomputable def compGo (tg : AV → Loc → Option Loc) (ifs : Loc → AH → Out AV) (elt : Loc → AH → Out AV) : Nat → It → Loc → AH → List AV → Out (List AV)
  | 0, _, _, _, _ => .bad
  | n + 1, it, l, H, acc => match stepIt H it with
    | none => .bad
    | some none => .ok acc H
    | some (some (v, it')) => match tg v l with
      | none => .bad
      | some l' => compIn (compGo tg ifs elt n it') ifs elt l' H acc
/-- a plain target: names and tuples of names -/
noncomputable def setLoc (l : Loc) (i : Nat) (v : AV) : Option Loc := if i < l.length then some (l.set i (some v)) else none
mutual
noncomputable def tgV : T0 → AV → Loc → Option Loc
  | .name i, v, l => setLoc l i v
  | .tup ts, .tup vs, l => tgVs ts vs l
  | _, _, _ => none
noncomputable def tgVs : List T0 → List AV → Loc → Option Loc
  | [], [], l => some l
  | t :: ts, v :: vs, l => (tgV t v l).bind fun l => tgVs ts vs l
  | _, _, _ => none
end
mutual
noncomputable def evE : E0 → Loc → AH → Out AV
  | .bad, _, _ => .bad
  | .val v, _, H => .ok v H
  | .loc i, l, H => (match l[i]? with | some (some v) => .ok v H | _ => .bad)
  | .tup es, l, H => (evEs es l H).bind fun vs H => .ok (.tup vs) H
  | .list es, l, H => (evEs es l H).bind fun vs H => .ok (.ref H.length) (H ++ [.list vs])
  | .attr o a, l, H => (evE o l H).bind fun v H => match attrV P.fld H v a with | some r => .ok r H | none => .bad
  | .item o i, l, H => (evE o l H).bind fun v H => (evE i l H).bind fun k H => match itemV H v k with | some r => .ok r H | none => .bad
  | .slice o lo hi st, l, H => (evE o l H).bind fun v H => (evE lo l H).bind fun a H => (evE hi l H).bind fun b H => (evE st l H).bind fun c H => sliceV H v a b c
  | .bin x op y, l, H => (evE x l H).bind fun a H => (evE y l H).bind fun b H => binV H op a b
  | .neg e, l, H => (evE e l H).bind fun v H => match v with | .int i => .ok (.int (-i)) H | _ => .bad
  | .not e, l, H => (evE e l H).bind fun v H => match truthV v with | some b => .ok (.bool (!b)) H | none => .bad
  | .bop op es, l, H => bopGo op H (evFs es l)
  | .cmp x ops rs, l, H => (evE x l H).bind fun a H => cmpGo H a ops (evFs rs l)
  | .ite c a b, l, H => (evE c l H).bind fun v H => match truthV v with
    | some true => evE a l H
    | some false => evE b l H
    | none => .bad
  | .call f args, l, H => (evE f l H).bind fun f H => if isFn P f = true then (evEs args l H).bind fun vs H => callV P call f vs H else .bad
  | .meth o m args, l, H => (evE o l H).bind fun o H => match headV P H o m with
    | some hd => (evEs args l H).bind fun vs H => methV call hd o m vs H
    | none => .bad
  | .comp elt tg it ifs n, l, H => (evE it l H).bind fun v H => match iterOf H v with
    | some i => (compGo (tgV tg) (fun l H => evIfs ifs l H) (fun l H => evE elt l H) N i (List.replicate n none) H []).bind fun xs H => .ok (.ref H.length) (H ++ [.list xs])
    | none => .bad
  | .dict _ _, _, H => .ok (.ref H.length) (H ++ [.dict])
noncomputable def evEs : List E0 → Loc → AH → Out (List AV)
  | [], _, H => .ok [] H
  | e :: r, l, H => (evE e l H).bind fun v H => (evEs r l H).bind fun vs H => .ok (v :: vs) H
noncomputable def evFs : List E0 → Loc → List (AH → Out AV)
  | [], _ => []
  | e :: r, l => (fun H => evE e l H) :: evFs r l
noncomputable def evIfs : List E0 → Loc → AH → Out AV
  | [], _, H => .ok (.bool true) H
  | e :: r, l, H => (evE e l H).bind fun v H => match truthV v with
    | some true => evIfs r l H
    | some false => .ok (.bool false) H
    | none => .bad
end
noncomputable def augV (H : AH) (op : Operator) (a b : AV) : Out AV := match a with
  | .int x => (match b with
    | .int y => (match op with | .Add => .ok (.int (x + y)) H | .Sub => .ok (.int (x - y)) H | _ => .bad)
    | _ => .bad)
  | _ => .bad
noncomputable def Out.so (x : Out Loc) (l : Loc) : SO := match x with
  | .ok l H => .ok .next l H
  | .bad => .bad
/-- an attribute stored -/
noncomputable def putA (fld : Nat → Nat → Bool) (H : AH) (o : AV) (a : Nat) (v : AV) : Option AH := match o with
  | .ref i => (match H[i]? with
    | some (.inst c fs) => if fld c a then some (H.set i (.inst c (setL a v fs))) else none
    | _ => none)
  | _ => none
noncomputable def putI (H : AH) (o k v : AV) : Option AH := match o with
  | .ref i => (match H[i]? with
    | some (.list l) => (match natOf k with | some j => if j < l.length then some (H.set i (.list (l.set j v))) else none | none => none)
    | _ => none)
  | _ => none
mutual
noncomputable def asT : T0 → AV → Loc → AH → Out Loc
  | .bad, _, _, _ => .bad
  | .name i, v, l, H => (match setLoc l i v with | some l => .ok l H | none => .bad)
  | .attr o a, v, l, H => (evE P call N o l H).bind fun o H => match putA P.fld H o a v with | some H => .ok l H | none => .bad
  | .item o i, v, l, H => (evE P call N o l H).bind fun o H => (evE P call N i l H).bind fun k H => match putI H o k v with | some H => .ok l H | none => .bad
  | .tup ts, v, l, H => (match v with | .tup vs => if ts.length = vs.length then asTs ts vs l H else .bad | _ => .bad)
noncomputable def asTs : List T0 → List AV → Loc → AH → Out Loc
  | [], [], l, H => .ok l H
  | t :: ts, v :: vs, l, H => (asT t v l H).bind fun l H => asTs ts vs l H
  | _, _, _, _ => .bad
end
noncomputable def SO.loop (x : SO) (k : Loc → AH → SO) : SO := match x with
  | .ok .next l H => k l H
  | .ok .cont l H => k l H
  | .ok (.ret v) l H => .ok (.ret v) l H
  | .bad => .bad
noncomputable def whileGo (test : Loc → AH → Out AV) (body : Loc → AH → SO) : Nat → Loc → AH → SO
  | 0, _, _ => .bad
  | n + 1, l, H => match test l H with
    | .ok (.bool true) H1 => (body l H1).loop (whileGo test body n)
    | .ok (.bool false) H1 => .ok .next l H1
    | _ => .bad
noncomputable def forGo (tg : AV → Loc → Option Loc) (body : Loc → AH → SO) : Nat → It → Loc → AH → SO
  | 0, _, _, _ => .bad
  | n + 1, it, l, H => match stepIt H it with
    | none => .bad
    | some none => .ok .next l H
    | some (some (v, it')) => match tg v l with
      | none => .bad
      | some l1 => (body l1 H).loop (forGo tg body n it')
noncomputable def SO.andThen (x : SO) (k : Loc → AH → SO) : SO := match x with
  | .ok .next l H => k l H
  | x => x
noncomputable def Out.thenS {α : Type} (x : Out α) (l : Loc) (k : α → AH → SO) : SO := match x with
  | .ok a H => k a H
  | .bad => .bad
noncomputable def plainV : AV → Bool
  | .none | .bool _ | .int _ | .str _ => true
  | _ => false
mutual
noncomputable def evS : S0 → Loc → AH → SO
  | .bad, _, _ => .bad
  | .expr e, l, H => (evE P call N e l H).thenS l fun v H => if plainV v then .ok .next l H else .bad
  | .asg t e, l, H => (evE P call N e l H).thenS l fun v H => (asT P call N t v l H).so l
  | .augN i op e, l, H => (match l[i]? with
    | some (some old) => (evE P call N e l H).thenS l fun v H => (augV H op old v).thenS l fun r H => (match setLoc l i r with | some l => .ok .next l H | none => .bad)
    | _ => .bad)
  | .augA o a op e, l, H => (evE P call N o l H).thenS l fun o H => match attrV P.fld H o a with
    | some old => (evE P call N e l H).thenS l fun v H => (augV H op old v).thenS l fun r H => (match putA P.fld H o a r with | some H => .ok .next l H | none => .bad)
    | none => .bad
  | .ret e, l, H => (evE P call N e l H).thenS l fun v H => .ok (.ret v) l H
  | .ite c a b, l, H => (evE P call N c l H).thenS l fun v H => match truthV v with
    | some true => evSs a l H
    | some false => evSs b l H
    | none => .bad
  | .while_ c b, l, H => whileGo (fun l H => evE P call N c l H) (fun l H => evSs b l H) N l H
  | .for_ t it b, l, H => (evE P call N it l H).thenS l fun v H => match iterOf H v with
    | some i => forGo (tgV t) (fun l H => evSs b l H) N i l H
    | none => .bad
  | .forE t a b, l, H => (evE P call N a l H).thenS l fun v H => match v with
    | .str x => forGo (tgV t) (fun l H => evSs b l H) N (.enm 0 x) l H
    | _ => .bad
  | .cont, l, H => .ok .cont l H
noncomputable def evSs : List S0 → Loc → AH → SO
  | [], l, H => .ok .next l H
  | s :: r, l, H => (evS s l H).andThen fun l H => evSs r l H
end
noncomputable def runFn (k : Nat) (args : List AV) (H : AH) : Out AV := match P.body k with
  | none => .bad
  | some (np, ns, b) => if args.length = np then
      match evSs P call N b (args.map some ++ List.replicate ns none) H with
      | .ok (.ret v) _ H => .ok v H
      | .ok .next _ H => .ok .none H
      | .ok _ _ _ => .bad
      | .bad => .bad
    else .bad
end
noncomputable def callD (P : P0) (N : Nat) : Nat → Nat → List AV → AH → Out AV
  | 0 => fun _ _ _ => .bad
  | d + 1 => runFn P (callD P N d) N
end Mine
end -- EngA
section -- EngB
namespace Mine
open PySem

/-! the syntax with places: py brings back the text's own tree, st drops the places -/
mutual
inductive E where
  | bad
  | cint (i : Int) (k : Nat) (p : Pos)
  | cstr (s : Str) (k : Nat) (p : Pos)
  | cbool (b : Bool) (k : Nat) (p : Pos)
  | cnone (k : Nat) (p : Pos)
  | non
  | loc (x : Str) (i : Nat) (p : Pos)
  | glob (x : Str) (g : Nat) (p : Pos)
  | gbad (x : Str) (p : Pos)
  | tup (es : List E) (k : Nat) (p : Pos)
  | list (es : List E) (p : Pos)
  | attr (o : E) (x : Str) (a : Nat) (p : Pos)
  | item (o i : E) (p : Pos)
  | slice (o : E) (lo hi st : E) (p1 p : Pos)
  | bin (l : E) (op : Operator) (r : E) (p : Pos)
  | neg (e : E) (p : Pos)
  | not (e : E) (p : Pos)
  | bop (op : BoolOp) (es : List E) (p : Pos)
  | cmp (l : E) (ops : List CmpOp) (rs : List E) (p : Pos)
  | ite (c a b : E) (p : Pos)
  | call (f : E) (args : List E) (p : Pos)
  | meth (o : E) (x : Str) (m : Nat) (args : List E) (ap p : Pos)
  | comp (elt : E) (tg : T) (it : E) (ifs : List E) (sc : Scope) (slots : List Str) (p : Pos)
  | dict (ks vs : List E) (p : Pos)
inductive T where
  | bad
  | name (x : Str) (i : Nat) (p : Pos)
  | attr (o : E) (x : Str) (a : Nat) (p : Pos)
  | item (o i : E) (p : Pos)
  | tup (ts : List T) (k : Nat) (p : Pos)
end
inductive S where
  | bad (t : Stmt)
  | expr (e : E) (p : Pos)
  | asg (t : T) (e : E) (p : Pos)
  | augN (x : Str) (i : Nat) (np : Pos) (op : Operator) (e : E) (p : Pos)
  | augA (o : E) (x : Str) (a : Nat) (tp : Pos) (op : Operator) (e : E) (p : Pos)
  | ret (e : E) (p : Pos)
  | ite (c : E) (a b : List S) (p : Pos)
  | while_ (c : E) (b : List S) (p : Pos)
  | for_ (t : T) (it : E) (b : List S) (p : Pos)
  | forE (t : T) (np : Pos) (a : E) (cp : Pos) (b : List S) (p : Pos)
  | cont (p : Pos)

noncomputable def str0 (s : Str) : AV := .str s.cps.toList
section
variable (gt : List (Str × AV))
mutual
noncomputable def st : E → E0
  | .bad => .bad
  | .cint i _ _ => .val (.int i)
  | .cstr s _ _ => .val (str0 s)
  | .cbool b _ _ => .val (.bool b)
  | .cnone _ _ => .val .none
  | .non => .val .none
  | .loc _ i _ => .loc i
  | .glob _ g _ => .val (((gt[g]?).map (·.2)).getD .none)
  | .gbad _ _ => .bad
  | .tup es _ _ => .tup (sts es)
  | .list es _ => .list (sts es)
  | .attr o _ a _ => .attr (st o) a
  | .item o i _ => .item (st o) (st i)
  | .slice o lo hi s _ _ => .slice (st o) (st lo) (st hi) (st s)
  | .bin l op r _ => .bin (st l) op (st r)
  | .neg e _ => .neg (st e)
  | .not e _ => .not (st e)
  | .bop op es _ => .bop op (sts es)
  | .cmp l ops rs _ => .cmp (st l) ops (sts rs)
  | .ite c a b _ => .ite (st c) (st a) (st b)
  | .call f args _ => .call (st f) (sts args)
  | .meth o _ m args _ _ => .meth (st o) m (sts args)
  | .comp elt tg it ifs _ slots _ => .comp (st elt) (stT tg) (st it) (sts ifs) slots.length
  | .dict ks vs _ => .dict (sts ks) (sts vs)
noncomputable def sts : List E → List E0
  | [] => []
  | e :: r => st e :: sts r
noncomputable def stT : T → T0
  | .bad => .bad
  | .name _ i _ => .name i
  | .attr o _ a _ => .attr (st o) a
  | .item o i _ => .item (st o) (st i)
  | .tup ts _ _ => .tup (stTs ts)
noncomputable def stTs : List T → List T0
  | [] => []
  | t :: r => stT t :: stTs r
end
mutual
noncomputable def stS : S → S0
  | .bad _ => .bad
  | .expr e _ => .expr (st gt e)
  | .asg t e _ => .asg (stT gt t) (st gt e)
  | .augN _ i _ op e _ => .augN i op (st gt e)
  | .augA o _ a _ op e _ => .augA (st gt o) a op (st gt e)
  | .ret e _ => .ret (st gt e)
  | .ite c a b _ => .ite (st gt c) (stSs a) (stSs b)
  | .while_ c b _ => .while_ (st gt c) (stSs b)
  | .for_ t it b _ => .for_ (stT gt t) (st gt it) (stSs b)
  | .forE t _ a _ b _ => .forE (stT gt t) (st gt a) (stSs b)
  | .cont _ => .cont
noncomputable def stSs : List S → List S0
  | [] => []
  | s :: r => stS s :: stSs r
end
end

noncomputable def onNon : E → Expr → Option Expr
  | .non, _ => none
  | _, x => some x
noncomputable def noExpr : Expr := .Constant .ellipsis 0 ⟨0, 0, 0, 0⟩
mutual
noncomputable def py : E → Expr
  | .bad => noExpr
  | .cint i k p => .Constant (.int i) k p
  | .cstr s k p => .Constant (.str s) k p
  | .cbool b k p => .Constant (.bool b) k p
  | .cnone k p => .Constant .none k p
  | .non => noExpr
  | .loc x _ p => .Name x p
  | .glob x _ p => .Name x p
  | .gbad x p => .Name x p
  | .tup es k p => .Tuple (pys es) k p
  | .list es p => .List (pys es) p
  | .attr o x _ p => .Attribute (py o) x p
  | .item o i p => .Subscript (py o) (py i) p
  | .slice o lo hi s p1 p => .Subscript (py o) (.Slice (onNon lo (py lo)) (onNon hi (py hi)) (onNon s (py s)) p1) p
  | .bin l op r p => .BinOp (py l) op (py r) p
  | .neg e p => .UnaryOp .USub (py e) p
  | .not e p => .UnaryOp .Not (py e) p
  | .bop op es p => .BoolOp op (pys es) p
  | .cmp l ops rs p => .Compare (py l) ops (pys rs) p
  | .ite c a b p => .IfExp (py c) (py a) (py b) p
  | .call f args p => .Call (py f) (pys args) [] p
  | .meth o x _ args ap p => .Call (.Attribute (py o) x ap) (pys args) [] p
  | .comp elt tg it ifs sc _ p => .ListComp (py elt) [⟨pyT tg, py it, pys ifs, 0⟩] sc p
  | .dict ks vs p => .Dict (pyos ks) (pys vs) p
noncomputable def pys : List E → List Expr
  | [] => []
  | e :: r => py e :: pys r
noncomputable def pyos : List E → List (Option Expr)
  | [] => []
  | e :: r => some (py e) :: pyos r
noncomputable def pyT : T → Expr
  | .bad => noExpr
  | .name x _ p => .Name x p
  | .attr o x _ p => .Attribute (py o) x p
  | .item o i p => .Subscript (py o) (py i) p
  | .tup ts k p => .Tuple (pyTs ts) k p
noncomputable def pyTs : List T → List Expr
  | [] => []
  | t :: r => pyT t :: pyTs r
end
noncomputable abbrev pyO (e : E) : Option Expr := onNon e (py e)
mutual
noncomputable def pyS : S → Stmt
  | .bad t => t
  | .expr e p => .Expr (py e) p
  | .asg t e p => .Assign [pyT t] (py e) p
  | .augN x _ np op e p => .AugAssign (.Name x np) op (py e) p
  | .augA o x _ tp op e p => .AugAssign (.Attribute (py o) x tp) op (py e) p
  | .ret e p => .Return (some (py e)) p
  | .ite c a b p => .If (py c) (pySs a) (pySs b) p
  | .while_ c b p => .While (py c) (pySs b) [] p
  | .for_ t it b p => .For (pyT t) (py it) (pySs b) [] p
  | .forE t np a cp b p => .For (pyT t) (.Call (.Name "enumerate" np) [py a] [] cp) (pySs b) [] p
  | .cont p => .Continue p
noncomputable def pySs : List S → List Stmt
  | [] => []
  | s :: r => pyS s :: pySs r
end

/-! the reader of the text's tree (only run, never reasoned about) -/
noncomputable def idx (x : Str) : List Str → Nat → Option Nat
  | [], _ => none
  | y :: r, k => if x == y then some k else idx x r (k + 1)
section
variable (nm : List Str) (gt : List (Str × AV))
noncomputable def erName (sc : Scope) (slots : List Str) (x : Str) (p : Pos) : E :=
  match sc.names.lookup x with
  | some .local => (match idx x slots 0 with | some i => .loc x i p | none => .bad)
  | some .globalImplicit => (match idx x (gt.map (·.1)) 0 with | some g => .glob x g p | none => .gbad x p)
  | _ => .bad
noncomputable def locals (sc : Scope) : List Str := sc.names.filterMap fun n => if n.2 == .local then some n.1 else none
mutual
noncomputable def er (sc : Scope) (slots : List Str) : Expr → E
  | .Constant (.int i) k p => .cint i k p
  | .Constant (.str s) k p => .cstr s k p
  | .Constant (.bool b) k p => .cbool b k p
  | .Constant .none k p => .cnone k p
  | .Name x p => erName gt sc slots x p
  | .Tuple es k p => .tup (ers sc slots es) k p
  | .List es p => .list (ers sc slots es) p
  | .Attribute o x p => (match idx x nm 0 with | some a => .attr (er sc slots o) x a p | none => .bad)
  | .Subscript o (.Slice lo hi s p1) p => .slice (er sc slots o) (erO sc slots lo) (erO sc slots hi) (erO sc slots s) p1 p
  | .Subscript o i p => .item (er sc slots o) (er sc slots i) p
  | .BinOp l op r p => .bin (er sc slots l) op (er sc slots r) p
  | .UnaryOp .USub e p => .neg (er sc slots e) p
  | .UnaryOp .Not e p => .not (er sc slots e) p
  | .BoolOp op es p => .bop op (ers sc slots es) p
  | .Compare l ops rs p => .cmp (er sc slots l) ops (ers sc slots rs) p
  | .IfExp c a b p => .ite (er sc slots c) (er sc slots a) (er sc slots b) p
  | .Call (.Attribute o x ap) args [] p => (match idx x nm 0 with | some a => .meth (er sc slots o) x a (ers sc slots args) ap p | none => .bad)
  | .Call f args [] p => .call (er sc slots f) (ers sc slots args) p
  | .ListComp elt [⟨tg, it, ifs, 0⟩] sc' p => .comp (er sc' (locals sc') elt) (erT sc' (locals sc') tg) (er sc slots it) (ers sc' (locals sc') ifs) sc' (locals sc') p
  | .Dict ks vs p => .dict (eros sc slots ks) (ers sc slots vs) p
  | _ => .bad
noncomputable def erO (sc : Scope) (slots : List Str) : Option Expr → E
  | none => .non
  | some e => er sc slots e
noncomputable def ers (sc : Scope) (slots : List Str) : List Expr → List E
  | [] => []
  | e :: r => er sc slots e :: ers sc slots r
noncomputable def eros (sc : Scope) (slots : List Str) : List (Option Expr) → List E
  | [] => []
  | none :: r => .bad :: eros sc slots r
  | some e :: r => er sc slots e :: eros sc slots r
noncomputable def erT (sc : Scope) (slots : List Str) : Expr → T
  | .Name x p => (match idx x slots 0 with | some i => .name x i p | none => .bad)
  | .Attribute o x p => (match idx x nm 0 with | some a => .attr (er sc slots o) x a p | none => .bad)
  | .Subscript o i p => .item (er sc slots o) (er sc slots i) p
  | .Tuple ts k p => .tup (erTs sc slots ts) k p
  | _ => .bad
noncomputable def erTs (sc : Scope) (slots : List Str) : List Expr → List T
  | [] => []
  | e :: r => erT sc slots e :: erTs sc slots r
end
mutual
noncomputable def erS (sc : Scope) (slots : List Str) : Stmt → S
  | .Expr e p => .expr (er nm gt sc slots e) p
  | .Assign [t] e p => .asg (erT nm gt sc slots t) (er nm gt sc slots e) p
  | .AugAssign (.Name x np) op e p => (match idx x slots 0 with | some i => .augN x i np op (er nm gt sc slots e) p | none => .bad (.AugAssign (.Name x np) op e p))
  | .AugAssign (.Attribute o x tp) op e p => (match idx x nm 0 with | some a => .augA (er nm gt sc slots o) x a tp op (er nm gt sc slots e) p | none => .bad (.AugAssign (.Attribute o x tp) op e p))
  | .Return (some e) p => .ret (er nm gt sc slots e) p
  | .If c a b p => .ite (er nm gt sc slots c) (erSs sc slots a) (erSs sc slots b) p
  | .While c b [] p => .while_ (er nm gt sc slots c) (erSs sc slots b) p
  | .For t (.Call (.Name x np) [a] [] cp) b [] p => if x == ("enumerate" : Str) then .forE (erT nm gt sc slots t) np (er nm gt sc slots a) cp (erSs sc slots b) p
    else .for_ (erT nm gt sc slots t) (er nm gt sc slots (.Call (.Name x np) [a] [] cp)) (erSs sc slots b) p
  | .For t it b [] p => .for_ (erT nm gt sc slots t) (er nm gt sc slots it) (erSs sc slots b) p
  | .Continue p => .cont p
  | t => .bad t
noncomputable def erSs (sc : Scope) (slots : List Str) : List Stmt → List S
  | [] => []
  | s :: r => erS sc slots s :: erSs sc slots r
end
end
end Mine
end -- EngB
section -- EngC
namespace Mine
open PySem PySem.W PySem.Calls PyProof.Rows

/-! what the abstract state says of the machine's -/
structure Cx where
  prog : Program
  w : World
  K : Frag
  base : Heap
  nm : List Str
  gt : List (Str × AV)
  fnA : Nat → Addr
  clA : Nat → Addr
noncomputable abbrev Mu := List (Addr × Addr)
noncomputable def Own (μ : Mu) (a : Addr) : Prop := ∃ p ∈ μ, a = p.1 ∨ a = p.2
noncomputable def biVal : Bi → Value
  | .len => .builtin "len"
  | .isi => .builtin "isinstance"
  | .abs => .builtin "abs"
  | .int => .type "int"
  | .range => .type "range"
  | .enum => .type "enumerate"
  | .sorted => .builtin "sorted"
  | .list => .type "list"
  | .str => .type "str"
  | .tuple => .type "tuple"

section
variable (C : Cx) (μ : Mu) (h : Heap)
mutual
noncomputable def VR : AV → Value → Prop
  | .none, v => v = .none
  | .bool b, v => v = .bool b
  | .int i, v => ∃ t, v = .int i t
  | .str s, v => s.length ≤ big ∧ ∃ t, v = .str ⟨s.toArray⟩ t
  | .tup l, v => l.length ≤ big ∧ ∃ a o vs n, v = .ref a ∧ ¬ Own μ a ∧ h.get? a = some o ∧ o.cls = .type "tuple" ∧ o.data = .seq vs n ∧ VRs l vs.toList
  | .ref i, v => ∃ p, μ[i]? = some p ∧ v = .ref p.1
  | .fn k, v => v = .ref (C.fnA k)
  | .cls k, v => v = .ref (C.clA k)
  | .bi b, v => v = biVal b
  | .ilist l, v => l.length ≤ big ∧ ∃ a vs, v = .ref a ∧ C.base.IsList a vs ∧ IntsAre vs.toList l
  | .rng a b, v => (-(2 ^ 61) ≤ a ∧ a < 2 ^ 61 ∧ -(2 ^ 61) ≤ b ∧ b < 2 ^ 61) ∧ ∃ r t u w, v = .ref r ∧ ¬ Own μ r ∧ IsRange h r a b 1 t u w
noncomputable def VRs : List AV → List Value → Prop
  | [], [] => True
  | a :: r, v :: s => VR a v ∧ VRs r s
  | _, _ => False
end
/-- an object on the abstract heap and the machine's -/
noncomputable def OR : AObj → Addr × Addr → Prop
  | .list l, p => p.2 = p.1 ∧ l.length ≤ big ∧ ∃ vs n, IsL h p.1 vs n ∧ VRs C μ h l vs.toList
  | .inst c fs, p => h.get? p.1 = some (instObj (C.clA c) p.2) ∧ p.1 ≠ p.2 ∧ ∃ (m : Str → Option Value), h.Ns1 p.2 m ∧ (∀ y, m y ≠ none → y ∈ C.nm) ∧
      ∀ a x, C.nm[a]? = some x → match lookL a fs with
        | some v => ∃ rv, m x = some rv ∧ VR C μ h v rv
        | none => m x = none
  | .dict, p => p.2 = p.1 ∧ ∃ o, h.get? p.1 = some o
end

structure Inv (C : Cx) (μ : Mu) (H : AH) (h : Heap) : Prop where
  stays : ∀ b o, C.base.get? b = some o → h.get? b = some o
  len : μ.length = H.length
  objs : ∀ (i : Nat) (o : AObj) (p : Addr × Addr), H[i]? = some o → μ[i]? = some p → OR C μ h o p
  sep : ∀ (i j : Nat) (p q : Addr × Addr), μ[i]? = some p → μ[j]? = some q → i ≠ j → p.1 ≠ q.1 ∧ p.1 ≠ q.2 ∧ p.2 ≠ q.1 ∧ p.2 ≠ q.2
  new : ∀ p ∈ μ, C.base.get? p.1 = none ∧ C.base.get? p.2 = none

/-- one stretch of the machine; X: what may change beside the owned objects -/
structure Step (X : Addr → Prop) (μ : Mu) (s : Shared) (μ' : Mu) (s' : Shared) : Prop where
  pre : ∃ t, μ' = μ ++ t
  fresh : ∀ a, Own μ' a → Own μ a ∨ s.heap.get? a = none
  live : ∀ b o, s.heap.get? b = some o → ∃ o', s'.heap.get? b = some o'
  kept : ∀ b o, s.heap.get? b = some o → ¬ Own μ b → ¬ X b → ∃ sl, s'.heap.get? b = some { o with slots := sl } ∧ (o.cls ≠ .type "frame" → sl = o.slots)
  gens : s'.gens = s.gens
  os : s'.os = s.os
noncomputable abbrev NoX : Addr → Prop := fun _ => False

theorem Step.refl {X : Addr → Prop} {μ : Mu} {s : Shared} : Step X μ s μ s :=
  ⟨⟨[], by simp⟩, fun _ h => .inl h, fun _ o e => ⟨o, e⟩, fun _ o e _ _ => ⟨o.slots, e, fun _ => rfl⟩, rfl, rfl⟩
theorem own_mono {μ t : Mu} {a : Addr} (h : Own μ a) : Own (μ ++ t) a := let ⟨p, hp, e⟩ := h; ⟨p, List.mem_append_left _ hp, e⟩
theorem Step.own {X : Addr → Prop} {μ μ' : Mu} {s s' : Shared} (S : Step X μ s μ' s') {a : Addr} (h : Own μ a) : Own μ' a := by
  obtain ⟨t, rfl⟩ := S.pre; exact own_mono h
theorem Step.notOwn {X : Addr → Prop} {μ μ' : Mu} {s s' : Shared} (S : Step X μ s μ' s') {a : Addr} {o : Obj} (h : ¬ Own μ a) (e : s.heap.get? a = some o) : ¬ Own μ' a := fun q => by
  rcases S.fresh a q with q | q
  · exact h q
  · rw [e] at q; cases q
theorem Step.at {X : Addr → Prop} {μ μ' : Mu} {s s' : Shared} (S : Step X μ s μ' s') {i : Nat} {p : Addr × Addr} (h : μ[i]? = some p) : μ'[i]? = some p := by
  obtain ⟨t, rfl⟩ := S.pre
  rw [List.getElem?_append_left (List.getElem?_eq_some_iff.mp h).1]; exact h
theorem Step.trans {X Y : Addr → Prop} {μ₁ μ₂ μ₃ : Mu} {s₁ s₂ s₃ : Shared} (S : Step X μ₁ s₁ μ₂ s₂) (T : Step Y μ₂ s₂ μ₃ s₃) (hXY : ∀ a, Y a → X a ∨ s₁.heap.get? a = none) : Step X μ₁ s₁ μ₃ s₃ := by
  have S0 := S
  obtain ⟨t, rfl⟩ := S.pre
  obtain ⟨u, rfl⟩ := T.pre
  refine ⟨⟨t ++ u, by simp⟩, fun a h => ?_, fun b o e => ?_, fun b o e hn hx => ?_, T.gens.trans S.gens, T.os.trans S.os⟩
  · rcases T.fresh a h with q | q
    · exact S0.fresh a q
    · cases e : s₁.heap.get? a with
      | none => exact .inr rfl
      | some o =>
        obtain ⟨o', e'⟩ := S0.live a o e
        rw [e'] at q; cases q
  · obtain ⟨o', e'⟩ := S0.live b o e
    exact T.live b o' e'
  · obtain ⟨sl, e', q⟩ := S0.kept b o e hn hx
    obtain ⟨sl', e'', q'⟩ := T.kept b _ e' (S0.notOwn hn e) fun hy => (hXY b hy).elim hx fun z => by rw [e] at z; cases z
    exact ⟨sl', e'', fun hc => (q' hc).trans (q hc)⟩
theorem Step.exact {X : Addr → Prop} {μ μ' : Mu} {s s' : Shared} (S : Step X μ s μ' s') {b : Addr} {o : Obj} (e : s.heap.get? b = some o) (hn : ¬ Own μ b) (hx : ¬ X b) (hc : o.cls ≠ .type "frame") : s'.heap.get? b = some o := by
  obtain ⟨sl, e', q⟩ := S.kept b o e hn hx
  rw [q hc] at e'; exact e'
theorem Step.trans0 {X : Addr → Prop} {μ₁ μ₂ μ₃ : Mu} {s₁ s₂ s₃ : Shared} (S : Step X μ₁ s₁ μ₂ s₂) (T : Step X μ₂ s₂ μ₃ s₃) : Step X μ₁ s₁ μ₃ s₃ := S.trans T fun _ h => .inl h
theorem Step.weak {X Y : Addr → Prop} {μ μ' : Mu} {s s' : Shared} (S : Step X μ s μ' s') (h : ∀ a, X a → Y a) : Step Y μ s μ' s' :=
  ⟨S.pre, S.fresh, S.live, fun b o e hn hx => S.kept b o e hn fun z => hx (h b z), S.gens, S.os⟩

/-- no object of the kinds that values lean on -/
noncomputable def Plainly (o : Obj) : Prop := (∃ es n, o.data = .dict es n) ∨ (o.cls ≠ .type "tuple" ∧ o.cls ≠ .type "range")
theorem plainly_tuple {o : Obj} {vs : Array Value} {n : Nat} (hc : o.cls = .type "tuple") (hd : o.data = .seq vs n) : ¬ Plainly o := fun h => by
  rcases h with ⟨es, k, q⟩ | h
  · rw [hd] at q; cases q
  · exact h.1 hc
theorem plainly_range {o : Obj} {vs : Array Value} (hc : o.cls = .type "range") (hd : o.data = .fields vs) : ¬ Plainly o := fun h => by
  rcases h with ⟨es, k, q⟩ | h
  · rw [hd] at q; cases q
  · exact h.2 hc
/-- values stay true where what they lean on is kept -/
theorem VR.mono {C : Cx} {μ μ' : Mu} {h h' : Heap} (hat : ∀ (i : Nat) (p : Addr × Addr), μ[i]? = some p → μ'[i]? = some p)
    (hk : ∀ b o, h.get? b = some o → ¬ Own μ b → ¬ Plainly o → ¬ Own μ' b ∧ ∃ sl, h'.get? b = some { o with slots := sl } ∧ (o.cls ≠ .type "frame" → sl = o.slots)) :
    ∀ (a : AV) {v : Value}, VR C μ h a v → VR C μ' h' a v := by
  intro a
  refine AV.rec (motive_1 := fun a => ∀ {v}, VR C μ h a v → VR C μ' h' a v) (motive_2 := fun l => ∀ {v}, VRs C μ h l v → VRs C μ' h' l v)
    ?_ ?_ ?_ ?_ ?_ ?_ ?_ ?_ ?_ ?_ ?_ ?_ ?_ a
  · intro v h; simpa only [VR] using h
  · intro b v h; simpa only [VR] using h
  · intro i v h; simpa only [VR] using h
  · intro x v h; simpa only [VR] using h
  · intro l ih v h
    simp only [VR] at h ⊢
    obtain ⟨hl, a, o, vs, n, rfl, ho, e, hc, hd, hv⟩ := h
    obtain ⟨ho', sl, e', _⟩ := hk a o e ho (plainly_tuple hc hd)
    exact ⟨hl, a, _, vs, n, rfl, ho', e', hc, hd, ih hv⟩
  · intro i v h
    simp only [VR] at h ⊢
    obtain ⟨p, hp, e⟩ := h
    exact ⟨p, hat _ _ hp, e⟩
  · intro k v h; simpa only [VR] using h
  · intro k v h; simpa only [VR] using h
  · intro k v h; simpa only [VR] using h
  · intro k v h; simpa only [VR] using h
  · intro a b v h
    simp only [VR] at h ⊢
    obtain ⟨hl, r, t, u, w, rfl, ho, e⟩ := h
    obtain ⟨ho', sl, e', q⟩ := hk r _ e ho (plainly_range rfl rfl)
    rw [q (by simp)] at e'
    exact ⟨hl, r, t, u, w, rfl, ho', e'⟩
  · intro v h; cases v <;> simpa only [VRs] using h
  · intro a l ih1 ih2 v h
    cases v with
    | nil => simp only [VRs] at h
    | cons x r => simp only [VRs] at h ⊢; exact ⟨ih1 h.1, ih2 h.2⟩
theorem VRs.of {C : Cx} {μ μ' : Mu} {h h' : Heap} (V : ∀ a v, VR C μ h a v → VR C μ' h' a v) : ∀ (l : List AV) {vs : List Value}, VRs C μ h l vs → VRs C μ' h' l vs
  | [], [], _ => by simp only [VRs]
  | a :: r, v :: vs, h => by simp only [VRs] at h ⊢; exact ⟨V a v h.1, VRs.of V r h.2⟩
  | [], _ :: _, h => by simp only [VRs] at h
  | _ :: _, [], h => by simp only [VRs] at h
/-- values stay true along a step -/
theorem VR.step {C : Cx} {X : Addr → Prop} {μ μ' : Mu} {s s' : Shared} (S : Step X μ s μ' s') (hX : ∀ a o, X a → s.heap.get? a = some o → Plainly o) :
    ∀ (a : AV) {v : Value}, VR C μ s.heap a v → VR C μ' s'.heap a v :=
  VR.mono (fun _ _ h => S.at h) fun b o e hn hp => ⟨S.notOwn hn e, S.kept b o e hn fun x => hp (hX b o x e)⟩
theorem VRs.step {C : Cx} {X : Addr → Prop} {μ μ' : Mu} {s s' : Shared} (S : Step X μ s μ' s') (hX : ∀ a o, X a → s.heap.get? a = some o → Plainly o) :
    ∀ (l : List AV) {vs : List Value}, VRs C μ s.heap l vs → VRs C μ' s'.heap l vs := VRs.of fun a _ => VR.step S hX a

/-! the frame at hand -/
structure Fm where
  env : Env
  slots : List Str
  fr : List Env
  A : Around
structure FR (C : Cx) (F : Fm) (μ : Mu) (l : Loc) (h : Heap) : Prop where
  ns : ∃ m, h.Ns F.env.locals m ∧ ∀ (i : Nat) (x : Str) (v : AV), F.slots[i]? = some x → l[i]? = some (some v) → ∃ rv, m x = some rv ∧ VR C μ h v rv
  off : ¬ Own μ F.env.locals
  new : C.base.get? F.env.locals = none
  len : l.length = F.slots.length

theorem ns_not_tuple {h : Heap} {L : Addr} {m : Str → Option Value} (hn : h.Ns L m) : ∀ o vs n, h.get? L = some o → o.data ≠ .seq vs n := by
  obtain ⟨o, es, ep, e, hd, _⟩ := hn
  intro o' vs n e' q
  rw [e] at e'; cases e'; rw [hd] at q; cases q
theorem ns_slots {h h' : Heap} {L : Addr} {m : Str → Option Value} (hn : h.Ns L m) (k : ∀ o, h.get? L = some o → ∃ sl, h'.get? L = some { o with slots := sl }) : h'.Ns L m := by
  obtain ⟨o, es, ep, e, hd, r⟩ := hn
  obtain ⟨sl, e'⟩ := k o e
  exact ⟨_, es, ep, e', hd, r⟩
theorem FR.step {C : Cx} {F : Fm} {X : Addr → Prop} {μ μ' : Mu} {s s' : Shared} {l : Loc} (R : FR C F μ l s.heap) (S : Step X μ s μ' s') (hX : ∀ a o, X a → s.heap.get? a = some o → Plainly o)
    (hL : ¬ X F.env.locals) : FR C F μ' l s'.heap := by
  obtain ⟨⟨m, hn, hv⟩, off, new, len⟩ := R
  refine ⟨⟨m, ns_slots hn fun o e => (S.kept _ o e off hL).elim fun sl z => ⟨sl, z.1⟩, fun i x v hi hl => ?_⟩, ?_, new, len⟩
  · obtain ⟨rv, e, V⟩ := hv i x v hi hl
    exact ⟨rv, e, V.step S hX⟩
  · obtain ⟨o, _, _, e, _⟩ := hn
    exact S.notOwn off e
theorem noX_tuple {h : Heap} : ∀ (a : Addr) (o : Obj), NoX a → h.get? a = some o → Plainly o := fun _ _ h => h.elim
theorem FR.step0 {C : Cx} {F : Fm} {μ μ' : Mu} {s s' : Shared} {l : Loc} (R : FR C F μ l s.heap) (S : Step NoX μ s μ' s') : FR C F μ' l s'.heap := R.step S noX_tuple id
theorem VR.step0 {C : Cx} {μ μ' : Mu} {s s' : Shared} {a : AV} {v : Value} (S : Step NoX μ s μ' s') (h : VR C μ s.heap a v) : VR C μ' s'.heap a v := VR.step S noX_tuple a h
theorem VRs.step0 {C : Cx} {μ μ' : Mu} {s s' : Shared} {l : List AV} {vs : List Value} (S : Step NoX μ s μ' s') (h : VRs C μ s.heap l vs) : VRs C μ' s'.heap l vs := VRs.step S noX_tuple l h

noncomputable abbrev VRel (C : Cx) : Mu → Heap → AV → Value → Prop := fun μ h a v => VR C μ h a v
noncomputable abbrev VRels (C : Cx) : Mu → Heap → List AV → List Value → Prop := fun μ h a v => VRs C μ h a v

noncomputable def Post {α β : Type} (C : Cx) (X : Addr → Prop) (rel : Mu → Heap → α → β → Prop) (μ : Mu) (s : Shared) (r : Out α) (Q : β → Shared → Prop) : Prop :=
  ∀ μ' a H' v s', r = .ok a H' → Step X μ s μ' s' → Inv C μ' H' s'.heap → rel μ' s'.heap a v → Q v s'
noncomputable def WE {α β : Type} (C : Cx) (F : Fm) (X : Addr → Prop) (rel : Mu → Heap → α → β → Prop) (t : Sem β) (r : Out α) (μ : Mu) (s : Shared) : Prop :=
  r ≠ .bad → ∀ Q E, Post C X rel μ s r Q → wpAny (model C.prog C.w) F.A t Q E s

theorem Post.re {α β : Type} {C : Cx} {X Y : Addr → Prop} {rel : Mu → Heap → α → β → Prop} {μ μ₁ : Mu} {s s₁ : Shared} {r : Out α} {Q : β → Shared → Prop}
    (P : Post C X rel μ s r Q) (S : Step X μ s μ₁ s₁) (hXY : ∀ a, Y a → X a ∨ s.heap.get? a = none) : Post C Y rel μ₁ s₁ r Q :=
  fun _ _ _ _ _ e T I V => P _ _ _ _ _ e (S.trans T hXY) I V

section
variable {α β γ δ : Type} {C : Cx} {F : Fm} {rel : Mu → Heap → α → β → Prop} {rel' : Mu → Heap → γ → δ → Prop} {μ : Mu} {s : Shared} {t : Sem β} {r : Out α} {g : α → AH → Out γ} {Q : β → Shared → Prop} {Q₀ : δ → Shared → Prop} {E : Value → Shared → Prop}
theorem WE.bind {X : Addr → Prop} (h : WE C F NoX rel t r μ s) (hb : r.bind g ≠ .bad) (P : Post C X rel' μ s (r.bind g) Q₀)
    (k : ∀ μ₁ a H₁ v s₁, r = .ok a H₁ → Step NoX μ s μ₁ s₁ → Inv C μ₁ H₁ s₁.heap → rel μ₁ s₁.heap a v → g a H₁ ≠ .bad → Post C X rel' μ₁ s₁ (g a H₁) Q₀ → Q v s₁) :
    wpAny (model C.prog C.w) F.A t Q E s := by
  refine h (fun q => hb (by rw [q]; rfl)) Q E fun μ' a H' v s' e S I V => ?_
  subst e
  exact k μ' a H' v s' rfl S I V hb (P.re (S.weak fun _ h => h.elim) fun _ h => .inl h)
end
end Mine
end -- EngC
section -- EngD
namespace Mine
open PySem PySem.W PySem.Calls PyProof.Rows

section
variable {C : Cx} {μ : Mu} {H : AH} {s : Shared}
theorem own_lt {i : Nat} {p : Addr × Addr} (h : μ[i]? = some p) : Own μ p.1 ∧ Own μ p.2 :=
  ⟨⟨p, List.mem_of_getElem? h, .inl rfl⟩, ⟨p, List.mem_of_getElem? h, .inr rfl⟩⟩
theorem OR.there {h : Heap} {o : AObj} {p : Addr × Addr} (x : OR C μ h o p) : (∃ o1, h.get? p.1 = some o1) ∧ ∃ o2, h.get? p.2 = some o2 := by
  cases o with
  | list l => simp only [OR] at x; obtain ⟨e, _, vs, n, hl, _⟩ := x; rw [e]; exact ⟨⟨_, hl⟩, ⟨_, hl⟩⟩
  | inst c fs => simp only [OR] at x; obtain ⟨e, _, m, ⟨o, es, n, e2, _⟩, _⟩ := x; exact ⟨⟨_, e⟩, ⟨_, e2⟩⟩
  | dict => simp only [OR] at x; obtain ⟨e, o, e2⟩ := x; rw [e]; exact ⟨⟨_, e2⟩, ⟨_, e2⟩⟩
theorem Inv.some_of {h : Heap} (I : Inv C μ H h) {i : Nat} {p : Addr × Addr} (e : μ[i]? = some p) : ∃ o, H[i]? = some o := by
  have hi := (List.getElem?_eq_some_iff.mp e).1
  rw [I.len] at hi
  exact ⟨H[i], List.getElem?_eq_getElem hi⟩
theorem Inv.mu_of {h : Heap} (I : Inv C μ H h) {i : Nat} {o : AObj} (e : H[i]? = some o) : ∃ p, μ[i]? = some p := by
  have hi := (List.getElem?_eq_some_iff.mp e).1
  rw [← I.len] at hi
  exact ⟨μ[i], List.getElem?_eq_getElem hi⟩
theorem Inv.there {h : Heap} (I : Inv C μ H h) {a : Addr} (ha : Own μ a) : ∃ o, h.get? a = some o := by
  obtain ⟨p, hp, e⟩ := ha
  obtain ⟨i, hi⟩ := List.getElem?_of_mem hp
  obtain ⟨o, ho⟩ := I.some_of hi
  have := (I.objs i o p ho hi).there
  rcases e with rfl | rfl
  · exact this.1
  · exact this.2
theorem Inv.free {h : Heap} (I : Inv C μ H h) {a : Addr} (ha : h.get? a = none) : ¬ Own μ a := fun q => by
  obtain ⟨o, e⟩ := I.there q; rw [ha] at e; cases e
theorem size_none (h : Heap) : h.get? h.objs.size = none := by
  cases e : h.get? h.objs.size with
  | none => rfl
  | some o => exact absurd (Heap.lt_size e) (Nat.lt_irrefl _)
theorem OR.move {μ' : Mu} {h h' : Heap} {o : AObj} {p : Addr × Addr} (x : OR C μ h o p) (e1 : h'.get? p.1 = h.get? p.1) (e2 : h'.get? p.2 = h.get? p.2) (V : ∀ a v, VR C μ h a v → VR C μ' h' a v) (Vs : ∀ a v, VRs C μ h a v → VRs C μ' h' a v) : OR C μ' h' o p := by
  cases o with
  | list l =>
    simp only [OR] at x ⊢
    obtain ⟨e, hl, vs, n, hL, hv⟩ := x
    exact ⟨e, hl, vs, n, e1.trans hL, Vs _ _ hv⟩
  | inst c fs =>
    simp only [OR] at x ⊢
    obtain ⟨e, hne, m, hn, hw, ha⟩ := x
    refine ⟨e1.trans e, hne, m, hn.at fun o q => e2.trans q, hw, fun a y hy => ?_⟩
    have := ha a y hy
    revert this
    cases lookL a fs with
    | none => exact id
    | some v => rintro ⟨rv, q, hv⟩; exact ⟨rv, q, V _ _ hv⟩
  | dict =>
    simp only [OR] at x ⊢
    obtain ⟨e, o, q⟩ := x
    exact ⟨e, o, e1.trans q⟩

theorem Inv.moved {h h' : Heap} (I : Inv C μ H h) (hst : ∀ b o, C.base.get? b = some o → h'.get? b = some o) (he : ∀ a, Own μ a → h'.get? a = h.get? a) (V : ∀ a v, VR C μ h a v → VR C μ h' a v) : Inv C μ H h' :=
  ⟨hst, I.len, fun i o p ho hp => (I.objs i o p ho hp).move (he _ (own_lt hp).1) (he _ (own_lt hp).2) V (fun a _ => VRs.of V a), I.sep, I.new⟩
/-- the machine changes nothing that is owned -/
theorem Inv.same {X : Addr → Prop} {s' : Shared} (I : Inv C μ H s.heap) (S : Step X μ s μ s') (hX : ∀ a o, X a → s.heap.get? a = some o → Plainly o)
    (hst : ∀ b o, C.base.get? b = some o → s'.heap.get? b = some o) (he : ∀ a, Own μ a → s'.heap.get? a = s.heap.get? a) : Inv C μ H s'.heap :=
  ⟨hst, I.len, fun i o p ho hp => (I.objs i o p ho hp).move (he _ (own_lt hp).1) (he _ (own_lt hp).2) (fun a v h => VR.step S hX a h) (fun a v h => VRs.step S hX a h), I.sep, I.new⟩
theorem Step.push0 (I : Inv C μ H s.heap) (o : Obj) (t : Nat) : Step NoX μ s μ { s with heap := s.heap.push o, toks := t } :=
  ⟨⟨[], by simp⟩, fun _ h => .inl h, fun b x e => ⟨x, Heap.get?_push_of_some o e⟩, fun b x e _ _ => ⟨x.slots, Heap.get?_push_of_some o e, fun _ => rfl⟩, rfl, rfl⟩
theorem Inv.push0 (I : Inv C μ H s.heap) (o : Obj) : Inv C μ H (s.heap.push o) :=
  I.same (s' := { s with heap := s.heap.push o }) (Step.push0 I o s.toks) noX_tuple (fun b x e => Heap.get?_push_of_some o (I.stays b x e)) fun a ha => by
    obtain ⟨x, e⟩ := I.there ha
    rw [e]; exact Heap.get?_push_of_some o e
theorem Step.toks (μ : Mu) (s : Shared) (t : Nat) : Step NoX μ s μ { s with toks := t } :=
  ⟨⟨[], by simp⟩, fun _ h => .inl h, fun b x e => ⟨x, e⟩, fun b x e _ _ => ⟨x.slots, e, fun _ => rfl⟩, rfl, rfl⟩

/-- one object more -/
theorem Inv.add {s' : Shared} {p : Addr × Addr} {o0 : AObj} (I : Inv C μ H s.heap) (S : Step NoX μ s (μ ++ [p]) s') (hst : ∀ b o, C.base.get? b = some o → s'.heap.get? b = some o)
    (he : ∀ a, Own μ a → s'.heap.get? a = s.heap.get? a) (h1 : s.heap.get? p.1 = none) (h2 : s.heap.get? p.2 = none) (ho : OR C (μ ++ [p]) s'.heap o0 p) : Inv C (μ ++ [p]) (H ++ [o0]) s'.heap := by
  have fr : ∀ {j : Nat} {q : Addr × Addr}, μ[j]? = some q → q.1 ≠ p.1 ∧ q.1 ≠ p.2 ∧ q.2 ≠ p.1 ∧ q.2 ≠ p.2 := fun {j q} hq => by
    obtain ⟨a, b⟩ := own_lt hq
    obtain ⟨x, ex⟩ := I.there a
    obtain ⟨y, ey⟩ := I.there b
    refine ⟨?_, ?_, ?_, ?_⟩ <;> intro e
    · rw [e, h1] at ex; cases ex
    · rw [e, h2] at ex; cases ex
    · rw [e, h1] at ey; cases ey
    · rw [e, h2] at ey; cases ey
  have bn : ∀ a, s.heap.get? a = none → C.base.get? a = none := fun a e => by
    cases q : C.base.get? a with
    | none => rfl
    | some o => have := I.stays a o q; rw [e] at this; cases this
  refine ⟨hst, by simp [I.len], fun i o q hi hq => ?_, fun i j q r hq hr hij => ?_, fun q hq => ?_⟩
  · rcases Nat.lt_or_ge i μ.length with hlt | hge
    · rw [List.getElem?_append_left hlt] at hq
      rw [List.getElem?_append_left (I.len ▸ hlt)] at hi
      exact (I.objs i o q hi hq).move (he _ (own_lt hq).1) (he _ (own_lt hq).2) (fun a v h => h.step0 S) fun a v h => h.step0 S
    · rw [List.getElem?_append_right hge] at hq
      rw [List.getElem?_append_right (I.len ▸ hge)] at hi
      rw [← I.len] at hi
      cases hk : i - μ.length with
      | zero =>
        rw [hk] at hq hi
        cases hq; cases hi; exact ho
      | succ k => rw [hk] at hq; simp at hq
  · rcases Nat.lt_or_ge i μ.length with hi | hi <;> rcases Nat.lt_or_ge j μ.length with hj | hj
    · rw [List.getElem?_append_left hi] at hq
      rw [List.getElem?_append_left hj] at hr
      exact I.sep i j q r hq hr hij
    · rw [List.getElem?_append_left hi] at hq
      rw [List.getElem?_append_right hj] at hr
      cases hk : j - μ.length with
      | zero => rw [hk] at hr; cases hr; exact fr hq
      | succ k => rw [hk] at hr; simp at hr
    · rw [List.getElem?_append_right hi] at hq
      rw [List.getElem?_append_left hj] at hr
      cases hk : i - μ.length with
      | zero => rw [hk] at hq; cases hq; obtain ⟨a, b, c, d⟩ := fr hr; exact ⟨a.symm, c.symm, b.symm, d.symm⟩
      | succ k => rw [hk] at hq; simp at hq
    · rw [List.getElem?_append_right hi] at hq
      rw [List.getElem?_append_right hj] at hr
      cases hk : i - μ.length with
      | zero => cases hk' : j - μ.length with
        | zero => omega
        | succ k => rw [hk'] at hr; simp at hr
      | succ k => rw [hk] at hq; simp at hq
  · rcases List.mem_append.mp hq with hq | hq
    · exact I.new q hq
    · cases List.mem_singleton.mp hq; exact ⟨bn _ h1, bn _ h2⟩

/-- an object changed -/
theorem Step.upd {h' : Heap} {a : Addr} {o' : Obj} (ha : Own μ a) (hs : Heap.SameBut a s.heap h') (ho : h'.get? a = some o') (t : Nat) : Step NoX μ s μ { s with heap := h', toks := t } := by
  refine ⟨⟨[], by simp⟩, fun _ h => .inl h, fun b x e => ?_, fun b x e hn _ => ?_, rfl, rfl⟩
  · by_cases hb : b = a
    · subst hb; exact ⟨_, ho⟩
    · exact ⟨x, (hs.2 b hb).trans e⟩
  · exact ⟨x.slots, (hs.2 b fun q => hn (q ▸ ha)).trans e, fun _ => rfl⟩
theorem Inv.upd {h' : Heap} {a : Addr} {o' : Obj} {i : Nat} {p : Addr × Addr} {o0 : AObj} (I : Inv C μ H s.heap) (hp : μ[i]? = some p) (ha : a = p.1 ∨ a = p.2) (hs : Heap.SameBut a s.heap h') (ho : h'.get? a = some o')
    (hO : OR C μ h' o0 p) : Inv C μ (H.set i o0) h' := by
  have hown : Own μ a := ha.elim (fun e => e ▸ (own_lt hp).1) fun e => e ▸ (own_lt hp).2
  have S : Step NoX μ s μ { s with heap := h', toks := s.toks } := Step.upd hown hs ho s.toks
  refine ⟨fun b x e => (hs.2 b fun q => ?_).trans (I.stays b x e), by simp [I.len], fun j o q hj hq => ?_, I.sep, I.new⟩
  · obtain ⟨n1, n2⟩ := I.new p (List.mem_of_getElem? hp)
    rcases ha with rfl | rfl
    · rw [q, n1] at e; cases e
    · rw [q, n2] at e; cases e
  · by_cases hij : i = j
    · subst hij
      rw [hp] at hq; cases hq
      rw [List.getElem?_set_self (by have := (List.getElem?_eq_some_iff.mp hp).1; rw [← I.len]; exact this)] at hj
      cases hj; exact hO
    · rw [List.getElem?_set_ne hij] at hj
      obtain ⟨a1, a2, a3, a4⟩ := I.sep i j p q hp hq hij
      refine (I.objs j o q hj hq).move (hs.2 _ ?_) (hs.2 _ ?_) (fun b v h => h.step0 S) fun b v h => h.step0 S
      · rcases ha with rfl | rfl
        · exact a1.symm
        · exact a3.symm
      · rcases ha with rfl | rfl
        · exact a2.symm
        · exact a4.symm
end
end Mine
end -- EngD
section -- EngE
namespace Mine
open PySem PySem.W PySem.Calls PyProof.Rows

theorem big_eq : sizeLine = big := by rw [sizeLine_eq]; rfl
theorem str_len (x : List Nat) : (⟨x.toArray⟩ : Str).length = x.length := by simp [Str.length]
theorem str_add (x y : List Nat) : (⟨x.toArray⟩ : Str) ++ ⟨y.toArray⟩ = ⟨(x ++ y).toArray⟩ := by
  show Str.append _ _ = _
  simp [Str.append]
theorem str_beq (x y : List Nat) : ((⟨x.toArray⟩ : Str) == ⟨y.toArray⟩) = decide (x = y) := by
  rw [Bool.eq_iff_iff]; simp
theorem str_eta (x : Str) : (⟨x.cps.toList.toArray⟩ : Str) = x := by cases x; simp

section
variable {C : Cx} {F : Fm} {μ : Mu} {H : AH} {s : Shared} {a b : AV} {v u : Value}
/-- an end where only the counter of tokens went on -/
theorem Post.done {α β : Type} {X : Addr → Prop} {rel : Mu → Heap → α → β → Prop} {r : Out α} {Q : β → Shared → Prop} {x : α} {y : β} {t : Nat}
    (P : Post C X rel μ s r Q) (e : r = .ok x H) (I : Inv C μ H s.heap) (V : rel μ s.heap x y) : Q y { s with toks := t } :=
  P μ x H y _ e ((Step.toks μ s t).weak fun _ h => h.elim) I V

/-- a new object -/
theorem Post.newObj {r : Out AV} {Q : Value → Shared → Prop} {ob : Obj} {o0 : AObj} {t : Nat}
    (P : Post C NoX (VRel C) μ s r Q) (e : r = .ok (.ref H.length) (H ++ [o0])) (I : Inv C μ H s.heap)
    (h : Step NoX μ s (μ ++ [(s.heap.objs.size, s.heap.objs.size)]) { s with heap := s.heap.push ob, toks := t } → OR C (μ ++ [(s.heap.objs.size, s.heap.objs.size)]) (s.heap.push ob) o0 (s.heap.objs.size, s.heap.objs.size)) :
    Q (.ref s.heap.objs.size) { s with heap := s.heap.push ob, toks := t } := by
  have S : Step NoX μ s (μ ++ [(s.heap.objs.size, s.heap.objs.size)]) { s with heap := s.heap.push ob, toks := t } := by
    refine ⟨⟨_, rfl⟩, fun a h => ?_, fun b x e => ⟨x, Heap.get?_push_of_some _ e⟩, fun b x e _ _ => ⟨x.slots, Heap.get?_push_of_some _ e, fun _ => rfl⟩, rfl, rfl⟩
    obtain ⟨p, hp, q⟩ := h
    rcases List.mem_append.mp hp with hp | hp
    · exact .inl ⟨p, hp, q⟩
    · cases List.mem_singleton.mp hp
      have : a = s.heap.objs.size := q.elim id id
      exact .inr (this ▸ size_none _)
  have I' := Inv.add (p := (s.heap.objs.size, s.heap.objs.size)) (o0 := o0) I S (fun b o q => Heap.get?_push_of_some _ (I.stays b o q)) (fun a ha => by
    obtain ⟨x, ex⟩ := I.there ha
    rw [ex]; exact Heap.get?_push_of_some _ ex) (size_none _) (size_none _) (h S)
  refine P _ _ _ _ _ e S I' ?_
  simp only [VRel, VR]
  exact ⟨(s.heap.objs.size, s.heap.objs.size), by rw [← I.len]; exact List.getElem?_concat_length, rfl⟩
/-- a new list -/
theorem Post.newList {r : Out AV} {Q : Value → Shared → Prop} {l : List AV} {vs : Array Value} {t : Nat}
    (P : Post C NoX (VRel C) μ s r Q) (e : r = .ok (.ref H.length) (H ++ [.list l])) (I : Inv C μ H s.heap) (V : VRs C μ s.heap l vs.toList) (hl : l.length ≤ big) :
    Q (.ref s.heap.objs.size) { s with heap := s.heap.push { cls := .type "list", data := .seq vs }, toks := t } := P.newObj e I fun S => by
  simp only [OR]
  exact ⟨trivial, hl, vs, 0, IsL.new _ _, V.step0 S⟩
/-- a new tuple -/
theorem Post.newTuple {r : Out AV} {Q : Value → Shared → Prop} {l : List AV} {vs : List Value} {t : Nat}
    (P : Post C NoX (VRel C) μ s r Q) (e : r = .ok (.tup l) H) (I : Inv C μ H s.heap) (V : VRs C μ s.heap l vs) (hl : l.length ≤ big) :
    Q (.ref s.heap.objs.size) { s with heap := s.heap.push { cls := .type "tuple", data := .seq vs.toArray }, toks := t } := by
  have S := Step.push0 I { cls := .type "tuple", data := .seq vs.toArray } t
  refine P _ _ _ _ _ e S (I.push0 _) ?_
  simp only [VRel, VR]
  exact ⟨hl, _, _, _, _, rfl, I.free (size_none _), Heap.get?_push_size _ rfl, rfl, rfl, V.step0 S⟩

theorem VRs.len {h : Heap} : ∀ {l : List AV} {vs : List Value}, VRs C μ h l vs → l.length = vs.length
  | [], [], _ => rfl
  | _ :: _, _ :: _, h => by simp only [VRs] at h; simp [h.2.len]
  | [], _ :: _, h => by simp only [VRs] at h
  | _ :: _, [], h => by simp only [VRs] at h
theorem VRs.append {h : Heap} : ∀ {l m : List AV} {vs us : List Value}, VRs C μ h l vs → VRs C μ h m us → VRs C μ h (l ++ m) (vs ++ us)
  | [], _, [], _, _, k => k
  | _ :: _, _, _ :: _, _, h, k => by simp only [VRs, List.cons_append] at h ⊢; exact ⟨h.1, h.2.append k⟩
  | [], _, _ :: _, _, h, _ => by simp only [VRs] at h
  | _ :: _, _, [], _, h, _ => by simp only [VRs] at h
theorem VRs.get {h : Heap} : ∀ {l : List AV} {vs : List Value} {k : Nat} {x : AV}, VRs C μ h l vs → l[k]? = some x → ∃ y, vs[k]? = some y ∧ VR C μ h x y
  | a :: _, v :: _, 0, x, h, e => by simp only [VRs] at h; simp at e; subst e; exact ⟨v, rfl, h.1⟩
  | _ :: l, _ :: vs, k + 1, x, h, e => by simp only [VRs] at h; simp at e ⊢; exact h.2.get e
  | [], [], _, _, _, e => by simp at e
  | [], _ :: _, _, _, h, _ => by simp only [VRs] at h
  | _ :: _, [], _, _, h, _ => by simp only [VRs] at h
theorem VRs.take {h : Heap} : ∀ {l : List AV} {vs : List Value} (k : Nat), VRs C μ h l vs → VRs C μ h (l.take k) (vs.take k)
  | [], [], _, _ => by simp [VRs]
  | _ :: _, _ :: _, 0, _ => by simp [VRs]
  | _ :: _, _ :: _, k + 1, h => by simp only [VRs, List.take_succ_cons] at h ⊢; exact ⟨h.1, h.2.take k⟩
  | [], _ :: _, _, h => by simp only [VRs] at h
  | _ :: _, [], _, h => by simp only [VRs] at h
theorem VRs.drop {h : Heap} : ∀ {l : List AV} {vs : List Value} (k : Nat), VRs C μ h l vs → VRs C μ h (l.drop k) (vs.drop k)
  | [], [], _, _ => by simp [VRs]
  | _ :: _, _ :: _, 0, h => h
  | _ :: _, _ :: _, k + 1, h => by simp only [VRs, List.drop_succ_cons] at h ⊢; exact h.2.drop k
  | [], _ :: _, _, h => by simp only [VRs] at h
  | _ :: _, [], _, h => by simp only [VRs] at h
theorem VRs.rev {h : Heap} : ∀ {l : List AV} {vs : List Value}, VRs C μ h l vs → VRs C μ h l.reverse vs.reverse
  | [], [], _ => by simp [VRs]
  | _ :: _, _ :: _, h => by simp only [VRs, List.reverse_cons] at h ⊢; exact h.2.rev.append (by simpa only [VRs, and_true] using h.1)
  | [], _ :: _, h => by simp only [VRs] at h
  | _ :: _, [], h => by simp only [VRs] at h
theorem VRs.set {h : Heap} {x : AV} {y : Value} (V : VR C μ h x y) : ∀ {l : List AV} {vs : List Value} (k : Nat), VRs C μ h l vs → VRs C μ h (l.set k x) (vs.set k y)
  | [], [], _, _ => by simp [VRs]
  | _ :: _, _ :: _, 0, h => by simp only [VRs, List.set_cons_zero] at h ⊢; exact ⟨V, h.2⟩
  | _ :: _, _ :: _, k + 1, h => by simp only [VRs, List.set_cons_succ] at h ⊢; exact ⟨h.1, VRs.set V k h.2⟩
  | [], _ :: _, _, h => by simp only [VRs] at h
  | _ :: _, [], _, h => by simp only [VRs] at h

theorem Inv.list {h : Heap} (I : Inv C μ H h) {i : Nat} {l : List AV} (e : H[i]? = some (.list l)) (V : VR C μ h (.ref i) v) :
    ∃ p vs n, μ[i]? = some p ∧ v = .ref p.1 ∧ p.2 = p.1 ∧ IsL h p.1 vs n ∧ VRs C μ h l vs.toList ∧ l.length ≤ big := by
  simp only [VR] at V
  obtain ⟨p, hp, rfl⟩ := V
  have := I.objs i _ p e hp
  simp only [OR] at this
  obtain ⟨e1, hl, vs, n, hL, hv⟩ := this
  exact ⟨p, vs, n, hp, rfl, e1, hL, hv, hl⟩

theorem mul_foldl (x : List Nat) : ∀ (n : Nat) (acc : Array Nat), (List.replicate n x.toArray).foldl (· ++ ·) acc = acc ++ ((List.replicate n x).flatten).toArray
  | 0, acc => by simp
  | n + 1, acc => by rw [List.replicate_succ, List.foldl_cons, mul_foldl x n, List.replicate_succ, List.flatten_cons]; simp [Array.append_assoc]
theorem txt_mul (x : List Nat) (n : Int) (h : 0 ≤ n) : Txt.mul ⟨x.toArray⟩ n = ⟨((List.replicate n.toNat x).flatten).toArray⟩ := by
  unfold Txt.mul
  split
  · have : n = 0 := by omega
    subst this; rfl
  · split
    · rename_i h1
      rcases Bool.or_eq_true_iff.mp h1 with h1 | h1
      · have : n = 1 := by simpa using h1
        subst this; simp
      · have : x = [] := by simpa [Str.length] using h1
        subst this; simp
    · rw [show (⟨x.toArray⟩ : Str).cps = x.toArray from rfl, mul_foldl]; simp

theorem add_snd (I : Inv C μ H s.heap) (va : VR C μ s.heap a v) (vb : VR C μ s.heap b u) : WE C F NoX (VRel C) (binaryOp .Add v u) (addV H a b) μ s := fun hb Q E P => by
  cases a <;> first | exact absurd rfl hb | skip
  · cases b <;> first | exact absurd rfl hb | skip
    simp only [VR] at va vb
    obtain ⟨t, rfl⟩ := va; obtain ⟨t', rfl⟩ := vb
    exact wpAny_add_int (P.done rfl I (by simp only [VRel, VR]; exact ⟨_, rfl⟩))
  · rename_i x
    cases b <;> first | exact absurd rfl hb | skip
    rename_i y
    by_cases hy : x.length + y.length ≤ big
    · simp only [VR] at va vb
      obtain ⟨h1, t, rfl⟩ := va; obtain ⟨h2, t', rfl⟩ := vb
      refine PyProof.Rows.add_str (fun t tk => P.done (if_pos hy) I ?_) (by rw [big_eq, str_len, str_len]; exact hy)
      simp only [VRel, VR]
      exact ⟨by rw [List.length_append]; exact hy, t, by rw [str_add]⟩
    · exact absurd (if_neg hy) hb
  · rename_i i
    cases b <;> first | exact absurd rfl hb | skip
    rename_i j
    have e : addV H (.ref i) (.ref j) = catV H i j := rfl
    rw [e] at hb P
    unfold catV at hb P
    split at hb
    · rename_i x y hx hy
      rw [hx, hy] at P
      dsimp only at P
      split at hb
      · rename_i hz
        rw [if_pos hz] at P
        obtain ⟨p, vs, n, hp, rfl, e1, hL, hv, hl⟩ := I.list hx va
        obtain ⟨q, us, m, hq, rfl, f1, hM, hu, hm⟩ := I.list hy vb
        have z1 := hv.len
        have z2 := hu.len
        simp only [Array.length_toList] at z1 z2
        exact PySem.P.add_list hL hM (P.newList (t := s.toks) rfl I (by rw [Array.toList_append]; exact hv.append hu) (by rw [List.length_append]; exact hz)) (by rw [big_eq, ← z1, ← z2]; exact hz)
      · exact absurd rfl hb
    · exact absurd rfl hb
theorem mult_ok {n : Nat} {y : Int} (h : 0 ≤ y ∧ y ≤ 1000 ∧ n ≤ 1000) : y.toNat * n ≤ 1000000 ∧ (0 < y → (n : Int) ≤ (2 ^ 63 - 1) / y) := by
  refine ⟨Nat.le_trans (Nat.mul_le_mul (show y.toNat ≤ 1000 by omega) h.2.2) (by decide), fun h0 => Int.le_ediv_of_mul_le h0 ?_⟩
  have : (n : Int) * y ≤ 1000 * 1000 := Int.mul_le_mul (by omega) h.2.1 h.1 (by decide)
  exact Int.le_trans this (by decide)
theorem bin_snd {op : Operator} (I : Inv C μ H s.heap) (va : VR C μ s.heap a v) (vb : VR C μ s.heap b u) : WE C F NoX (VRel C) (binaryOp op v u) (binV H op a b) μ s := fun hb Q E P => by
  cases op <;> first | exact absurd rfl hb | skip
  · exact add_snd I va vb hb Q E P
  · cases a <;> first | exact absurd rfl hb | skip
    cases b <;> first | exact absurd rfl hb | skip
    simp only [VR] at va vb
    obtain ⟨t, rfl⟩ := va; obtain ⟨t', rfl⟩ := vb
    exact PyProof.Rows.sub_int (P.done rfl I (by simp only [VRel, VR]; exact ⟨_, rfl⟩))
  · cases a <;> first | exact absurd rfl hb | skip
    rename_i x
    cases b <;> first | exact absurd rfl hb | skip
    rename_i y
    by_cases hy : 0 ≤ y ∧ y ≤ 1000 ∧ x.length ≤ 1000
    · simp only [VR] at va vb
      obtain ⟨h1, t, rfl⟩ := va; obtain ⟨t', rfl⟩ := vb
      obtain ⟨m1, m2⟩ := mult_ok hy
      refine SB.mul ⟨by have := hy.2.1; simp; omega, fun h0 _ => ?_, fun _ _ => ?_⟩ (fun t tk => P.done (if_pos hy) I ?_)
      · rw [str_len]
        exact Int.not_lt.mpr (m2 (by omega))
      · rw [str_len]
        refine decide_eq_false ?_
        rw [sizeLine_eq, Nat.mul_comm]; omega
      · rw [txt_mul x y hy.1]
        simp only [VRel, VR]
        exact ⟨by rw [show ((List.replicate y.toNat x).flatten).length = y.toNat * x.length by simp]; exact Nat.le_trans m1 (by decide), t, rfl⟩
    · exact absurd (if_neg hy) hb
  · cases a <;> first | exact absurd rfl hb | skip
    rename_i x
    cases b <;> first | exact absurd rfl hb | skip
    rename_i y
    by_cases hy : 0 < y
    · simp only [VR] at va vb
      obtain ⟨t, rfl⟩ := va; obtain ⟨t', rfl⟩ := vb
      exact PyProof.Rows.mod_int (by omega) (P.done (if_pos hy) I (by simp only [VRel, VR]; rw [Int.fmod_eq_emod_of_nonneg _ (by omega)]; exact ⟨_, rfl⟩))
    · exact absurd (if_neg hy) hb
end
end Mine
end -- EngE
section -- EngF
namespace Mine
open PySem PySem.W PySem.Calls PyProof.Rows

/-! slices -/
inductive PartIs : AV → Option Int → Prop where
  | none : PartIs .none none
  | int (i : Int) : PartIs (.int i) (some i)
theorem clip_nat (n : Nat) (i : Int) (h : 0 ≤ i) : clipAt n i = min i.toNat n := by
  obtain ⟨k, rfl⟩ := Int.eq_ofNat_of_zero_le h
  unfold clipAt
  rw [if_neg (Int.not_lt.mpr h), Int.max_eq_right (Int.le_min.mpr ⟨h, Int.natCast_nonneg n⟩)]
  show (min (k : Int) n).toNat = min k n
  rcases Nat.le_total k n with q | q
  · rw [Int.min_eq_left (Int.ofNat_le.mpr q), Nat.min_eq_left q]; rfl
  · rw [Int.min_eq_right (Int.ofNat_le.mpr q), Nat.min_eq_right q]; rfl
/-- the picked places of a list, as the machine reckons them -/
noncomputable def pickL {α : Type} (l : List α) (lo hi st : Option Int) : List α :=
  (sliceRange (sliceBounds lo hi st l.length).1 (sliceBounds lo hi st l.length).2.1 (sliceBounds lo hi st l.length).2.2).filterMap (l[·]?)
theorem pick_plain {α : Type} (l : List α) (lo hi : Option Int) : pickL l lo hi none = (l.drop (lo.elim 0 (clipAt l.length))).take (hi.elim l.length (clipAt l.length) - lo.elim 0 (clipAt l.length)) := by
  unfold pickL
  rw [sliceBounds_plain]
  dsimp only
  rw [sliceRange_one]
  have := pick_run l.toArray (lo.elim 0 (clipAt l.length)) (hi.elim l.length (clipAt l.length) - lo.elim 0 (clipAt l.length))
  simpa using this
theorem pick_rev {α : Type} (l : List α) : pickL l none none (some (-1)) = l.reverse := by
  unfold pickL
  rw [krv_bounds]
  dsimp only
  rw [krv_sliceRange, krv_range, List.filterMap_reverse]
  have := krv_all l.toArray
  simp only [List.size_toArray, List.getElem?_toArray] at this
  rw [this]
theorem range_down (n : Nat) (h : 0 < n) : sliceRange ((n : Int) - 1) 0 (-1) = (List.range (n - 1)).map fun k => n - 1 - k := by
  unfold sliceRange
  have h1 : ¬ ((-1 : Int) > 0) := by decide
  by_cases h2 : (n : Int) - 1 > 0
  · have e : ((n : Int) - 1 - 0 - -1 - 1) / (- -1) = ((n - 1 : Nat) : Int) := by rw [show (- -1 : Int) = 1 by decide, Int.ediv_one]; omega
    simp only [h1, if_false, h2, if_true, e, Int.toNat_natCast]
    apply List.map_congr_left
    intro k hk
    have := List.mem_range.mp hk
    omega
  · have e : n = 1 := by omega
    subst e; simp
theorem pick_down {α : Type} (l : List α) : pickL l none (some 0) (some (-1)) = (l.drop 1).reverse := by
  cases l with
  | nil => rfl
  | cons x r =>
    unfold pickL
    have e : sliceBounds none (some 0) (some (-1)) (x :: r).length = (((x :: r).length : Int) - 1, 0, -1) := by
      simp only [sliceBounds, Option.getD_some]
      rw [if_neg (by decide), if_neg (by decide)]
      congr 2
      simp only [List.length_cons]; omega
    rw [e]
    dsimp only
    rw [range_down _ (by simp)]
    rw [List.drop_succ_cons, List.drop_zero]
    have key : ((List.range ((x :: r).length - 1)).map fun k => (x :: r).length - 1 - k) = ((List.range r.length).map fun k => k + 1).reverse := by
      apply List.ext_getElem
      · simp
      · intro i h1 h2
        simp at h1 h2 ⊢
        omega
    rw [key, List.filterMap_reverse, List.filterMap_map]
    have := krv_all r.toArray
    simp only [List.size_toArray, List.getElem?_toArray] at this
    have e2 : ((fun x_1 => (x :: r)[x_1]?) ∘ fun k => k + 1) = fun k => r[k]? := by funext k; simp
    rw [e2, this]
theorem slicePick_eq (vs : Array Value) (lo hi st : Option Int) : (slicePick vs lo hi st).toList = pickL vs.toList lo hi st := by
  unfold slicePick pickL
  simp
theorem natOf_int {a : AV} {k : Nat} (h : natOf a = some k) : ∃ i, a = .int i ∧ 0 ≤ i ∧ i.toNat = k := by
  cases a <;> first | (cases h; done) | skip
  rename_i i
  by_cases h0 : 0 ≤ i
  · rw [natOf, if_pos h0] at h; cases h; exact ⟨i, rfl, h0, rfl⟩
  · rw [natOf, if_neg h0] at h; cases h
theorem pick_all {α : Type} (l : List α) : pickL l none none none = l := by
  rw [pick_plain]
  show (l.drop 0).take (l.length - 0) = l
  rw [List.drop_zero, Nat.sub_zero, List.take_length]
theorem pick_take {α : Type} (l : List α) {j : Int} (h : 0 ≤ j) : pickL l none (some j) none = l.take j.toNat := by
  rw [pick_plain]
  show (l.drop 0).take (clipAt l.length j - 0) = _
  rw [List.drop_zero, Nat.sub_zero, clip_nat _ _ h, kmk_take_min]
theorem pick_drop {α : Type} (l : List α) {i : Int} (h : 0 ≤ i) : pickL l (some i) none none = l.drop i.toNat := by
  rw [pick_plain]
  show (l.drop (clipAt l.length i)).take (l.length - clipAt l.length i) = _
  rw [clip_nat _ _ h, ← List.length_drop, List.take_length]
  rcases Nat.le_total i.toNat l.length with q | q
  · rw [Nat.min_eq_left q]
  · rw [Nat.min_eq_right q, List.drop_length, List.drop_eq_nil_of_le q]
theorem pick_some {α : Type} (l : List α) {i j : Int} (h : 0 ≤ i) (h' : 0 ≤ j) : pickL l (some i) (some j) none = (l.take j.toNat).drop i.toNat := by
  rw [pick_plain]
  show (l.drop (clipAt l.length i)).take (clipAt l.length j - clipAt l.length i) = _
  rw [clip_nat _ _ h, clip_nat _ _ h', List.drop_take]
  rcases Nat.le_total i.toNat l.length with q | q
  · rw [Nat.min_eq_left q, ← Nat.sub_min_sub_right, ← List.length_drop, kmk_take_min]
  · rw [Nat.min_eq_right q, List.drop_length, List.drop_eq_nil_of_le q, List.take_nil, List.take_nil]
theorem partN_ok {a : AV} {x : Option Nat} (e : partN a = some x) : (a = .none ∧ x = none) ∨ ∃ i, a = .int i ∧ 0 ≤ i ∧ x = some i.toNat := by
  cases a <;> first | (cases e; done) | skip
  · cases e; exact .inl ⟨rfl, rfl⟩
  · rename_i i
    by_cases h0 : 0 ≤ i
    · rw [partN, if_pos h0] at e; cases e; exact .inr ⟨i, rfl, h0, rfl⟩
    · rw [partN, if_neg h0] at e; cases e
theorem stK_ok {a : AV} {b : Bool} (e : stK a = some b) : (a = .none ∧ b = true) ∨ (a = .int (-1) ∧ b = false) := by
  cases a <;> first | (cases e; done) | skip
  · cases e; exact .inl ⟨rfl, rfl⟩
  · rename_i i
    by_cases h0 : i = -1
    · subst h0; cases e; exact .inr ⟨rfl, rfl⟩
    · rw [stK, if_neg h0] at e; cases e
theorem sk_ok {lo hi st : AV} {k : SK} (e : skOf lo hi st = some k) : ∃ x y z, PartIs lo x ∧ PartIs hi y ∧ PartIs st z ∧ z ≠ some 0 ∧ ∀ {α : Type} (l : List α), pickL l x y z = k.ap l := by
  obtain ⟨x, hx, e⟩ := Option.bind_eq_some_iff.mp e
  obtain ⟨y, hy, e⟩ := Option.bind_eq_some_iff.mp e
  obtain ⟨p, hp, e⟩ := Option.bind_eq_some_iff.mp e
  rcases stK_ok hp with ⟨rfl, rfl⟩ | ⟨rfl, rfl⟩
  · cases e
    rcases partN_ok hx with ⟨rfl, rfl⟩ | ⟨i, rfl, h0, rfl⟩ <;> rcases partN_ok hy with ⟨rfl, rfl⟩ | ⟨j, rfl, h1, rfl⟩
    · exact ⟨_, _, _, .none, .none, .none, nofun, pick_all⟩
    · exact ⟨_, _, _, .none, .int j, .none, nofun, fun l => pick_take l h1⟩
    · exact ⟨_, _, _, .int i, .none, .none, nofun, fun l => pick_drop l h0⟩
    · exact ⟨_, _, _, .int i, .int j, .none, nofun, fun l => pick_some l h0 h1⟩
  · rcases partN_ok hx with ⟨rfl, rfl⟩ | ⟨i, rfl, h0, rfl⟩
    · rcases partN_ok hy with ⟨rfl, rfl⟩ | ⟨j, rfl, h1, rfl⟩
      · cases e; exact ⟨_, _, _, .none, .none, .int _, nofun, pick_rev⟩
      · obtain ⟨n, rfl⟩ := Int.eq_ofNat_of_zero_le h1
        cases n with
        | zero => cases e; exact ⟨_, _, _, .none, .int _, .int _, nofun, pick_down⟩
        | succ n => cases e
    · cases e
theorem SK.rel {C : Cx} {μ : Mu} {h : Heap} {l : List AV} {vs : List Value} (k : SK) (V : VRs C μ h l vs) : VRs C μ h (k.ap l) (k.ap vs) := match k with
  | .all => V
  | .take b => V.take b
  | .drop a => V.drop a
  | .run a b => (V.take b).drop a
  | .rev => V.rev
  | .down => (V.drop 1).rev
theorem SK.len {α : Type} (k : SK) (l : List α) : (k.ap l).length ≤ l.length := match k with
  | .all => Nat.le_refl _
  | .take b => List.length_take_le' b l
  | .drop a => List.length_drop ▸ Nat.sub_le _ _
  | .run a b => Nat.le_trans (List.length_drop ▸ Nat.sub_le _ _) (List.length_take_le' b l)
  | .rev => Nat.le_of_eq List.length_reverse
  | .down => Nat.le_trans (Nat.le_of_eq List.length_reverse) (List.length_drop ▸ Nat.sub_le _ _)
theorem SK.map {α β : Type} (f : α → β) (k : SK) (l : List α) : k.ap (l.map f) = (k.ap l).map f := match k with
  | .all => rfl
  | .take b => List.map_take.symm
  | .drop a => List.map_drop.symm
  | .run a b => by show ((l.map f).take b).drop a = _; rw [← List.map_take, ← List.map_drop]; rfl
  | .rev => List.map_reverse.symm
  | .down => by show ((l.map f).drop 1).reverse = _; rw [← List.map_drop, ← List.map_reverse]; rfl
end Mine
end -- EngF
section -- EngG
namespace Mine
open PySem PySem.W PySem.Calls PyProof.Rows Builtin Builtin.ObjectAttr

/-! an attribute of an object -/
structure FldOk (K : Frag) (C : Addr) (x : Str) : Prop where
  get : plainGet K C x = true
  dict : hasDictIn K C = true
  none : findIn K (.ref C) x = some none
  over : plainOver K C = true
  set : findIn K (.ref C) "__setattr__" = some (some (.builtin "object.__setattr__"))
structure Good (C : Cx) (P : P0) : Prop where
  X : C.K.In C.base
  fld : ∀ c a x, P.fld c a = true → C.nm[a]? = some x → FldOk C.K (C.clA c) x
  fldN : ∀ c a, P.fld c a = true → ∃ x, C.nm[a]? = some x
  nodup : C.nm.Nodup
  nmlen : C.nm.length ≤ 1000

theorem lookIn_ns {o : Obj} {es : Array DictEntry} {n : Nat} (hd : o.data = .dict es n) (hk : StrKeys es) (x : Str) : lookIn x o = some (nsFind es x) := by
  unfold lookIn
  rw [hd]
  have nf : nsFind es x = (es.toList.find? (·.key.isStr x)).map (·.val) := by
    unfold nsFind findBy
    rw [← Array.find?_toList]
  rw [nf]
  dsimp only
  cases q : es.toList.find? (·.key.isStr x) with
  | some e => rfl
  | none =>
    have : es.toList.any (·.refKey) = false := by
      rw [Array.any_toList, Array.any_eq_false']; intro e he; obtain ⟨k, t, h⟩ := hk e he; simp [DictEntry.refKey, h]
    simp only [this, Option.map_none]
    rfl

section
variable {C : Cx} {P : P0} {F : Fm} {μ : Mu} {H : AH} {s : Shared} {a b : AV} {v u : Value}
theorem Inv.inK {h : Heap} (I : Inv C μ H h) (G : Good C P) : C.K.In h := G.X.keeps I.stays
theorem Inv.inst {h : Heap} (I : Inv C μ H h) {i c : Nat} {fs : List (Nat × AV)} (e : H[i]? = some (.inst c fs)) (V : VR C μ h (.ref i) v) :
    ∃ p m od, μ[i]? = some p ∧ v = .ref p.1 ∧ h.get? p.1 = some (instObj (C.clA c) p.2) ∧ p.1 ≠ p.2 ∧ h.Ns1 p.2 m ∧ h.get? p.2 = some od ∧ (∀ x, lookIn x od = some (m x)) ∧ (∀ y, m y ≠ none → y ∈ C.nm) ∧
      InstAt h p.1 (instObj (C.clA c) p.2) (C.clA c) (some od) ∧
      ∀ a x, C.nm[a]? = some x → match lookL a fs with
        | some v => ∃ rv, m x = some rv ∧ VR C μ h v rv
        | none => m x = none := by
  simp only [VR] at V
  obtain ⟨p, hp, rfl⟩ := V
  have := I.objs i _ p e hp
  simp only [OR] at this
  obtain ⟨e1, hne, m, hn, hw, ha⟩ := this
  obtain ⟨od, es, n, e2, hd, hk, hu, hm⟩ := id hn
  exact ⟨p, m, od, hp, rfl, e1, hne, hn, e2, fun x => by rw [lookIn_ns hd hk x, hm x], hw, ⟨e1, rfl, rfl, e2⟩, ha⟩
theorem handed_of {C : Cx} {μ : Mu} {h : Heap} {a : AV} {v : Value} (V : VR C μ h a v) : handedIn v = true := by
  cases a <;> simp only [VR] at V
  · subst V; rfl
  · subst V; rfl
  · obtain ⟨t, rfl⟩ := V; rfl
  · obtain ⟨_, t, rfl⟩ := V; rfl
  · obtain ⟨_, a, o, vs, n, rfl, _⟩ := V; rfl
  · obtain ⟨p, _, rfl⟩ := V; rfl
  · subst V; rfl
  · subst V; rfl
  · rename_i b; subst V; cases b <;> first | rfl | decide +kernel
  · obtain ⟨_, a, vs, rfl, _⟩ := V; rfl
  · obtain ⟨_, r, t, u, w, rfl, _⟩ := V; rfl

theorem attr_snd {x : Str} {ai : Nat} {expr : Bool} (G : Good C P) (I : Inv C μ H s.heap) (V : VR C μ s.heap a v) (hx : C.nm[ai]? = some x) :
    WE C F NoX (VRel C) (getAttr v x expr) (match attrV P.fld H a ai with | some r => .ok r H | none => .bad) μ s := by
  intro hb Q E Po
  cases hi : attrV P.fld H a ai with
  | none => rw [hi] at hb; exact absurd rfl hb
  | some r =>
    rw [hi] at Po
    unfold attrV at hi
    split at hi
    · rename_i i
      split at hi
      · rename_i c fs hc
        split at hi
        · rename_i hf
          obtain ⟨p, m, od, hp, rfl, e1, hne, hn, e2, hlk, hw, IA, ha⟩ := I.inst hc V
          have := ha ai x hx
          rw [hi] at this
          obtain ⟨rv, hm, hv⟩ := this
          have K := G.fld c ai x hf hx
          have hga := plainGet_of K.get
          refine get_value (I.inK G) IA hga.1 (findObj_own K.dict K.none rfl (by rw [hlk, hm])) (handed_of hv) ?_
          exact Po.done rfl I hv
        · cases hi
      · cases hi
    · cases hi

theorem setL_look {ai aj : Nat} {r : AV} : ∀ {fs : List (Nat × AV)}, lookL aj (setL ai r fs) = if aj = ai then some r else lookL aj fs
  | [] => by simp [setL, lookL]
  | (k, w) :: fs => by
    unfold setL
    by_cases h : ai = k
    · subst h; simp only [if_true, lookL]; split <;> simp_all
    · rw [if_neg h]
      simp only [lookL]
      rw [setL_look]
      by_cases h2 : aj = k
      · subst h2; simp only [if_true]; rw [if_neg (fun e => h e.symm)]
      · simp [h2]

theorem put_snd {x : Str} {ai : Nat} {r : AV} {rv : Value} {H' : AH} {Q : Unit → Shared → Prop} {E : Value → Shared → Prop} (G : Good C P) (I : Inv C μ H s.heap) (V : VR C μ s.heap a v) (Vr : VR C μ s.heap r rv) (hx : C.nm[ai]? = some x)
    (hp : putA P.fld H a ai r = some H') (h : ∀ s', Step NoX μ s μ s' → Inv C μ H' s'.heap → Q () s') : wpAny (model C.prog C.w) F.A (setAttr v x rv) Q E s := by
  unfold putA at hp
  split at hp
  · rename_i i
    split at hp
    · rename_i c fs hi
      by_cases hf : P.fld c ai = true
      · rw [if_pos hf] at hp
        cases hp
        obtain ⟨p, m, od, hp, rfl, e1, hne, hn, e2, hlk, hw, IA, ha⟩ := I.inst hi V
        have K := G.fld c ai x hf hx
        have hd := K.dict
        have X := I.inK G
        refine set_plain X IA K.set (osa_open (s := { s with toks := s.toks + 1 }) X IA K.over (r := none) (by unfold takerIn; rw [K.none]; rfl) fun b => ?_)
        obtain ⟨cd, hc, hd'⟩ := any_some hd
        unfold storeInOwnDict
        refine wpAny_bind (wpAny_pure (wpAny_bind ?_))
        refine wpAny_bind (wpAny_loadPart (s := { s with toks := s.toks + 1 }) e1 (wpAny_bind (Looks.here (s := { s with toks := s.toks + 1 }) (looks_clsIn X hc) ?_)))
        rw [hd']
        refine wpAny_pure (a := some p.2) ?_
        show wpAny _ _ (storeInDict p.2 (.str x s.toks) x rv) _ _ _
        unfold storeInDict newKeyGuard
        refine wpAny_bind (wpAny_pure (wpAny_bind (wpAny_nsSet1 hn fun h' hn' hs => ?_)))
        have hw' : Within (fun y => if y = x then some rv else m y) C.nm := by
          intro y hy
          by_cases e : y = x
          · subst e; exact List.mem_of_getElem? hx
          · simp only [if_neg e] at hy; exact hw y hy
        obtain ⟨oD, esD, epD, hoD, hdD, hcD⟩ := hn'.count hw'
        refine wpAny_bind (wpAny_lookBehind hoD (by rw [hdD]; exact pastItsLine_dict (Nat.le_trans hcD (by have := G.nmlen; rw [sizeLine_eq]; omega))) ?_)
        refine wpAny_pure ?_
        have hown : Own μ p.2 := (own_lt hp).2
        have S : Step NoX μ s μ { s with heap := h', toks := s.toks + 1 + 1 } := Step.upd (s := s) hown hs hoD _
        refine h _ S ?_
        refine I.upd hp (.inr rfl) hs hoD ?_
        simp only [OR]
        refine ⟨(hs.2 _ hne).trans e1, hne, _, hn', hw', fun aj y hy => ?_⟩
        rw [setL_look]
        by_cases e : aj = ai
        · subst e
          rw [hx] at hy; cases hy
          simp only [if_true]
          exact ⟨rv, rfl, Vr.step0 S⟩
        · simp only [if_neg e]
          have hxy : y ≠ x := fun q => by
            subst q
            have l1 := (List.getElem?_eq_some_iff.mp hy)
            have l2 := (List.getElem?_eq_some_iff.mp hx)
            exact e ((List.getElem_inj G.nodup).mp (l1.2.trans l2.2.symm))
          have := ha aj y hy
          revert this
          cases lookL aj fs with
          | none => intro q; rw [if_neg hxy]; exact q
          | some w => rintro ⟨rv', q, hv⟩; exact ⟨rv', by rw [if_neg hxy]; exact q, hv.step0 S⟩
      · rw [if_neg hf] at hp; cases hp
    · cases hp
  · cases hp

theorem seqIdx {i : Int} {n k : Nat} (h0 : 0 ≤ i) (hk : i.toNat = k) (h : k < n) : seqIndex? i n = some k := by
  unfold seqIndex?
  have : ¬ i < 0 := by omega
  simp only [this, if_false]
  rw [if_pos (by simp; omega), hk]
theorem small_lo {z : Int} (h : 0 ≤ z) : -(2 ^ 63) ≤ z := Int.le_trans (by decide) h
theorem small_hi {z : Int} (h : z.toNat < 2 ^ 62) : z < 2 ^ 63 := by omega
theorem tuple_of {h : Heap} {l : List AV} (V : VR C μ h (.tup l) v) : ∃ t items, v = .ref t ∧ IsTup h t items ∧ VRs C μ h l items.toList ∧ l.length ≤ big ∧ ¬ Own μ t := by
  simp only [VR] at V
  obtain ⟨hl, a, o, vs, n, rfl, ho, e, hc, hd, hv⟩ := V
  exact ⟨a, vs, rfl, ⟨o, e, hc, n, hd⟩, hv, hl, ho⟩

theorem item_snd {value slice : PySem.Expr} (I : Inv C μ H s.heap) (V : VR C μ s.heap a v) (Vb : VR C μ s.heap b u) (hs : ∀ v u, ∃ ops, subscripted slice false v u = operate ops (getItem v u)) :
    WE C F NoX (VRel C) (subscriptTail value slice v u) (match itemV H a b with | some r => .ok r H | none => .bad) μ s := by
  intro hb Q E Po
  cases hi : itemV H a b with
  | none => rw [hi] at hb; exact absurd rfl hb
  | some r =>
    rw [hi] at Po
    obtain ⟨i, hn, hi⟩ : ∃ i, natOf b = some i ∧ itemN H a i = some r := Option.bind_eq_some_iff.mp hi
    obtain ⟨z, rfl, h0, rfl⟩ := natOf_int hn
    simp only [VR] at Vb
    obtain ⟨tk, rfl⟩ := Vb
    obtain ⟨ops, hs'⟩ := hs v (.int z tk)
    have hb' : big < 2 ^ 62 := by decide
    unfold itemN at hi
    split at hi
    · rename_i l
      obtain ⟨t, items, rfl, ht, hv, hl, _⟩ := tuple_of V
      obtain ⟨y, hy, Vy⟩ := hv.get hi
      have hlt := (List.getElem?_eq_some_iff.mp hy).1
      have hz := hv.len
      simp only [Array.length_toList] at hz hlt
      have hlt' : z.toNat < 2 ^ 62 := Nat.lt_trans (Nat.lt_of_lt_of_le hlt (hz ▸ hl)) hb'
      exact tail_any ht.typeIs slot_tuple_getitem.lookup (PyProof.Rows.getItem_tuple ht (small_lo h0) (small_hi hlt') (seqIdx h0 rfl hlt) (by simpa using hy) (Po.done rfl I Vy)) hs'
    · rename_i x
      simp only [VR] at V
      obtain ⟨hl, t, rfl⟩ := V
      obtain ⟨c, hc, rfl⟩ := Option.map_eq_some_iff.mp hi
      have hlt := (List.getElem?_eq_some_iff.mp hc).1
      have hlt' : z.toNat < 2 ^ 62 := Nat.lt_trans (Nat.lt_of_lt_of_le hlt hl) hb'
      refine tail_any (typeIs_str s _ t) slot_str_getitem.lookup (PyProof.Rows.getItem_str (c := c) ?_ ?_ ?_) hs'
      · rw [decide_eq_false (Int.not_lt.mpr (small_lo h0)), decide_eq_false (Int.not_le.mpr (small_hi hlt'))]; rfl
      · rw [str_len, seqIdx h0 rfl hlt]; simpa using hc
      · exact Po.done rfl I (by simp only [VRel, VR]; exact ⟨by show 1 ≤ big; decide, _, rfl⟩)
    · rename_i j
      split at hi
      · rename_i l hl
        obtain ⟨p, vs, n, hp, rfl, e1, hL, hv, hz⟩ := I.list hl V
        obtain ⟨y, hy, Vy⟩ := hv.get hi
        have hlt := (List.getElem?_eq_some_iff.mp hi).1
        have hlt' : z.toNat < 2 ^ 62 := Nat.lt_trans (Nat.lt_of_lt_of_le hlt hz) hb'
        exact tail_any hL.isList.typeIs slot_list_getitem.lookup (wpAny_getItem_list hL.isList h0 (small_hi hlt') (by simpa using hy) (Po.done rfl I Vy)) hs'
      · cases hi
    · cases hi
end
end Mine
end -- EngG
section -- EngH
namespace Mine
open PySem PySem.W PySem.Calls PyProof.Rows

theorem part_of {C : Cx} {μ : Mu} {h : Heap} {a : AV} {v : Value} {x : Option Int} (V : VR C μ h a v) (p : PartIs a x) : IsPart v x := by
  cases p with
  | none => simp only [VR] at V; subst V; exact .none
  | int i => simp only [VR] at V; obtain ⟨t, rfl⟩ := V; exact .int i t
theorem ints_rel {C : Cx} {μ : Mu} {h : Heap} : ∀ {vs : List Value} {ns : List Int}, IntsAre vs ns → VRs C μ h (ns.map AV.int) vs
  | _, _, .nil => by simp [VRs]
  | _, _, .cons n t r => by simp only [List.map_cons, VRs, VR]; exact ⟨⟨t, rfl⟩, ints_rel r⟩
end Mine
namespace Mine
open PySem PySem.W PySem.Calls PyProof.Rows
theorem idx_eq (lo hi : Option Int) (n : Nat) : Builtin.Str.strSliceIndices lo hi 1 n = sliceRange (sliceBounds lo hi none n).1 (sliceBounds lo hi none n).2.1 (sliceBounds lo hi none n).2.2 := rfl
theorem clip_le (n : Nat) (i : Int) : clipAt n i ≤ n := by unfold clipAt; omega
theorem pick_all_of {α : Type} (l : List α) (lo hi : Option Int) (h : (Builtin.Str.strSliceIndices lo hi 1 l.length).length = l.length) : pickL l lo hi none = l := by
  rw [idx_eq, sliceBounds_plain] at h
  dsimp only at h
  rw [sliceRange_one, List.length_map, List.length_range] at h
  rw [pick_plain]
  have h1 : lo.elim 0 (clipAt l.length) ≤ l.length := by cases lo <;> simp [clip_le]
  have h2 : hi.elim l.length (clipAt l.length) ≤ l.length := by cases hi <;> simp [clip_le]
  have e : lo.elim 0 (clipAt l.length) = 0 ∨ l.length = 0 := by omega
  rcases e with e | e
  · rw [e, List.drop_zero, List.take_of_length_le]; omega
  · have : l = [] := List.length_eq_zero_iff.mp e
    subst this; simp
theorem str_pick (x : List Nat) (lo hi : Option Int) : (Builtin.Str.strSliceIndices lo hi 1 (⟨x.toArray⟩ : Str).length).filterMap ((⟨x.toArray⟩ : Str).cps[·]?) = pickL x lo hi none := by
  unfold pickL
  rw [str_len, idx_eq]
  simp

section
variable {C : Cx} {P : P0} {F : Fm} {μ : Mu} {H : AH} {s : Shared} {a lo hi st : AV} {v vl vu vs : Value}
noncomputable abbrev sliceObj (vl vu vs : Value) : Obj := { cls := .type "slice", data := .fields #[vl, vu, vs] }
theorem part_tok {C : Cx} {μ : Mu} {h : Heap} {a : AV} {v : Value} {x : Option Int} (V : VR C μ h a v) (p : PartIs a x) : ∃ y : Option (Int × Tok), y.map (·.1) = x ∧ v = partValue y := by
  cases p with
  | none => simp only [VR] at V; subst V; exact ⟨none, rfl, rfl⟩
  | int i => simp only [VR] at V; obtain ⟨t, rfl⟩ := V; exact ⟨some (i, t), rfl, rfl⟩

theorem slice_snd {value slice : PySem.Expr} {Q : Value → Shared → Prop} {E : Value → Shared → Prop} (I : Inv C μ H s.heap) (V : VR C μ s.heap a v) (Vl : VR C μ s.heap lo vl) (Vu : VR C μ s.heap hi vu) (Vs : VR C μ s.heap st vs)
    (hs : ∀ v u, ∃ ops, subscripted slice false v u = operate ops (getItem v u)) (hb : sliceV H a lo hi st ≠ .bad) (Po : Post C NoX (VRel C) μ s (sliceV H a lo hi st) Q) :
    wpAny (model C.prog C.w) F.A (subscriptTail value slice v (.ref s.heap.objs.size)) Q E { s with heap := s.heap.push (sliceObj vl vu vs) } := by
  have S0 := Step.push0 I (sliceObj vl vu vs) s.toks
  have I0 := I.push0 (sliceObj vl vu vs)
  have hsl : (s.heap.push (sliceObj vl vu vs)).get? s.heap.objs.size = some (sliceObj vl vu vs) := Heap.get?_push_size _ rfl
  obtain ⟨ops, hs'⟩ := hs v (.ref s.heap.objs.size)
  have Po' := Post.re Po S0 fun _ h => .inl h
  unfold sliceV at hb Po'
  cases hk : skOf lo hi st with
  | none => rw [hk] at hb; exact absurd rfl hb
  | some k =>
    rw [hk] at hb Po'
    dsimp only at hb Po'
    obtain ⟨p, q, z, hp, hq, hz, hz0, hpick⟩ := sk_ok hk
    split at hb
    · rename_i x
      dsimp only at Po'
      split at hb
      · dsimp only at Po'
        simp only [VR] at V Vs
        obtain ⟨hl, t, rfl⟩ := V
        subst Vs
        cases hz
        obtain ⟨y, hy, rfl⟩ := part_tok Vl hp
        obtain ⟨z, hz, rfl⟩ := part_tok Vu hq
        refine tail_any (typeIs_str _ _ t) slot_str_getitem.lookup (wpAny_getItem_str_slice (l := y) (u := z) (st := none) ⟨_, hsl, rfl, rfl⟩ rfl ?_) hs'
        have hr : (k.ap x).length ≤ big := Nat.le_trans (k.len x) hl
        unfold sliceMade slicePicked
        rw [hy, hz]
        simp only [Option.map_none, Option.getD_none]
        split
        · rename_i hfull
          have : k.ap x = x := by
            rw [← hpick]
            refine pick_all_of x p q ?_
            have := (Bool.and_eq_true_iff.mp hfull).2
            rw [str_len] at this
            simpa using this
          show Q _ _
          exact Po'.done (t := s.toks) rfl I0 (by simp only [VRel, VR]; exact ⟨by rw [this]; exact hl, t, by rw [this]⟩)
        · show _ ≤ sizeLine ∧ Q _ _
          rw [str_pick x p q, hpick]
          exact ⟨by rw [str_len, big_eq]; exact hr, Po'.done rfl I0 (by simp only [VRel, VR]; exact ⟨hr, _, rfl⟩)⟩
      · exact absurd rfl hb
    · rename_i i
      split at hb
      · rename_i l hl
        dsimp only at Po'
        rw [hl] at Po'
        obtain ⟨P, xs, n, hP, rfl, e1, hL, hv, hz'⟩ := I0.list hl (V.step0 S0)
        have hzz := hv.len
        simp only [Array.length_toList] at hzz
        refine tail_any hL.isList.typeIs slot_list_getitem.lookup (wpAny_getItem_list_slice hL.isList ⟨_, hsl, rfl, rfl⟩ (part_of Vl hp) (part_of Vu hq) (part_of Vs hz) hz0 ?_ (by rw [big_eq, ← hzz]; exact hz')) hs'
        refine Po'.newList (t := s.toks) rfl I0 ?_ (Nat.le_trans (k.len l) hz')
        rw [slicePick_eq, hpick]
        exact k.rel hv
      · exact absurd rfl hb
    · rename_i l
      simp only [VR] at V
      obtain ⟨hl, b, xs, rfl, hL, hI⟩ := V
      have hLs : (s.heap.push (sliceObj vl vu vs)).IsList b xs := by
        obtain ⟨o, ho, r⟩ := hL
        exact ⟨o, I0.stays _ _ ho, r⟩
      have hzz := hI.length
      simp only [Array.length_toList] at hzz
      refine tail_any (Heap.IsList.typeIs (s := { s with heap := s.heap.push (sliceObj vl vu vs) }) hLs) slot_list_getitem.lookup (wpAny_getItem_list_slice hLs ⟨_, hsl, rfl, rfl⟩ (part_of Vl hp) (part_of Vu hq) (part_of Vs hz) hz0 ?_ (by rw [big_eq, hzz]; exact hl)) hs'
      refine Po'.newList (t := s.toks) rfl I0 ?_ (by rw [List.length_map]; exact Nat.le_trans (k.len l) hl)
      rw [slicePick_eq, hpick, ← SK.map]
      exact k.rel (ints_rel hI)
    · exact absurd rfl hb
end
end Mine
end -- EngH
section -- EngI
namespace Mine
open PySem PySem.W PySem.Calls PyProof.Rows

theorem ints_of {C : Cx} {μ : Mu} {h : Heap} : ∀ {l : List AV} {vs : List Value} {ns : List Int}, intsOf l = some ns → VRs C μ h l vs → IntsAre vs ns
  | [], [], _, e, _ => by simp [intsOf] at e; subst e; exact .nil
  | a :: r, v :: vs, ns, e, V => by
    simp only [VRs] at V
    cases a <;> simp only [intsOf] at e <;> first | (cases e; done) | skip
    obtain ⟨m, hm, rfl⟩ := Option.map_eq_some_iff.mp e
    obtain ⟨V1, V2⟩ := V
    simp only [VR] at V1
    obtain ⟨t, rfl⟩ := V1
    exact .cons _ t (ints_of hm V2)
  | [], _ :: _, _, _, V => by simp only [VRs] at V
  | _ :: _, [], _, _, V => by simp only [VRs] at V
theorem strs_of {C : Cx} {μ : Mu} {h : Heap} : ∀ {l : List AV} {vs : List Value} {ns : List (List Nat)}, strsOf l = some ns → VRs C μ h l vs → StrsAre vs (ns.map fun x => (⟨x.toArray⟩ : Str))
  | [], [], _, e, _ => by simp [strsOf] at e; subst e; exact .nil
  | a :: r, v :: vs, ns, e, V => by
    simp only [VRs] at V
    cases a <;> simp only [strsOf] at e <;> first | (cases e; done) | skip
    obtain ⟨m, hm, rfl⟩ := Option.map_eq_some_iff.mp e
    obtain ⟨V1, V2⟩ := V
    simp only [VR] at V1
    obtain ⟨_, t, rfl⟩ := V1
    exact .cons _ t (strs_of hm V2)
  | [], _ :: _, _, _, V => by simp only [VRs] at V
  | _ :: _, [], _, _, V => by simp only [VRs] at V
theorem any_str (x : List Nat) (ns : List (List Nat)) : (ns.map fun x => (⟨x.toArray⟩ : Str)).any (· == (⟨x.toArray⟩ : Str)) = ns.any (· == x) := by
  induction ns with
  | nil => rfl
  | cons y r ih =>
    rw [List.map_cons, List.any_cons, List.any_cons, ih, str_beq]
    congr 1
    rw [Bool.eq_iff_iff]; simp
theorem isL_list {h : Heap} {a : Addr} {vs : Array Value} {n : Nat} (x : IsL h a vs n) : h.IsList a vs.toList.toArray := by
  have := x.isList
  simpa using this

section
variable {C : Cx} {P : P0} {F : Fm} {μ : Mu} {H : AH} {s : Shared} {a b : AV} {v u : Value}
theorem eq_snd {x : Bool} {Q : Value → Shared → Prop} {E : Value → Shared → Prop} (hu : F.A.units + 64 < cLine) (I : Inv C μ H s.heap) (V : VR C μ s.heap a v) (W : VR C μ s.heap b u) (e : aeq H a b = some x) :
    (Q (.bool x) s → wpAny (model C.prog C.w) F.A (compareOp .Eq v u) Q E s) ∧ (Q (.bool (!x)) s → wpAny (model C.prog C.w) F.A (compareOp .NotEq v u) Q E s) := by
  unfold aeq at e
  split at e
  · split at e
    · cases e
      simp only [VR] at V W
      obtain ⟨t, rfl⟩ := V
      obtain ⟨t', rfl⟩ := W
      exact ⟨fun h => PyProof.Rows.eq_int h, fun h => PyProof.Rows.ne_int h⟩
    · cases e
  · split at e
    · cases e
      simp only [VR] at V W
      obtain ⟨_, t, rfl⟩ := V
      obtain ⟨_, t', rfl⟩ := W
      exact ⟨fun h => PyProof.Rows.eq_str (by rw [str_beq]; exact h), fun h => PyProof.Rows.ne_str (by rw [bne, str_beq]; exact h)⟩
    · cases e
  · split at e
    · unfold aeqL at e
      split at e
      · rename_i x y hx hy
        split at e
        · rename_i ns ms hn hm
          cases e
          obtain ⟨p, vs, n, hp, rfl, e1, hL, hv, hl⟩ := I.list hx V
          obtain ⟨q, us, m, hq, rfl, f1, hM, hw, hm'⟩ := I.list hy W
          exact ⟨fun h => ke_eq_ints (isL_list hL) (isL_list hM) (ints_of hn hv) (ints_of hm hw) hu h, fun h => ke_ne_ints (isL_list hL) (isL_list hM) (ints_of hn hv) (ints_of hm hw) hu h⟩
        · cases e
      · cases e
    · cases e
  · cases e
theorem VR.ne_none {h : Heap} (V : VR C μ h a v) (ha : a ≠ .none) : (v == .none) = false := by
  cases a <;> simp only [VR] at V
  · exact absurd rfl ha
  · subst V; rfl
  · obtain ⟨t, rfl⟩ := V; rfl
  · obtain ⟨_, t, rfl⟩ := V; rfl
  · obtain ⟨_, a, o, vs, n, rfl, _⟩ := V; rfl
  · obtain ⟨p, _, rfl⟩ := V; rfl
  · subst V; rfl
  · subst V; rfl
  · rename_i b; subst V; cases b <;> rfl
  · obtain ⟨_, a, vs, rfl, _⟩ := V; rfl
  · obtain ⟨_, r, t, u, w, rfl, _⟩ := V; rfl
theorem is_snd {x : Bool} (V : VR C μ s.heap a v) (W : VR C μ s.heap b u) (e : isV a b = some x) : u = .none ∧ (v == .none) = x := by
  unfold isV at e
  split at e
  · refine ⟨by simpa only [VR] using W, ?_⟩
    split at e
    · cases e; simp only [VR] at V; subst V; rfl
    · rename_i hna; cases e; exact V.ne_none hna
  · cases e
theorem cmp_snd {op : CmpOp} {x : Bool} {Q : Value → Shared → Prop} {E : Value → Shared → Prop} (hu : F.A.units + 64 < cLine) (I : Inv C μ H s.heap) (V : VR C μ s.heap a v) (W : VR C μ s.heap b u) (e : cmpV H op a b = some x)
    (h : Q (.bool x) s) : wpAny (model C.prog C.w) F.A (compareOp op v u) Q E s := by
  unfold cmpV at e
  split at e
  · exact (eq_snd hu I V W e).1 h
  · obtain ⟨y, hy, rfl⟩ := Option.map_eq_some_iff.mp e
    exact (eq_snd hu I V W hy).2 h
  · split at e
    · split at e
      · cases e
        simp only [VR] at V W
        obtain ⟨t, rfl⟩ := V
        obtain ⟨t', rfl⟩ := W
        exact PyProof.Rows.lt_int h
      · cases e
    · cases e
  · split at e
    · split at e
      · cases e
        simp only [VR] at V W
        obtain ⟨t, rfl⟩ := V
        obtain ⟨t', rfl⟩ := W
        exact PyProof.Rows.gt_int h
      · cases e
    · cases e
  · obtain ⟨rfl, q⟩ := is_snd V W e
    exact is_none_gen (by rw [q]; exact h)
  · obtain ⟨y, hy, rfl⟩ := Option.map_eq_some_iff.mp e
    obtain ⟨rfl, q⟩ := is_snd V W hy
    exact isnot_none_gen (by rw [q]; exact h)
  · split at e
    · split at e
      · obtain ⟨ss, hs, rfl⟩ := Option.map_eq_some_iff.mp e
        simp only [VR] at V
        obtain ⟨_, t, rfl⟩ := V
        obtain ⟨tp, items, rfl, ht, hv, hl, _⟩ := tuple_of W
        exact in_tuple_strs ht (strs_of hs hv) (by rw [any_str]; exact h)
      · cases e
    · cases e
  · cases e
end
end Mine
end -- EngI
section -- EngJ
namespace Mine
open PySem PySem.W PySem.Calls PyProof.Rows

section
variable {C : Cx} {P : P0} {F : Fm} {μ : Mu} {H : AH} {s : Shared} {a b : AV} {v u : Value}
theorem vrs1 {h : Heap} {x : AV} {vs : List Value} (V : VRs C μ h [x] vs) : ∃ y, vs = [y] ∧ VR C μ h x y := by
  match vs, V with
  | [y], V => simp only [VRs, and_true] at V; exact ⟨y, rfl, V⟩
  | [], V => simp only [VRs] at V
  | _ :: _ :: _, V => simp only [VRs, and_false] at V
theorem vrs2 {h : Heap} {x y : AV} {vs : List Value} (V : VRs C μ h [x, y] vs) : ∃ p q, vs = [p, q] ∧ VR C μ h x p ∧ VR C μ h y q := by
  match vs, V with
  | [p, q], V => simp only [VRs, and_true] at V; exact ⟨p, q, rfl, V.1, V.2⟩
  | [], V => simp only [VRs] at V
  | [_], V => simp only [VRs, and_false] at V
  | _ :: _ :: _ :: _, V => simp only [VRs, and_false] at V
theorem vrs0 {h : Heap} {vs : List Value} (V : VRs C μ h [] vs) : vs = [] := by
  match vs, V with
  | [], _ => rfl
  | _ :: _, V => simp only [VRs] at V

theorem Post.newRange {r : Out AV} {Q : Value → Shared → Prop} {x y : Int} {t u w k : Nat}
    (P : Post C NoX (VRel C) μ s r Q) (e : r = .ok (.rng x y) H) (I : Inv C μ H s.heap) (hl : -(2 ^ 61) ≤ x ∧ x < 2 ^ 61 ∧ -(2 ^ 61) ≤ y ∧ y < 2 ^ 61) :
    Q (.ref s.heap.objs.size) { s with heap := s.heap.push { cls := .type "range", data := .fields #[.int x t, .int y u, .int 1 w] }, toks := k } := by
  have S := Step.push0 I { cls := .type "range", data := .fields #[.int x t, .int y u, .int 1 w] } k
  refine P _ _ _ _ _ e S (I.push0 _) ?_
  simp only [VRel, VR]
  exact ⟨hl, _, t, u, w, rfl, I.free (size_none _), Heap.get?_push_size _ rfl⟩
theorem big63 {n : Nat} (h : n ≤ big) : (n : Int) < 2 ^ 63 := Int.lt_of_le_of_lt (Int.ofNat_le.mpr h) (by decide)
theorem len_snd (I : Inv C μ H s.heap) (V : VR C μ s.heap a v) : WE C F NoX (VRel C) (call (.builtin "len") [v]) (lenV H a) μ s := fun hb Q E Po => by
  unfold lenV at hb Po
  split at hb
  · simp only [VR] at V
    obtain ⟨hl, t, rfl⟩ := V
    refine PyProof.Rows.len_str (by rw [str_len]; exact Int.not_le.mpr (big63 hl)) ?_
    rw [str_len]
    exact Po.done rfl I (by simp only [VRel, VR]; exact ⟨_, rfl⟩)
  · obtain ⟨t, items, rfl, ht, hv, hl, _⟩ := tuple_of V
    have hz := hv.len
    simp only [Array.length_toList] at hz
    refine PyProof.Rows.len_tuple ht (by rw [← hz]; exact big63 hl) ?_
    rw [← hz]
    exact Po.done rfl I (by simp only [VRel, VR]; exact ⟨_, rfl⟩)
  · split at hb
    · rename_i l hl
      dsimp only at Po
      rw [hl] at Po
      obtain ⟨p, xs, n, hp, rfl, e1, hL, hv, hz⟩ := I.list hl V
      have hz' := hv.len
      simp only [Array.length_toList] at hz'
      refine PyProof.Rows.len_list hL.isList (by rw [← hz']; exact big63 hz) ?_
      rw [← hz']
      exact Po.done rfl I (by simp only [VRel, VR]; exact ⟨_, rfl⟩)
    · exact absurd rfl hb
  · exact absurd rfl hb
theorem isi_snd (I : Inv C μ H s.heap) (V : VR C μ s.heap a v) (W : VR C μ s.heap b u) : WE C F NoX (VRel C) (call (.builtin "isinstance") [v, u]) (isiV H a b) μ s := fun hb Q E Po => by
  unfold isiV at hb Po
  split at hb
  · simp only [VR] at W
    subst W
    dsimp only at Po
    split at hb
    · dsimp only at Po
      simp only [VR] at V
      obtain ⟨hl, t, rfl⟩ := V
      exact IsiPair.str_str (Po.done (y := .bool true) (t := s.toks) rfl I (by simp only [VRel, VR]))
    · exact absurd rfl hb
  · simp only [VR] at W
    subst W
    dsimp only at Po
    split at hb
    · dsimp only at Po
      simp only [VR] at V
      obtain ⟨hl, t, rfl⟩ := V
      exact IsiPair.str_tuple (Po.done (y := .bool false) rfl I (by simp only [VRel, VR]))
    · dsimp only at Po
      simp only [VR] at V
      obtain ⟨t, rfl⟩ := V
      exact IsiPair.int_tuple (Po.done (y := .bool false) rfl I (by simp only [VRel, VR]))
    · dsimp only at Po
      simp only [VR] at V
      subst V
      exact IsiPair.NoneType_tuple (Po.done (y := .bool false) rfl I (by simp only [VRel, VR]))
    · exact absurd rfl hb
  · exact absurd rfl hb
/-- a built-in called -/
theorem bi_snd {bi : Bi} {args : List AV} {vs : List Value} (I : Inv C μ H s.heap) (V : VRs C μ s.heap args vs) : WE C F NoX (VRel C) (call (biVal bi) vs) (biV H bi args) μ s := fun hb Q E Po => by
  unfold biV at hb Po
  split at hb
  · rename_i a
    obtain ⟨y, rfl, V1⟩ := vrs1 V
    dsimp only at Po
    split at hb
    · exact len_snd I V1 hb Q E Po
    · split at hb
      · dsimp only at Po
        simp only [VR] at V1
        obtain ⟨t, rfl⟩ := V1
        refine PyProof.Rows.call_abs_int fun t' tk => Po.done rfl I ?_
        simp only [VRel, VR]
        exact ⟨t', by congr 1; split <;> omega⟩
      · exact absurd rfl hb
    · split at hb
      · dsimp only at Po
        simp only [VR] at V1
        obtain ⟨t, rfl⟩ := V1
        exact call_int_int (Po.done (t := s.toks) rfl I (by simp only [VRel, VR]; exact ⟨t, rfl⟩))
      · exact absurd rfl hb
    · split at hb
      · rename_i z
        by_cases hz : 0 ≤ z ∧ z ≤ 1000000
        · dsimp only at Po
          simp only [VR] at V1
          obtain ⟨t, rfl⟩ := V1
          exact call_range_1 (Po.newRange (if_pos hz) I ⟨by decide, by decide, Int.le_trans (by decide) hz.1, Int.lt_of_le_of_lt hz.2 (by decide)⟩)
        · exact absurd (if_neg hz) hb
      · exact absurd rfl hb
    · exact absurd rfl hb
  · rename_i a c
    obtain ⟨y, z, rfl, V1, W⟩ := vrs2 V
    dsimp only at Po
    split at hb
    · exact isi_snd I V1 W hb Q E Po
    · exact absurd rfl hb
  · exact absurd rfl hb
end
end Mine
end -- EngJ
section -- EngK
namespace Mine
open PySem PySem.W PySem.Calls PyProof.Rows

theorem isL_map {h : Heap} {a : Addr} {vs : Array Value} {n : Nat} (x : IsL h a vs n) (f : Array Value → Array Value) : ∃ k, IsL (h.update a (Obj.mapSeq f)) a (f vs) k := ⟨_, x.update f⟩

section
variable {C : Cx} {P : P0} {F : Fm} {μ : Mu} {H : AH} {s : Shared} {a b : AV} {v u : Value}
/-- a list changed -/
theorem upd_list {i : Nat} {p : Addr × Addr} {t : Nat} {l : List AV} {h' : Heap} {us : Array Value} {k : Nat} (I : Inv C μ H s.heap) (hp : μ[i]? = some p) (e1 : p.2 = p.1) (hs : Heap.SameBut p.1 s.heap h') (hL : IsL h' p.1 us k)
    (V : VRs C μ s.heap l us.toList) (hl : l.length ≤ big) : Step NoX μ s μ { s with heap := h', toks := t } ∧ Inv C μ (H.set i (.list l)) h' := by
  have S : Step NoX μ s μ { s with heap := h', toks := t } := Step.upd (own_lt hp).1 hs hL t
  refine ⟨S, I.upd hp (.inl rfl) hs hL ?_⟩
  simp only [OR]
  exact ⟨e1, hl, us, k, hL, V.step0 S⟩

theorem puti_snd {k r : AV} {kv rv : Value} {H' : AH} {Q : Unit → Shared → Prop} {E : Value → Shared → Prop} (I : Inv C μ H s.heap) (V : VR C μ s.heap a v) (Vk : VR C μ s.heap k kv) (Vr : VR C μ s.heap r rv)
    (hp : putI H a k r = some H') (h : ∀ s', Step NoX μ s μ s' → Inv C μ H' s'.heap → Q () s') : wpAny (model C.prog C.w) F.A (setItem v kv rv) Q E s := by
  unfold putI at hp
  split at hp
  · rename_i i
    split at hp
    · rename_i l hl
      split at hp
      · rename_i j hj
        obtain ⟨z, rfl, h0, hz⟩ := natOf_int hj
        split at hp
        · rename_i hlt
          cases hp
          simp only [VR] at Vk
          obtain ⟨t, rfl⟩ := Vk
          obtain ⟨p, vs, n, hp, rfl, e1, hL, hv, hlen⟩ := I.list hl V
          have hsz := hv.len
          simp only [Array.length_toList] at hsz
          have hb' : big < 2 ^ 62 := by decide
          refine ki_setAt hL h0 (by omega) (by omega) ?_
          obtain ⟨k', hL'⟩ := isL_map hL (·.setIfInBounds z.toNat rv)
          obtain ⟨S, I'⟩ := upd_list (t := s.toks) (l := l.set j r) I hp e1 (Heap.SameBut.update _ _ _) hL' (by
            rw [Array.toList_setIfInBounds, hz]; exact VRs.set Vr j hv) (by rw [List.length_set]; exact hlen)
          exact h _ S I'
        · cases hp
      · cases hp
    · cases hp
  · cases hp
end
end Mine
end -- EngK
section -- EngL
namespace Mine
open PySem PySem.W PySem.Calls PyProof.Rows

noncomputable def bimId : Nat → String
  | 0 => "list.append"
  | 1 => "list.pop"
  | 2 => "list.extend"
  | 3 => "list.insert"
  | 4 => "list.reverse"
  | 5 => "str.join"
  | _ => "dict.get"
noncomputable def bimName : Nat → Str
  | 0 => "append"
  | 1 => "pop"
  | 2 => "extend"
  | 3 => "insert"
  | 4 => "reverse"
  | 5 => "join"
  | _ => "get"
theorem glue_list : ∀ (r : List (List Nat)) (acc : List Nat) (s : List Nat), (r.map fun x => (⟨x.toArray⟩ : Str)).foldl (fun acc p => acc ++ (⟨s.toArray⟩ : Str).cps ++ p.cps) acc.toArray = (acc ++ (r.map fun x => s ++ x).flatten).toArray
  | [], acc, s => by simp
  | x :: r, acc, s => by
    rw [List.map_cons, List.foldl_cons]
    have := glue_list r (acc ++ s ++ x) s
    simp only [List.append_toArray] at this ⊢
    rw [this]; simp
theorem joinL_eq (s : List Nat) : ∀ (l : List (List Nat)), joinL s l = match l with | [] => [] | x :: r => x ++ (r.map fun y => s ++ y).flatten
  | [] => rfl
  | [x] => by simp [joinL]
  | x :: y :: r => by
    simp only [joinL]
    rw [joinL_eq s (y :: r)]
    simp
theorem join_eq (s : List Nat) (l : List (List Nat)) : Txt.join ⟨s.toArray⟩ (l.map fun x => (⟨x.toArray⟩ : Str)) = ⟨(joinL s l).toArray⟩ := by
  rw [joinL_eq]
  unfold Txt.join Builtin.Str.glued
  cases l with
  | nil => rfl
  | cons x r =>
    simp only [List.map_cons, List.drop_succ_cons, List.drop_zero, List.headD_cons]
    rw [glue_list]
theorem joinL_len (s : List Nat) (l : List (List Nat)) : (joinL s l).length ≤ (l.map (·.length)).sum + l.length * s.length := by
  rw [joinL_eq]
  cases l with
  | nil => simp
  | cons x r =>
    simp only [List.length_append, List.map_cons, List.sum_cons, List.length_cons]
    have : ((r.map fun y => s ++ y).flatten).length = (r.map (·.length)).sum + r.length * s.length := by
      induction r with
      | nil => simp
      | cons y r ih => simp only [List.map_cons, List.flatten_cons, List.length_append, ih, List.sum_cons, List.length_cons, Nat.add_mul]; omega
    rw [this, Nat.add_mul]; omega

section
variable {C : Cx} {P : P0} {F : Fm} {μ : Mu} {H H₀ : AH} {s : Shared} {a b : AV} {v u : Value}
/-- a built-in kind's method found -/
theorem bim_get {m : Nat} {pl : Sem Bool} {Q : Value × List Value → Shared → Prop} {E : Value → Shared → Prop} (I : Inv C μ H s.heap) (V : VR C μ s.heap a v) (e : headV P H a m = some .bim) (h : Q (.builtin (bimId m), [v]) s) :
    wpAny (model C.prog C.w) F.A (getMethod v (bimName m) pl) Q E s := by
  unfold headV at e
  split at e
  · rename_i i
    split at e
    · split at e
      · cases e
      · cases e
    · rename_i l hl
      obtain ⟨p, vs, n, hp, rfl, e1, hL, hv, hz⟩ := I.list hl V
      have nd : ∀ a, Value.ref p.1 = .ref a → ∃ o, s.heap.get? a = some o ∧ o.dict = none := fun a q => by cases q; exact ⟨_, hL, rfl⟩
      have hT := hL.isList.typeIs
      by_cases hm : m < 5
      · rcases m with _ | _ | _ | _ | _ | m
        · exact getMethod_builtin hT PySem.F.plainAttrs_list PySem.F.slot_list_append PySem.F.type_list_append nd h
        · exact getMethod_builtin hT PySem.F.plainAttrs_list PySem.F.slot_list_pop PySem.F.type_list_pop nd h
        · exact getMethod_builtin hT PySem.F.plainAttrs_list PySem.F.slot_list_extend PySem.F.type_list_extend nd h
        · exact getMethod_builtin hT PySem.F.plainAttrs_list PySem.F.slot_list_insert PySem.F.type_list_insert nd h
        · exact getMethod_builtin hT PySem.F.plainAttrs_list PySem.F.slot_list_reverse PySem.F.type_list_reverse nd h
        · exact absurd hm (Nat.not_lt.mpr (Nat.le_add_left 5 m))
      · rw [if_neg hm] at e; cases e
    · cases e
  · split at e
    · rename_i x hm
      subst hm
      simp only [VR] at V
      obtain ⟨_, t, rfl⟩ := V
      exact getMethod_builtin (typeIs_str s _ t) PySem.F.plainAttrs_str PySem.F.slot_str_join PySem.F.type_str_join (fun a q => by cases q) h
    · cases e
  · cases e

theorem Post.none {r : Out AV} {Q : Value → Shared → Prop} {H' : AH} {s' : Shared}
    (P : Post C NoX (VRel C) μ s r Q) (e : r = .ok .none H') (S : Step NoX μ s μ s') (I : Inv C μ H' s'.heap) : Q .none s' :=
  P μ .none H' .none s' e S I (by simp only [VRel, VR])
theorem li_snd {i m : Nat} {l : List AV} {args : List AV} {vs : List Value} (I : Inv C μ H s.heap) (hl : H[i]? = some (.list l)) (V : VR C μ s.heap (.ref i) v) (W : VRs C μ s.heap args vs) :
    WE C F NoX (VRel C) (call (.builtin (bimId m)) (v :: vs)) (liV H i l m args) μ s := fun hb Q E Po => by
  obtain ⟨p, xs, n, hp, rfl, e1, hL, hv, hz⟩ := I.list hl V
  have hzz := hv.len
  simp only [Array.length_toList] at hzz
  unfold liV at hb Po
  split at hb
  · obtain rfl := vrs0 W
    dsimp only at Po
    split at hb
    · unfold popV at hb Po
      split at hb
      · rename_i y hy
        try dsimp only at Po
        rw [hy] at Po
        have hne : l ≠ [] := fun q => by subst q; cases hy
        have hlast : l[l.length - 1]? = some y := by rw [← List.getLast?_eq_getElem?]; exact hy
        obtain ⟨w, hw, Vw⟩ := hv.get hlast
        refine call_meets PySem.F.slot_list_pop hL.isList.typeIs PySem.F.entry_list_pop (PySem.F.args_list_pop_1 _) (MeetsSeq.list_pop_last p.1 xs n w (by rw [← hzz]; simpa using hw) (by rw [big_eq, ← hzz]; exact hz)) ⟨hL, ?_⟩
        obtain ⟨k', hL'⟩ := isL_map hL (fun xs' => xs'.eraseIdxIfInBounds (xs.size - 1))
        obtain ⟨S, I'⟩ := upd_list (t := s.toks) (l := l.dropLast) I hp e1 (Heap.SameBut.update _ _ _) hL' (by
          have hpos : 0 < l.length := List.length_pos_iff.mpr hne
          rw [Array.toList_eraseIdxIfInBounds, ← hzz, List.eraseIdx_eq_take_drop_succ, List.drop_eq_nil_of_le (by rw [Array.length_toList, ← hzz, Nat.sub_add_cancel hpos]; exact Nat.le_refl _), List.append_nil, List.dropLast_eq_take]
          exact hv.take _) (by rw [List.length_dropLast]; exact Nat.le_trans (Nat.sub_le _ _) hz)
        exact Po _ _ _ _ _ rfl S I' (Vw.step0 S)
      · exact absurd rfl hb
    · refine call_meets PySem.F.slot_list_reverse hL.isList.typeIs PySem.F.entry_list_reverse (PySem.F.args_list_reverse_1 _) (AutoSeq1.list_reverse_list_0 p.1 xs n (by rw [big_eq, ← hzz]; exact hz)) ⟨hL, ?_⟩
      obtain ⟨k', hL'⟩ := isL_map hL (fun xs => xs.reverse)
      obtain ⟨S, I'⟩ := upd_list (t := s.toks) (l := l.reverse) I hp e1 (Heap.SameBut.update _ _ _) hL' (by
        rw [Array.toList_reverse]; exact hv.rev) (by rw [List.length_reverse]; exact hz)
      exact Po.none rfl S I'
    · exact absurd rfl hb
  · rename_i x
    obtain ⟨y, rfl, V1⟩ := vrs1 W
    dsimp only at Po
    split at hb
    · try dsimp only at Po
      split at hb
      · rename_i hlt
        rw [if_pos hlt] at Po
        refine call_meets PySem.F.slot_list_append hL.isList.typeIs PySem.F.entry_list_append (PySem.F.args_list_append_2 _ _) (list_append p.1 xs n y (by rw [big_eq, ← hzz]; exact Nat.le_of_lt hlt)) ⟨hL, ?_⟩
        obtain ⟨k', hL'⟩ := isL_map hL (fun xs => xs.push y)
        obtain ⟨S, I'⟩ := upd_list (t := s.toks) (l := l ++ [x]) I hp e1 (Heap.SameBut.update _ _ _) hL' (by
          rw [Array.toList_push]; exact hv.append (by simpa only [VRs, and_true] using V1)) (by rw [List.length_append]; exact hlt)
        exact Po.none rfl S I'
      · exact absurd rfl hb
    · unfold extV at hb Po
      split at hb
      · split at hb
        · rename_i j _ z hx
          dsimp only at Po
          rw [hx] at Po
          dsimp only at Po
          split at hb
          · rename_i hlt
            rw [if_pos hlt] at Po
            obtain ⟨q, ys, n2, hq, rfl, f1, hM, hw, hz2⟩ := I.list hx V1
            have hzz2 := hw.len
            simp only [Array.length_toList] at hzz2
            refine call_meets PySem.F.slot_list_extend hL.isList.typeIs PySem.F.entry_list_extend (PySem.F.args_list_extend_2 _ _) (AutoSeq1.list_extend_list_list_0 p.1 xs n q.1 ys n2 (by
              unfold Builtin.List.listTooLong
              rw [big_eq]
              simp; omega) (by rw [big_eq, ← hzz]; exact hz) (by rw [big_eq, ← hzz, ← hzz2]; exact Nat.le_succ_of_le (Nat.le_of_lt hlt))) ⟨hL, hM, ?_⟩
            obtain ⟨k', hL'⟩ := isL_map hL (fun xs => xs ++ ys)
            obtain ⟨S, I'⟩ := upd_list (t := s.toks) (l := l ++ z) I hp e1 (Heap.SameBut.update _ _ _) hL' (by
              rw [Array.toList_append]; exact hv.append hw) (by rw [List.length_append]; exact Nat.le_of_lt hlt)
            exact Po.none rfl S I'
          · exact absurd rfl hb
        · exact absurd rfl hb
      · exact absurd rfl hb
    · exact absurd rfl hb
  · exact absurd rfl hb
/-- a built-in kind's method called -/
theorem bim_snd {m : Nat} {args : List AV} {vs : List Value} (he : headV P H₀ a m = some .bim) (I : Inv C μ H s.heap) (V : VR C μ s.heap a v) (W : VRs C μ s.heap args vs) :
    WE C F NoX (VRel C) (call (.builtin (bimId m)) (v :: vs)) (bimV H a m args) μ s := fun hb Q E Po => by
  unfold bimV at hb Po
  split at hb
  · split at hb
    · rename_i i _ l hl
      dsimp only at Po
      rw [hl] at Po
      exact li_snd I hl V W hb Q E Po
    · exact absurd rfl hb
  · rename_i x
    split at hb
    · rename_i b
      dsimp only at Po
      obtain ⟨y, rfl, V1⟩ := vrs1 W
      have hm : m = 5 := by
        unfold headV at he
        dsimp only at he
        split at he
        · assumption
        · cases he
      subst hm
      unfold joinV at hb Po
      split at hb
      · split at hb
        · rename_i j _ l hl
          dsimp only at Po
          rw [hl] at Po
          dsimp only at Po
          split at hb
          · rename_i ss hs
            rw [hs] at Po
            dsimp only at Po
            split at hb
            · rename_i hlen
              rw [if_pos hlen] at Po
              obtain ⟨p, xs, n, hp, rfl, e1, hL, hv, hz⟩ := I.list hl V1
              simp only [VR] at V
              obtain ⟨hx, t, rfl⟩ := V
              refine PyProof.Rows.join_list hL.isList (strs_of hs hv) ?_ (fun t' k => Po.done rfl I ?_)
              · rw [List.map_map, List.length_map, str_len]
                have : ((fun x : Str => x.length) ∘ fun x : List Nat => (⟨x.toArray⟩ : Str)) = fun x => x.length := by funext z; simp [Str.length]
                rw [this]; exact hlen
              · rw [join_eq]
                simp only [VRel, VR]
                exact ⟨Nat.le_trans (joinL_len x ss) hlen, t', rfl⟩
            · exact absurd rfl hb
          · exact absurd rfl hb
        · exact absurd rfl hb
      · exact absurd rfl hb
    · exact absurd rfl hb
  · exact absurd rfl hb
end
end Mine
end -- EngL
section -- EngM
namespace Mine
open PySem PySem.W PySem.Calls PyProof.Rows

/-- room for d calls one within another -/
structure AOk (d : Nat) (fs : List Env) (A : Around) : Prop where
  handled : A.handled = none
  frames : A.frames = some fs
  depth : A.depth + 4 * d < 990
  units : A.units + 16 * d < 9000
structure FS (F : Fm) (d : Nat) : Prop where
  handled : F.A.handled = none
  frames : F.A.frames = some F.fr
  depth : F.A.depth + 4 * d + 2 < 990
  units : F.A.units + 16 * d + 8 < 9000
  kind : F.env.scope.kind = .function
  glob : F.env.globals = mainGlobals
  blt : F.env.builtins = builtinsNs
  nodup : F.slots.Nodup
/-- a global name's value -/
structure GName (C : Cx) (mg mb : Str → Option Value) : Prop where
  g : C.base.Ns mainGlobals mg
  b : C.base.Ns builtinsNs mb
  ok : ∀ (g : Nat) (x : Str) (v : AV), C.gt[g]? = some (x, v) → ∃ rv, ((mg x = some rv) ∨ (mg x = none ∧ mb x = some rv)) ∧ ∀ μ h, (∀ b o, C.base.get? b = some o → h.get? b = some o) → (∀ p ∈ μ, C.base.get? p.1 = none ∧ C.base.get? p.2 = none) → VR C μ h v rv

section
variable {α β : Type} {C : Cx} {P : P0} {F : Fm} {call : Nat → List AV → AH → Out AV} {N : Nat} {μ : Mu} {H : AH} {s : Shared} {l : Loc}
noncomputable def SE (C : Cx) (P : P0) (F : Fm) (call : Nat → List AV → AH → Out AV) (N : Nat) (e : E) : Prop :=
  ∀ μ H s l, Inv C μ H s.heap → FR C F μ l s.heap → WE C F NoX (VRel C) (eval (py e) F.env) (evE P call N (st C.gt e) l H) μ s
noncomputable def SEs (C : Cx) (P : P0) (F : Fm) (call : Nat → List AV → AH → Out AV) (N : Nat) (es : List E) : Prop :=
  ∀ p μ H s l, Inv C μ H s.heap → FR C F μ l s.heap → WE C F NoX (VRels C) (spliced (backTo p (starEach (pys es) F.env))) (evEs P call N (sts C.gt es) l H) μ s
/-- a test -/
noncomputable def evT (P : P0) (call : Nat → List AV → AH → Out AV) (N : Nat) (e : E0) (l : Loc) (H : AH) : Out Bool :=
  (evE P call N e l H).bind fun v H => match truthV v with | some b => .ok b H | none => .bad
noncomputable abbrev BRel : Mu → Heap → Bool → Bool → Prop := fun _ _ a b => a = b
noncomputable def ST (C : Cx) (P : P0) (F : Fm) (call : Nat → List AV → AH → Out AV) (N : Nat) (e : E) : Prop :=
  ∀ μ H s l, Inv C μ H s.heap → FR C F μ l s.heap → WE C F NoX BRel (isTrue (py e) F.env (eval (py e) F.env)) (evT P call N (st C.gt e) l H) μ s

theorem starEach_py (e : E) (r : List Expr) (env : Env) : starEach (py e :: r) env = (false, eval (py e) env) :: starEach r env := by cases e <;> rfl
theorem backTo_cons (p : Pos) (t : Sem Value) (r : List (Bool × Sem Value)) : backTo p ((false, t) :: r) = (false, t) :: backTo p r := rfl

theorem ses_nil : SEs C P F call N [] := fun p μ H s l I R hb Q E Po =>
  Calls.spliced_nil (Po μ [] H [] s rfl .refl I (by simp [VRels, VRs]))
theorem ses_cons {e : E} {es : List E} (h1 : SE C P F call N e) (h2 : SEs C P F call N es) : SEs C P F call N (e :: es) := fun p μ H s l I R => by
  show WE C F NoX (VRels C) (spliced (backTo p (starEach (py e :: pys es) F.env))) ((evE P call N (st C.gt e) l H).bind fun v H => (evEs P call N (sts C.gt es) l H).bind fun vs H => .ok (v :: vs) H) μ s
  intro hb Q E Po
  rw [starEach_py, backTo_cons]
  refine Calls.spliced_cons (WE.bind (h1 μ H s l I R) hb Po fun μ₁ a H₁ v s₁ e1 S1 I1 V1 hb1 Po1 => ?_)
  refine WE.bind (h2 p μ₁ H₁ s₁ l I1 (R.step0 S1)) hb1 Po1 fun μ₂ as H₂ vs s₂ e2 S2 I2 V2 hb2 Po2 => ?_
  refine Po2 μ₂ (a :: as) H₂ (v :: vs) s₂ rfl .refl I2 ?_
  simp only [VRels, VRs]
  exact ⟨VR.step0 S2 V1, V2⟩

theorem se_cint {i : Int} {k : Nat} {p : Pos} : SE C P F call N (.cint i k p) := fun μ H s l I R hb Q E Po =>
  wpAny_Constant_int (Po.done rfl I (by simp only [VRel, VR]; exact ⟨_, rfl⟩))
theorem se_cstr {x : Str} {k : Nat} {p : Pos} (hx : x.cps.size ≤ 1000) : SE C P F call N (.cstr x k p) := fun μ H s l I R hb Q E Po =>
  Calls.Constant_str (Po.done rfl I (by
    simp only [VRel, VR]
    exact ⟨by rw [Array.length_toList]; have : big = 16777216 := rfl; omega, s.toks, by rw [str_eta]⟩))
theorem se_cbool {b : Bool} {k : Nat} {p : Pos} : SE C P F call N (.cbool b k p) := fun μ H s l I R hb Q E Po =>
  show wpAny _ _ (pure (Value.bool b)) _ _ _ from wpAny_pure (Po.done (t := s.toks) rfl I (by simp only [VRel, VR]))
theorem se_cnone {k : Nat} {p : Pos} : SE C P F call N (.cnone k p) := fun μ H s l I R hb Q E Po =>
  show wpAny _ _ (pure Value.none) _ _ _ from wpAny_pure (Po.done (t := s.toks) rfl I (by simp only [VRel, VR]))
theorem se_bad {e : E} (h : st C.gt e = .bad) : SE C P F call N e := fun μ H s l I R hb => absurd (by rw [h]; rfl) hb

theorem se_loc {d : Nat} {x : Str} {i : Nat} {p : Pos} (S : FS F d) (hi : F.slots[i]? = some x) (hk : F.env.scope.names.lookup x = some .local) (hd : (x == ("__debug__" : Str)) = false) : SE C P F call N (.loc x i p) := fun μ H s l I R => by
  show WE C F NoX (VRel C) _ (match l[i]? with | some (some v) => .ok v H | _ => .bad) μ s
  intro hb Q E Po
  obtain ⟨m, hn, hm⟩ := R.ns
  split at hb
  · rename_i v hv
    rw [hv] at Po
    obtain ⟨rv, e, V⟩ := hm i x v hi hv
    exact wpAny_Name (wpAny_loadName_local S.kind hk hn e (Po.done (t := s.toks) rfl I V)) hd
  · exact absurd rfl hb
theorem se_glob {d : Nat} {x : Str} {g : Nat} {p : Pos} {mg mb : Str → Option Value} (S : FS F d) (G : GName C mg mb) (hg : (C.gt[g]?).map (·.1) = some x) (hk : F.env.scope.names.lookup x = some .globalImplicit) (hd : (x == ("__debug__" : Str)) = false) :
    SE C P F call N (.glob x g p) := fun μ H s l I R hb Q E Po => by
  obtain ⟨⟨x', v⟩, hgv, rfl⟩ := Option.map_eq_some_iff.mp hg
  have e : evE P call N (st C.gt (.glob x' g p)) l H = .ok v H := by
    show Out.ok (((C.gt[g]?).map (·.2)).getD .none) H = _
    rw [hgv]; rfl
  rw [e] at hb Po
  obtain ⟨rv, hrv, hV⟩ := G.ok g x' v hgv
  have q : Q rv s := Po.done (t := s.toks) rfl I (hV μ s.heap I.stays I.new)
  have hg' : s.heap.Ns F.env.globals mg := by rw [S.glob]; exact G.g.keeps I.stays
  have hb' : s.heap.Ns F.env.builtins mb := by rw [S.blt]; exact G.b.keeps I.stays
  rcases hrv with h1 | ⟨h1, h2⟩
  · exact Name_function_global S.kind hk (loadGlobal_global hg' h1 q) hd
  · exact Name_function_global S.kind hk (loadGlobal_builtin hg' h1 hb' h2 q) hd

theorem evEs_len (es : List E) : ∀ (l : Loc) (H : AH) (as : List AV) (H' : AH), evEs P call N (sts C.gt es) l H = .ok as H' → as.length = es.length := by
  induction es with
  | nil => intro l H as H' e; cases e; rfl
  | cons e es ih =>
    intro l H as H' q
    have q : ((evE P call N (st C.gt e) l H).bind fun v H => (evEs P call N (sts C.gt es) l H).bind fun vs H => .ok (v :: vs) H) = .ok as H' := q
    cases h1 : evE P call N (st C.gt e) l H with
    | ok a H1 =>
      rw [h1] at q
      cases h2 : evEs P call N (sts C.gt es) l H1 with
      | ok bs H2 =>
        have q : (evEs P call N (sts C.gt es) l H1).bind (fun vs H => .ok (a :: vs) H) = .ok as H' := q
        rw [h2] at q; cases q; exact congrArg Nat.succ (ih _ _ _ _ h2)
      | bad =>
        have q : (evEs P call N (sts C.gt es) l H1).bind (fun vs H => .ok (a :: vs) H) = .ok as H' := q
        rw [h2] at q; cases q
    | bad => rw [h1] at q; cases q
theorem se_tup {es : List E} {k : Nat} {p : Pos} (h : SEs C P F call N es) (hl : es.length ≤ 1000) : SE C P F call N (.tup es k p) := fun μ H s l I R => by
  show WE C F NoX (VRel C) _ ((evEs P call N (sts C.gt es) l H).bind fun vs H => .ok (.tup vs) H) μ s
  intro hb Q E Po
  refine wpAny_Tuple (WE.bind (h p μ H s l I R) hb Po fun μ₁ as H₁ vs s₁ e1 S1 I1 V1 hb1 Po1 => ?_)
  have hlen := evEs_len es l H as H₁ e1
  have hb' : big = 16777216 := rfl
  have hl2 := VRs.len V1
  exact ⟨by rw [big_eq, ← hl2]; omega, Po1.newTuple (t := s₁.toks) rfl I1 V1 (by omega)⟩
theorem se_list {es : List E} {p : Pos} (h : SEs C P F call N es) (hl : es.length ≤ 1000) : SE C P F call N (.list es p) := fun μ H s l I R => by
  show WE C F NoX (VRel C) _ ((evEs P call N (sts C.gt es) l H).bind fun vs H => .ok (.ref H.length) (H ++ [.list vs])) μ s
  intro hb Q E Po
  refine wpAny_List (WE.bind (h p μ H s l I R) hb Po fun μ₁ as H₁ vs s₁ e1 S1 I1 V1 hb1 Po1 => ?_)
  have hlen := evEs_len es l H as H₁ e1
  have hb' : big = 16777216 := rfl
  have hl2 := VRs.len V1
  exact ⟨by rw [big_eq, ← hl2]; omega, Po1.newList (t := s₁.toks) rfl I1 V1 (by omega)⟩

/-- a base that is no bare super() -/
noncomputable def noSuper : E → Bool
  | .call (.glob x _ _) _ _ => x != ("super" : Str)
  | .call (.gbad x _) _ _ => x != ("super" : Str)
  | .call (.loc x _ _) _ _ => x != ("super" : Str)
  | _ => true
theorem base_name {y x : Str} {q p : Pos} {env : Env} (h : (y != ("super" : Str)) = true) : attributeBase (.Call (.Name y q) [] [] p) x env (eval (.Call (.Name y q) [] [] p) env) = eval (.Call (.Name y q) [] [] p) env := by
  unfold attributeBase
  dsimp only
  rw [if_pos (by rw [h]; rfl)]
theorem base_of {o : E} {x : Str} {env : Env} (h : noSuper o = true) : attributeBase (py o) x env (eval (py o) env) = eval (py o) env := by
  cases o with
  | call f args p =>
    cases args with
    | cons a r => cases f <;> rfl
    | nil =>
      cases f with
      | glob y g q => exact base_name h
      | gbad y q => exact base_name h
      | loc y i q => exact base_name h
      | _ => rfl
  | _ => rfl
theorem se_attr {o : E} {x : Str} {a : Nat} {p : Pos} (G : Good C P) (h : SE C P F call N o) (hs : noSuper o = true) (hx : C.nm[a]? = some x) : SE C P F call N (.attr o x a p) := fun μ H s l I R => by
  show WE C F NoX (VRel C) _ ((evE P call N (st C.gt o) l H).bind fun v H => match attrV P.fld H v a with | some r => .ok r H | none => .bad) μ s
  intro hb Q E Po
  refine Attribute_any_ (WE.bind (h μ H s l I R) hb Po fun μ₁ b H₁ v s₁ e1 S1 I1 V1 hb1 Po1 => attr_snd G I1 V1 hx hb1 Q E Po1) ?_
  show (do let o ← attributeBase (py o) x F.env (eval (py o) F.env); _) = _
  rw [base_of hs]
theorem sub_plain {i : E} (v u : Value) : ∃ ops, subscripted (py i) false v u = operate ops (getItem v u) := by cases i <;> exact ⟨_, rfl⟩
theorem se_item {o i : E} {p : Pos} (h1 : SE C P F call N o) (h2 : SE C P F call N i) : SE C P F call N (.item o i p) := fun μ H s l I R => by
  show WE C F NoX (VRel C) _ ((evE P call N (st C.gt o) l H).bind fun v H => (evE P call N (st C.gt i) l H).bind fun k H => match itemV H v k with | some r => .ok r H | none => .bad) μ s
  intro hb Q E Po
  refine Subscript_ (WE.bind (h1 μ H s l I R) hb Po fun μ₁ a H₁ v s₁ e1 S1 I1 V1 hb1 Po1 => ?_)
  refine WE.bind (h2 μ₁ H₁ s₁ l I1 (R.step0 S1)) hb1 Po1 fun μ₂ b H₂ u s₂ e2 S2 I2 V2 hb2 Po2 => ?_
  exact item_snd I2 (V1.step0 S2) V2 sub_plain hb2 Q E Po2
/-- a slice's part -/
noncomputable def SP (C : Cx) (P : P0) (F : Fm) (call : Nat → List AV → AH → Out AV) (N : Nat) (e : E) : Prop :=
  ∀ μ H s l, Inv C μ H s.heap → FR C F μ l s.heap → WE C F NoX (VRel C) (evalPart (pyO e) F.env) (evE P call N (st C.gt e) l H) μ s
theorem so_non : SP C P F call N .non := fun μ H s l I R hb Q E Po =>
  show wpAny _ _ (pure Value.none) _ _ _ from wpAny_pure (Po.done (t := s.toks) rfl I (by simp only [VRel, VR]))
theorem so_of {e : E} (hn : ∀ q : e = .non, False) (h : SE C P F call N e) : SP C P F call N e := fun μ H s l I R => by
  have : evalPart (pyO e) F.env = eval (py e) F.env := by cases e <;> first | rfl | exact (hn rfl).elim
  rw [this]; exact h μ H s l I R
theorem se_slice {o lo hi z : E} {p1 p : Pos} (h1 : SE C P F call N o) (h2 : SP C P F call N lo) (h3 : SP C P F call N hi) (h4 : SP C P F call N z) : SE C P F call N (.slice o lo hi z p1 p) := fun μ H s l I R => by
  show WE C F NoX (VRel C) _ ((evE P call N (st C.gt o) l H).bind fun v H => (evE P call N (st C.gt lo) l H).bind fun a H => (evE P call N (st C.gt hi) l H).bind fun b H => (evE P call N (st C.gt z) l H).bind fun c H => sliceV H v a b c) μ s
  intro hb Q E Po
  refine Subscript_ (WE.bind (h1 μ H s l I R) hb Po fun μ₁ a H₁ v s₁ e1 S1 I1 V1 hb1 Po1 => ?_)
  have R1 := R.step0 S1
  refine wpAny_Slice (WE.bind (h2 μ₁ H₁ s₁ l I1 R1) hb1 Po1 fun μ₂ b H₂ vl s₂ e2 S2 I2 V2 hb2 Po2 => ?_)
  have R2 := R1.step0 S2
  refine WE.bind (h3 μ₂ H₂ s₂ l I2 R2) hb2 Po2 fun μ₃ c H₃ vu s₃ e3 S3 I3 V3 hb3 Po3 => ?_
  have R3 := R2.step0 S3
  refine WE.bind (h4 μ₃ H₃ s₃ l I3 R3) hb3 Po3 fun μ₄ d H₄ vz s₄ e4 S4 I4 V4 hb4 Po4 => ?_
  refine slice_snd I4 (((VR.step0 S2 V1).step0 S3).step0 S4) ((VR.step0 S3 V2).step0 S4) (VR.step0 S4 V3) V4 (fun v u => ?_) hb4 Po4
  cases z <;> exact ⟨_, rfl⟩
theorem se_bin {x y : E} {op : Operator} {p : Pos} (h1 : SE C P F call N x) (h2 : SE C P F call N y) : SE C P F call N (.bin x op y p) := fun μ H s l I R => by
  show WE C F NoX (VRel C) _ ((evE P call N (st C.gt x) l H).bind fun a H => (evE P call N (st C.gt y) l H).bind fun b H => binV H op a b) μ s
  intro hb Q E Po
  refine wpAny_BinOp (WE.bind (h1 μ H s l I R) hb Po fun μ₁ a H₁ v s₁ e1 S1 I1 V1 hb1 Po1 => ?_)
  refine WE.bind (h2 μ₁ H₁ s₁ l I1 (R.step0 S1)) hb1 Po1 fun μ₂ b H₂ u s₂ e2 S2 I2 V2 hb2 Po2 => ?_
  exact bin_snd I2 (V1.step0 S2) V2 hb2 Q E Po2
theorem se_neg {x : E} {p : Pos} (h1 : SE C P F call N x) : SE C P F call N (.neg x p) := fun μ H s l I R => by
  show WE C F NoX (VRel C) _ ((evE P call N (st C.gt x) l H).bind fun v H => match v with | .int i => .ok (.int (-i)) H | _ => .bad) μ s
  intro hb Q E Po
  show wpAny _ _ (do let v ← eval (py x) F.env; standAt p; holding [v] (unaryOp .USub v)) Q E s
  refine wpAny_bind (WE.bind (h1 μ H s l I R) hb Po fun μ₁ a H₁ v s₁ e1 S1 I1 V1 hb1 Po1 => ?_)
  refine wpAny_bind (wpAny_standAt (wpAny_holding ?_))
  split at hb1
  · simp only [VRel, VR] at V1
    obtain ⟨t, rfl⟩ := V1
    exact PyProof.Rows.neg_int (Po1.done rfl I1 (by simp only [VRel, VR]; exact ⟨_, rfl⟩))
  · exact absurd rfl hb1
theorem truth_of {h : Heap} {a : AV} {v : Value} {b : Bool} (V : VR C μ h a v) (e : truthV a = some b) : v = .bool b := by
  cases a <;> simp [truthV] at e
  subst e
  simpa only [VR] using V
theorem se_not {x : E} {p : Pos} (h1 : SE C P F call N x) : SE C P F call N (.not x p) := fun μ H s l I R => by
  show WE C F NoX (VRel C) _ ((evE P call N (st C.gt x) l H).bind fun v H => match truthV v with | some b => .ok (.bool (!b)) H | none => .bad) μ s
  intro hb Q E Po
  show wpAny _ _ (do let v ← eval (py x) F.env; standAt p; holding [v] (unaryOp .Not v)) Q E s
  refine wpAny_bind (WE.bind (h1 μ H s l I R) hb Po fun μ₁ a H₁ v s₁ e1 S1 I1 V1 hb1 Po1 => ?_)
  refine wpAny_bind (wpAny_standAt (wpAny_holding ?_))
  split at hb1
  · rename_i b hbv
    obtain rfl := truth_of V1 hbv
    rw [hbv] at Po1
    exact not_of (wpAny_truthy_bool (Po1.done (t := s₁.toks) rfl I1 (by simp only [VRel, VR])))
  · exact absurd rfl hb1
end
end Mine
end -- EngM
section -- EngN
namespace Mine
open PySem PySem.W PySem.Calls PyProof.Rows

section
variable {α β : Type} {C : Cx} {P : P0} {F : Fm} {call : Nat → List AV → AH → Out AV} {N : Nat} {μ : Mu} {H : AH} {s : Shared} {l : Loc} {d : Nat}
noncomputable def tB (v : AV) (H : AH) : Out Bool := match truthV v with | some b => .ok b H | none => .bad
theorem evT_def (e : E0) : evT P call N e l H = (evE P call N e l H).bind tB := rfl
theorem evT_bind {γ : Type} (e : E0) (f g : AH → Out γ) : ((evE P call N e l H).bind fun v H => match truthV v with | some true => f H | some false => g H | none => .bad) = (evT P call N e l H).bind fun b H => if b = true then f H else g H := by
  unfold evT
  cases evE P call N e l H with
  | ok a H1 => simp only [Out.bind]; cases truthV a with
    | none => rfl
    | some b => cases b <;> rfl
  | bad => rfl

/-- and, or -/
theorem bop_go {op : BoolOp} {p : Pos} : ∀ (es : List E), (∀ e ∈ es, SE C P F call N e) → ∀ μ H s l, Inv C μ H s.heap → FR C F μ l s.heap →
    WE C F NoX (VRel C) (boolOp p op (evalEach (pys es) F.env)) (bopGo op H (evFs P call N (sts C.gt es) l)) μ s
  | [], _, _, _, _, _, _, _ => fun hb => absurd rfl hb
  | [e], h, μ, H, s, l, I, R => h e (.head _) μ H s l I R
  | e :: e2 :: r, h, μ, H, s, l, I, R => fun hb Q E Po => by
    show wpAny _ _ (do
      let v ← eval (py e) F.env
      standAt p
      let t ← holding [v] (truthy v)
      match op, t with
      | .And, false | .Or, true => pure v
      | _, _ => boolOp p op (evalEach (pys (e2 :: r)) F.env)) Q E s
    have hb0 : (evE P call N (st C.gt e) l H).bind (fun v H => match op, truthV v with
      | .And, some false => (.ok v H : Out AV)
      | .Or, some true => .ok v H
      | _, some _ => bopGo op H (evFs P call N (sts C.gt (e2 :: r)) l)
      | _, none => .bad) ≠ .bad := hb
    refine wpAny_bind (WE.bind (h e (.head _) μ H s l I R) hb0 Po fun μ₁ a H₁ v s₁ e1 S1 I1 V1 hb1 Po1 => ?_)
    refine wpAny_bind (wpAny_standAt (wpAny_bind (wpAny_holding ?_)))
    cases ht : truthV a with
    | none => rw [ht] at hb1; cases op <;> exact absurd rfl hb1
    | some b =>
      obtain rfl := truth_of V1 ht
      refine wpAny_truthy_bool ?_
      rw [ht] at hb1 Po1
      have rest : bopGo op H₁ (evFs P call N (sts C.gt (e2 :: r)) l) ≠ .bad → Post C NoX (VRel C) μ₁ s₁ (bopGo op H₁ (evFs P call N (sts C.gt (e2 :: r)) l)) Q → wpAny (model C.prog C.w) F.A (boolOp p op (evalEach (pys (e2 :: r)) F.env)) Q E s₁ :=
        fun a b => bop_go (e2 :: r) (fun e he => h e (.tail _ he)) μ₁ H₁ s₁ l I1 (R.step0 S1) a Q E b
      cases op <;> cases b
      · exact wpAny_pure (Po1.done (t := s₁.toks) rfl I1 V1)
      · exact rest hb1 Po1
      · exact rest hb1 Po1
      · exact wpAny_pure (Po1.done (t := s₁.toks) rfl I1 V1)
theorem se_bop {op : BoolOp} {es : List E} {p : Pos} (h : ∀ e ∈ es, SE C P F call N e) : SE C P F call N (.bop op es p) := bop_go es h
theorem bopT_cons {op : BoolOp} {f g : AH → Out AV} {fs : List (AH → Out AV)} : (bopGo op H (f :: g :: fs)).bind tB = ((f H).bind tB).bind fun b H => match op, b with
    | .And, false => .ok false H
    | .Or, true => .ok true H
    | _, _ => (bopGo op H (g :: fs)).bind tB := by
  show ((f H).bind _).bind tB = _
  cases f H with
  | ok a H1 =>
    simp only [Out.bind]
    cases ht : truthV a with
    | none => simp only [tB, ht]
    | some b => simp only [tB, ht]; cases op <;> cases b <;> simp [tB, ht]
  | bad => rfl
theorem all_go {op : BoolOp} : ∀ (es : List E), es ≠ [] → (∀ e ∈ es, ST C P F call N e) → ∀ μ H s l, Inv C μ H s.heap → FR C F μ l s.heap →
    WE C F NoX BRel (allTrue op (pys es) F.env) ((bopGo op H (evFs P call N (sts C.gt es) l)).bind tB) μ s
  | [], hn, _, _, _, _, _, _, _ => absurd rfl hn
  | [e], _, h, μ, H, s, l, I, R => fun hb Q E Po => by
    show wpAny _ _ (do
      match op, ← isTrue (py e) F.env (eval (py e) F.env) with
      | .And, false => pure false
      | .Or, true => pure true
      | _, _ => allTrue op [] F.env) Q E s
    refine wpAny_bind (h e (.head _) μ H s l I R hb _ E fun μ' a H' v s' q S I V => ?_)
    obtain rfl : a = v := V
    have fin : Q a s' := Po μ' a H' a s' q S I rfl
    cases op <;> cases a <;> exact wpAny_pure fin
  | e :: e2 :: r, _, h, μ, H, s, l, I, R => fun hb Q E Po => by
    have eq : (bopGo op H (evFs P call N (sts C.gt (e :: e2 :: r)) l)).bind tB = (evT P call N (st C.gt e) l H).bind fun b H => match op, b with
      | .And, false => .ok false H
      | .Or, true => .ok true H
      | _, _ => (bopGo op H (evFs P call N (sts C.gt (e2 :: r)) l)).bind tB := bopT_cons
    rw [eq] at hb Po
    show wpAny _ _ (do
      match op, ← isTrue (py e) F.env (eval (py e) F.env) with
      | .And, false => pure false
      | .Or, true => pure true
      | _, _ => allTrue op (pys (e2 :: r)) F.env) Q E s
    refine wpAny_bind (WE.bind (h e (.head _) μ H s l I R) hb Po fun μ₁ a H₁ v s₁ e1 S1 I1 V1 hb1 Po1 => ?_)
    obtain rfl : a = v := V1
    have rest : (bopGo op H₁ (evFs P call N (sts C.gt (e2 :: r)) l)).bind tB ≠ .bad → Post C NoX BRel μ₁ s₁ ((bopGo op H₁ (evFs P call N (sts C.gt (e2 :: r)) l)).bind tB) Q → wpAny (model C.prog C.w) F.A (allTrue op (pys (e2 :: r)) F.env) Q E s₁ :=
      fun a b => all_go (e2 :: r) (by simp) (fun e he => h e (.tail _ he)) μ₁ H₁ s₁ l I1 (R.step0 S1) a Q E b
    cases op <;> cases a
    · exact wpAny_pure (Po1 μ₁ false H₁ false s₁ rfl .refl I1 rfl)
    · exact rest hb1 Po1
    · exact rest hb1 Po1
    · exact wpAny_pure (Po1 μ₁ true H₁ true s₁ rfl .refl I1 rfl)
theorem st_bop {op : BoolOp} {es : List E} {p : Pos} (hn : es ≠ []) (h : ∀ e ∈ es, ST C P F call N e) : ST C P F call N (.bop op es p) := all_go es hn h

/-- comparisons -/
theorem FS.deep (S : FS F d) : F.A.units + 64 < cLine := by
  have h : cLine = 9900 := rfl
  rw [h]
  exact Nat.lt_of_lt_of_le (Nat.lt_of_le_of_lt (Nat.add_le_add_right (Nat.le_trans (Nat.le_add_right _ _) (Nat.le_add_right _ 8)) 64) (Nat.add_lt_add_right S.units 64)) (by decide)
theorem se_cmp (S : FS F d) {x e : E} {op : CmpOp} {p : Pos} (h1 : SE C P F call N x) (h : SE C P F call N e) : SE C P F call N (.cmp x [op] [e] p) := fun μ H s l I R => by
  show WE C F NoX (VRel C) _ ((evE P call N (st C.gt x) l H).bind fun a H => (evE P call N (st C.gt e) l H).bind fun b H => match cmpV H op a b with | some x => (.ok (.bool x) H : Out AV) | none => .bad) μ s
  intro hb Q E Po
  show wpAny _ _ (do compareChain p (← eval (py x) F.env) [op] [markedBehindIn op (py e) (eval (py e) F.env)]) Q E s
  rw [markedBehindIn_of_false (by cases e <;> rfl)]
  refine wpAny_bind (WE.bind (h1 μ H s l I R) hb Po fun μ₁ a H₁ v s₁ e1 S1 I1 V1 hb1 Po1 => ?_)
  show wpAny _ _ (do
      let rv ← holding [v] (eval (py e) F.env)
      standAt p
      operate [v, rv] (compareOp op v rv)) Q E s₁
  refine wpAny_bind (wpAny_holding (WE.bind (h μ₁ H₁ s₁ l I1 (R.step0 S1)) hb1 Po1 fun μ₂ b H₂ u s₂ e2 S2 I2 V2 hb2 Po2 => ?_))
  refine wpAny_bind (wpAny_standAt (wpAny_operateT ?_))
  cases hc : cmpV H₂ op a b with
  | none => rw [hc] at hb2; exact absurd rfl hb2
  | some x =>
    rw [hc] at Po2
    exact cmp_snd S.deep I2 (V1.step0 S2) V2 hc (Po2.done (t := s₂.toks) rfl I2 (by simp only [VRel, VR]))
end
end Mine
end -- EngN
section -- EngO
namespace Mine
open PySem PySem.W PySem.Calls PyProof.Rows

section
variable {α β : Type} {C : Cx} {P : P0} {F : Fm} {call : Nat → List AV → AH → Out AV} {N : Nat} {μ : Mu} {H : AH} {s : Shared} {l : Loc} {d : Nat}
theorem out_assoc {γ δ : Type} (x : Out α) (f : α → AH → Out γ) (g : γ → AH → Out δ) : (x.bind f).bind g = x.bind fun a H => (f a H).bind g := by cases x <;> rfl
theorem st_cmp (S : FS F d) {x e : E} {op : CmpOp} {p : Pos} (h1 : SE C P F call N x) (h : SE C P F call N e) : ST C P F call N (.cmp x [op] [e] p) := fun μ H s l I R => by
  have eq : evT P call N (st C.gt (.cmp x [op] [e] p)) l H = (evE P call N (st C.gt x) l H).bind fun a H => (evE P call N (st C.gt e) l H).bind fun b H => match cmpV H op a b with | some x => (.ok x H : Out Bool) | none => .bad := by
    show ((evE P call N (st C.gt x) l H).bind fun a H => (evE P call N (st C.gt e) l H).bind fun b H => match cmpV H op a b with | some x => (.ok (.bool x) H : Out AV) | none => .bad).bind tB = _
    cases evE P call N (st C.gt x) l H with
    | bad => rfl
    | ok a H1 =>
      show ((evE P call N (st C.gt e) l H1).bind fun b H => match cmpV H op a b with | some x => (.ok (.bool x) H : Out AV) | none => .bad).bind tB = (evE P call N (st C.gt e) l H1).bind _
      cases evE P call N (st C.gt e) l H1 with
      | bad => rfl
      | ok b H2 =>
        show Out.bind (match cmpV H2 op a b with | some x => (.ok (.bool x) H2 : Out AV) | none => .bad) tB = (match cmpV H2 op a b with | some x => (.ok x H2 : Out Bool) | none => .bad)
        cases cmpV H2 op a b <;> rfl
  rw [eq]
  intro hb Q E Po
  show wpAny _ _ (do testChain p (← eval (py x) F.env) [op] [markedBehindIn op (py e) (eval (py e) F.env)]) Q E s
  rw [markedBehindIn_of_false (by cases e <;> rfl)]
  refine wpAny_bind (WE.bind (h1 μ H s l I R) hb Po fun μ₁ a H₁ v s₁ e1 S1 I1 V1 hb1 Po1 => ?_)
  show wpAny _ _ (do
      let rv ← holding [v] (eval (py e) F.env)
      standAt p
      let c ← operate [v, rv] (compareOp op v rv)
      holding [c] (truthy c)) Q E s₁
  refine wpAny_bind (wpAny_holding (WE.bind (h μ₁ H₁ s₁ l I1 (R.step0 S1)) hb1 Po1 fun μ₂ b H₂ u s₂ e2 S2 I2 V2 hb2 Po2 => ?_))
  refine wpAny_bind (wpAny_standAt (wpAny_bind (wpAny_operateT ?_)))
  cases hc : cmpV H₂ op a b with
  | none => rw [hc] at hb2; exact absurd rfl hb2
  | some x =>
    rw [hc] at Po2
    exact cmp_snd S.deep I2 (V1.step0 S2) V2 hc (wpAny_holding (wpAny_truthy_bool (Po2 μ₂ x H₂ x s₂ rfl .refl I2 rfl)))
theorem st_not {x : E} {p : Pos} (h1 : ST C P F call N x) : ST C P F call N (.not x p) := fun μ H s l I R => by
  have eq : evT P call N (st C.gt (.not x p)) l H = (evT P call N (st C.gt x) l H).bind fun b H => .ok (!b) H := by
    show ((evE P call N (st C.gt x) l H).bind _).bind tB = ((evE P call N (st C.gt x) l H).bind tB).bind _
    rw [out_assoc, out_assoc]
    congr 1
    funext v H
    unfold tB
    cases truthV v <;> rfl
  rw [eq]
  intro hb Q E Po
  refine isTrue_not (WE.bind (h1 μ H s l I R) hb Po fun μ₁ a H₁ v s₁ e1 S1 I1 V1 hb1 Po1 => ?_)
  obtain rfl : a = v := V1
  exact Po1 μ₁ _ H₁ _ s₁ rfl .refl I1 rfl
theorem ite_eq (c a b : E) {p : Pos} : evE P call N (st C.gt (.ite c a b p)) l H = (evT P call N (st C.gt c) l H).bind fun x H => if x = true then evE P call N (st C.gt a) l H else evE P call N (st C.gt b) l H := by
  rw [← evT_bind]; rfl
theorem se_ite {c a b : E} {p : Pos} (hc : ST C P F call N c) (h1 : SE C P F call N a) (h2 : SE C P F call N b) : SE C P F call N (.ite c a b p) := fun μ H s l I R => by
  rw [ite_eq]
  intro hb Q E Po
  show wpAny _ _ (do if ← isTrue (py c) F.env (eval (py c) F.env) then eval (py a) F.env else eval (py b) F.env) Q E s
  refine wpAny_bind (WE.bind (hc μ H s l I R) hb Po fun μ₁ x H₁ v s₁ e1 S1 I1 V1 hb1 Po1 => ?_)
  obtain rfl : x = v := V1
  cases x
  · exact h2 μ₁ H₁ s₁ l I1 (R.step0 S1) hb1 Q E Po1
  · exact h1 μ₁ H₁ s₁ l I1 (R.step0 S1) hb1 Q E Po1
theorem st_ite {c a b : E} {p : Pos} (hc : ST C P F call N c) (h1 : ST C P F call N a) (h2 : ST C P F call N b) : ST C P F call N (.ite c a b p) := fun μ H s l I R => by
  have eq : evT P call N (st C.gt (.ite c a b p)) l H = (evT P call N (st C.gt c) l H).bind fun x H => if x = true then evT P call N (st C.gt a) l H else evT P call N (st C.gt b) l H := by
    rw [evT_def, ite_eq, out_assoc]
    congr 1
    funext x H
    cases x <;> rfl
  rw [eq]
  intro hb Q E Po
  show wpAny _ _ (do if ← isTrue (py c) F.env (eval (py c) F.env) then isTrue (py a) F.env (eval (py a) F.env) else isTrue (py b) F.env (eval (py b) F.env)) Q E s
  refine wpAny_bind (WE.bind (hc μ H s l I R) hb Po fun μ₁ x H₁ v s₁ e1 S1 I1 V1 hb1 Po1 => ?_)
  obtain rfl : x = v := V1
  cases x
  · exact h2 μ₁ H₁ s₁ l I1 (R.step0 S1) hb1 Q E Po1
  · exact h1 μ₁ H₁ s₁ l I1 (R.step0 S1) hb1 Q E Po1
theorem st_of {e : E} (h : SE C P F call N e) (he : isTrue (py e) F.env (eval (py e) F.env) = (do let v ← eval (py e) F.env; standAt (py e).pos; holding [v] (truthy v))) : ST C P F call N e := fun μ H s l I R hb Q E Po => by
  rw [evT_def] at hb Po
  rw [he]
  refine wpAny_bind (WE.bind (h μ H s l I R) hb Po fun μ₁ a H₁ v s₁ e1 S1 I1 V1 hb1 Po1 => ?_)
  refine wpAny_bind (wpAny_standAt (wpAny_holding ?_))
  unfold tB at hb1 Po1
  cases ht : truthV a with
  | none => rw [ht] at hb1; exact absurd rfl hb1
  | some b =>
    rw [ht] at Po1
    obtain rfl := truth_of V1 ht
    exact wpAny_truthy_bool (Po1 μ₁ b H₁ b s₁ rfl .refl I1 rfl)

/-! calls -/
noncomputable def CallOk (C : Cx) (A : Around) (call : Nat → List AV → AH → Out AV) : Prop :=
  ∀ k args vs μ H s, Inv C μ H s.heap → VRs C μ s.heap args vs → call k args H ≠ .bad → ∀ Q (E : Value → Shared → Prop), Post C NoX (VRel C) μ s (call k args H) Q →
    codeAny (model C.prog C.w) A (.call (.ref (C.fnA k)) ⟨vs, []⟩) (fun r s' => match r with | .ok (.ret v) => Q v s' | .ok _ => False | .error e => E e s') s
structure CGood (C : Cx) (P : P0) : Prop extends Good C P where
  fn : ∀ k, (P.body k).isSome = true → keepIn C.K (.ref (C.fnA k)) = true
  cls : ∀ c k, P.init c = some k → keepIn C.K (.ref (C.clA c)) = true ∧ makesIn C.K (C.clA c) = true ∧ findIn C.K (.ref (C.clA c)) "__init__" = some (some (.ref (C.fnA k))) ∧ typeIn C.K (.ref (C.fnA k)) = some (.type "function")
  mth : ∀ c m x k, P.meth c m = some k → C.nm[m]? = some x → plainGet C.K (C.clA c) x = true ∧ findIn C.K (.ref (C.clA c)) x = some (some (.ref (C.fnA k))) ∧ typeIn C.K (.ref (C.fnA k)) = some (.type "function")
  mthb : ∀ c m k, P.meth c m = some k → (P.body k).isSome = true
  mthx : ∀ c m k, P.meth c m = some k → ∃ x, C.nm[m]? = some x
  nm7 : ∀ m, m < 6 → C.nm[m]? = some (bimName m)

theorem args_plain : ∀ (es : List E) (p : Pos), (backTo p (starEach (pys es) F.env)).any (·.1) = false
  | [], _ => rfl
  | e :: r, p => by
    show (backTo p (starEach (py e :: pys r) F.env)).any (·.1) = false
    rw [starEach_py, backTo_cons, List.any_cons, args_plain r p]; rfl
theorem args_snd {γ δ : Type} {es : List E} {p : Pos} {fv : Value} {g : List AV → AH → Out γ} {rel : Mu → Heap → γ → δ → Prop} {Q₀ : δ → Shared → Prop} {Q : Args → Shared → Prop} {E : Value → Shared → Prop} (h : SEs C P F call N es) (I : Inv C μ H s.heap) (R : FR C F μ l s.heap)
    (hb : (evEs P call N (sts C.gt es) l H).bind g ≠ .bad) (Po : Post C NoX rel μ s ((evEs P call N (sts C.gt es) l H).bind g) Q₀)
    (k : ∀ μ₁ as H₁ vs s₁, Step NoX μ s μ₁ s₁ → Inv C μ₁ H₁ s₁.heap → VRs C μ₁ s₁.heap as vs → g as H₁ ≠ .bad → Post C NoX rel μ₁ s₁ (g as H₁) Q₀ → Q ⟨vs, []⟩ s₁) :
    wpAny (model C.prog C.w) F.A (evalArgs fv true (backTo p (starEach (pys es) F.env)) []) Q E s := by
  cases es with
  | nil => exact evalArgs_nil3 (k μ [] H [] s .refl I (by simp [VRs]) hb Po)
  | cons e r =>
    have e1 : backTo p (starEach (pys (e :: r)) F.env) = (false, eval (py e) F.env) :: backTo p (starEach (pys r) F.env) := by
      show backTo p (starEach (py e :: pys r) F.env) = _
      rw [starEach_py, backTo_cons]
    rw [e1]
    refine evalArgs_plain ?_
    rw [← e1]
    exact WE.bind (h p μ H s l I R) hb Po fun μ₁ as H₁ vs s₁ _ S1 I1 V1 hb1 Po1 => k μ₁ as H₁ vs s₁ S1 I1 V1 hb1 Po1

theorem new_snd {c k : Nat} {args : List AV} {vs : List Value} {A : Around} {Q : Value → Shared → Prop} {E : Value → Shared → Prop} (G : CGood C P) (hi : P.init c = some k)
    (hc : CallOk C (A.under (.builtin "type.__call__" ⟨.ref (C.clA c) :: vs, []⟩)) call) (I : Inv C μ H s.heap) (V : VRs C μ s.heap args vs)
    (hb : callV P call (.cls c) args H ≠ .bad) (Po : Post C NoX (VRel C) μ s (callV P call (.cls c) args H) Q) :
    codeAny (model C.prog C.w) A (.call (.ref (C.clA c)) ⟨vs, []⟩) (fun r s' => match r with | .ok (.ret v) => Q v s' | .ok _ => False | .error e => E e s') s := by
  obtain ⟨h, g, dr, t, os⟩ := s
  have X := I.inK G.toGood
  obtain ⟨_, hm, hf, ht⟩ := G.cls c k hi
  have hcv : callV P call (.cls c) args H = (call k (.ref H.length :: args) (H ++ [.inst c []])).bind fun v H' => match v with | .none => .ok (.ref H.length) H' | _ => .bad := by
    show (match P.init c with
      | some k => (call k (.ref H.length :: args) (H ++ [AObj.inst c []])).bind fun v H' => match v with | .none => (.ok (.ref H.length) H' : Out AV) | _ => .bad
      | none => .bad) = _
    rw [hi]
  rw [hcv] at hb Po
  refine make_core (makes_of X hm) (looks_findIn X hf) (fun self => bind_fn X self ht) (.inl rfl) ?_
  have n0 : h.get? h.objs.size = none := size_none h
  have n1 : h.get? (h.objs.size + 1) = none := by
    cases e : h.get? (h.objs.size + 1) with
    | none => rfl
    | some o => exact absurd (Heap.lt_size e) (Nat.not_lt.mpr (Nat.le_succ _))
  have g1 : ((h.push emptyDict).push (instObj (C.clA c) h.objs.size)).get? (h.objs.size + 1) = some (instObj (C.clA c) h.objs.size) := by
    have := Heap.get?_push_size (h.push emptyDict) (o := instObj (C.clA c) h.objs.size) rfl
    rwa [Heap.size_push] at this
  have g0 : ((h.push emptyDict).push (instObj (C.clA c) h.objs.size)).get? h.objs.size = some emptyDict := Heap.get?_push_of_some _ (Heap.get?_push_size h rfl)
  have kp : ∀ b o, h.get? b = some o → ((h.push emptyDict).push (instObj (C.clA c) h.objs.size)).get? b = some o := fun b o e => Heap.get?_push_of_some _ (Heap.get?_push_of_some _ e)
  have S : Step NoX μ ⟨h, g, dr, t, os⟩ (μ ++ [(h.objs.size + 1, h.objs.size)]) ⟨(h.push emptyDict).push (instObj (C.clA c) h.objs.size), g, dr, t, os⟩ := by
    refine ⟨⟨_, rfl⟩, fun a ha => ?_, fun b x e => ⟨x, kp b x e⟩, fun b x e _ _ => ⟨x.slots, kp b x e, fun _ => rfl⟩, rfl, rfl⟩
    obtain ⟨p, hp, q⟩ := ha
    rcases List.mem_append.mp hp with hp | hp
    · exact .inl ⟨p, hp, q⟩
    · cases List.mem_singleton.mp hp
      rcases q with rfl | rfl
      · exact .inr n1
      · exact .inr n0
  have I' : Inv C (μ ++ [(h.objs.size + 1, h.objs.size)]) (H ++ [.inst c []]) ((h.push emptyDict).push (instObj (C.clA c) h.objs.size)) :=
    Inv.add (s := ⟨h, g, dr, t, os⟩) (s' := ⟨_, g, dr, t, os⟩) I S (fun b o e => kp b o (I.stays b o e)) (fun a ha => by
      obtain ⟨x, ex⟩ := I.there ha
      show Heap.get? _ a = h.get? a
      rw [ex]; exact kp _ _ ex) n1 n0 (by
        simp only [OR]
        refine ⟨g1, Nat.succ_ne_self _, fun _ => none, Heap.Ns1.of_empty ⟨_, #[], 0, g0, rfl, fun e he => by simp at he, fun _ => rfl⟩, fun y hy => absurd rfl hy, fun a x _ => rfl⟩)
  have W : VRs C (μ ++ [(h.objs.size + 1, h.objs.size)]) ((h.push emptyDict).push (instObj (C.clA c) h.objs.size)) (.ref H.length :: args) (.ref (h.objs.size + 1) :: vs) := by
    simp only [VRs, VR]
    refine ⟨⟨(h.objs.size + 1, h.objs.size), by rw [← I.len, List.getElem?_append_right (Nat.le_refl _)]; simp, rfl⟩, ?_⟩
    exact VRs.step0 (s := ⟨h, g, dr, t, os⟩) (s' := ⟨_, g, dr, t, os⟩) S V
  have hb0 : call k (.ref H.length :: args) (H ++ [.inst c []]) ≠ .bad := fun q => hb (by rw [q]; rfl)
  refine codeAny_mono (hc k _ _ _ _ ⟨(h.push emptyDict).push (instObj (C.clA c) h.objs.size), g, dr, t, os⟩ I' W hb0 (fun v s' => v = .none ∧ Q (.ref (h.objs.size + 1)) s') E ?_) fun r s' z => ?_
  · intro μ' a H' v s' e S' I'' V''
    rw [e] at hb Po
    by_cases ha : a = .none
    · subst ha
      simp only [VRel, VR] at V''
      refine ⟨V'', Po μ' (.ref H.length) H' _ s' rfl (S.trans0 S') I'' ?_⟩
      simp only [VRel, VR]
      refine ⟨(h.objs.size + 1, h.objs.size), S'.at ?_, rfl⟩
      rw [← I.len, List.getElem?_append_right (Nat.le_refl _)]; simp
    · exact absurd (by cases a <;> first | exact absurd rfl ha | rfl) hb
  · rcases r with e | (v | _ | _ | _) <;> exact z
end
end Mine
end -- EngO
section -- EngP
namespace Mine
open PySem PySem.W PySem.Calls PyProof.Rows

section
variable {α β : Type} {C : Cx} {P : P0} {F : Fm} {call : Nat → List AV → AH → Out AV} {N : Nat} {μ : Mu} {H : AH} {s : Shared} {l : Loc} {d : Nat}
theorem FS.aok (S : FS F d) : AOk d F.fr F.A := ⟨S.handled, S.frames, Nat.lt_of_le_of_lt (Nat.le_add_right _ 2) S.depth, Nat.lt_of_le_of_lt (Nat.le_add_right _ 8) S.units⟩
theorem FS.under (S : FS F d) (c : Addr) (vs : List Value) : AOk d F.fr (F.A.under (.builtin "type.__call__" ⟨.ref c :: vs, []⟩)) :=
  ⟨S.handled, S.frames, by have := S.depth; show F.A.depth + 1 + _ < _; omega, by have := S.units; show F.A.units + 1 + _ < _; omega⟩
theorem keep_bi (C : Cx) (b : Bi) : ∀ h, C.K.In h → ∃ k, (k = Keeper.frame ∨ k = Keeper.machine ∨ k = Keeper.boundFrame) ∧ Looks (model C.prog C.w) h (keeperOf (biVal b)) k := fun h _ =>
  ⟨.machine, .inr (.inl rfl), Looks.of_pure (by cases b <;> rfl)⟩
theorem callV_snd (S : FS F d) (G : CGood C P) (hc : ∀ A fs, AOk d fs A → CallOk C A call) {f : AV} {fv : Value} {args : List AV} {vs : List Value} (I : Inv C μ H s.heap) (Vf : VR C μ s.heap f fv) (V : VRs C μ s.heap args vs) (hf : isFn P f = true) :
    WE C F NoX (VRel C) (PySem.call fv vs) (callV P call f args H) μ s := fun hb Q E Po => by
  cases f with
  | fn k =>
    simp only [VR] at Vf
    subst Vf
    exact wpAny_call (hc F.A _ S.aok k args vs μ H s I V hb Q E Po)
  | cls c =>
    simp only [VR] at Vf
    subst Vf
    obtain ⟨k, hk⟩ := Option.isSome_iff_exists.mp hf
    exact wpAny_call (new_snd G hk (hc _ _ (S.under _ _)) I V hb Po)
  | bi b =>
    simp only [VR] at Vf
    subst Vf
    exact bi_snd I V hb Q E Po
  | _ => cases hf
theorem isFn_keep (G : CGood C P) {f : AV} {fv : Value} {h : Heap} (Vf : VR C μ h f fv) (hf : isFn P f = true) : ∀ h, C.K.In h → ∃ k, (k = Keeper.frame ∨ k = Keeper.machine ∨ k = Keeper.boundFrame) ∧ Looks (model C.prog C.w) h (keeperOf fv) k := by
  cases f with
  | fn k =>
    simp only [VR] at Vf
    subst Vf
    exact keeps_K (G.fn k hf)
  | cls c =>
    simp only [VR] at Vf
    subst Vf
    obtain ⟨k, hk⟩ := Option.isSome_iff_exists.mp hf
    exact keeps_K (G.cls c k hk).1
  | bi b =>
    simp only [VR] at Vf
    subst Vf
    exact keep_bi C b
  | _ => cases hf
noncomputable def isName : E → Bool
  | .loc .. | .glob .. | .gbad .. => true
  | _ => false
theorem se_call (S : FS F d) (G : CGood C P) (hc : ∀ A fs, AOk d fs A → CallOk C A call) {f : E} {args : List E} {p : Pos} (hn : isName f = true) (h1 : SE C P F call N f) (h2 : SEs C P F call N args) : SE C P F call N (.call f args p) := fun μ H s l I R => by
  show WE C F NoX (VRel C) _ ((evE P call N (st C.gt f) l H).bind fun f H => if isFn P f = true then (evEs P call N (sts C.gt args) l H).bind fun vs H => callV P call f vs H else .bad) μ s
  intro hb Q E Po
  have go : wpAny (model C.prog C.w) F.A (eval (py f) F.env) (fun fv s₁ => wpAny (model C.prog C.w) F.A (callWith p fv [] (backTo p (starEach (pys args) F.env)) (backToKw p (keywordEach [] F.env))) Q E s₁) E s := by
    refine WE.bind (h1 μ H s l I R) hb Po fun μ₁ a H₁ v s₁ e1 S1 I1 V1 hb1 Po1 => ?_
    by_cases hf : isFn P a = true
    · rw [if_pos hf] at Po1 hb1
      refine callWith_of (by rw [args_plain]; rfl) (isFn_keep G V1 hf) (args_snd h2 I1 (R.step0 S1) hb1 Po1 fun μ₂ as H₂ vs s₂ S2 I2 V2 hb2 Po2 => ?_)
      exact ⟨I2.inK G.toGood, callV_snd S G hc I2 (VR.step0 S2 V1) V2 hf hb2 Q E Po2⟩
    · exact absurd (if_neg hf) hb1
  cases f <;> first | (cases hn; done) | exact wpAny_Call_Name_kw go

theorem form_of {args : List E} {p : Pos} (hl : args.length < 30) : methodCallForm ((pys args).length + 0) (backTo p (starEach (pys args) F.env)) [] = true := by
  have e1 : (pys args).length = args.length := by
    clear hl
    induction args with
    | nil => rfl
    | cons e r ih => show (py e :: pys r).length = _; simp [ih]
  have e2 : (backTo p (starEach (pys args) F.env)).all (fun x => !x.1) = true := by
    clear hl e1
    induction args with
    | nil => rfl
    | cons e r ih =>
      show (backTo p (starEach (py e :: pys r) F.env)).all _ = true
      rw [starEach_py, backTo_cons, List.all_cons, ih]; rfl
  unfold methodCallForm
  rw [e1, e2]
  simp [hl]
theorem call_attr {o : E} {x : Str} {args : List E} {ap p : Pos} {M : Model} {A : Around} {E : Value → Shared → Prop} {Q : Value → Shared → Prop} (hs : noSuper o = true) (hl : args.length < 30) (hp : (ap.endLine == p.line) = true)
    (h : wpAny M A (eval (py o) F.env) (fun ov s₁ => wpAny M A (getMethod ov x (do return (← importBound (py o) F.env).getD true)) (fun fx s₂ => wpAny M A (callWith p fx.1 fx.2 (backTo p (starEach (pys args) F.env)) []) Q E s₂) E s₁) E s) :
    wpAny M A (eval (.Call (.Attribute (py o) x ap) (pys args) [] p) F.env) Q E s := by
  show wpAny M A (do
    let ov ← attributeBase (py o) x F.env (eval (py o) F.env)
    standAt ap.atName
    methodCall (py o) x ap p F.env ov ((pys args).length + 0) (backTo p (starEach (pys args) F.env)) []) Q E s
  rw [base_of hs]
  refine wpAny_bind (wpAny_mono h (fun ov s₁ h₁ => wpAny_bind (wpAny_standAt ?_)) fun _ _ z => z)
  unfold methodCall calleeOf methodCallPos
  rw [form_of hl, hp]
  refine wpAny_bind (wpAny_holding (wpAny_mono h₁ (fun fx s₂ h₂ => ?_) fun _ _ z => z))
  exact wpAny_bind (wpAny_pure h₂)
theorem headV_bim {H : AH} {a : AV} {m : Nat} (e : headV P H a m = some .bim) : m < 6 := by
  cases a <;> first | (cases e; done) | skip
  · rename_i x
    have e : (if m = 5 then some Hd.bim else none) = some .bim := e
    by_cases h : m = 5
    · rw [h]; decide
    · rw [if_neg h] at e; cases e
  · rename_i i
    have e : (match H[i]? with
      | some (.inst c fs) => (match lookL m fs, P.meth c m with
        | none, some k => some (Hd.fn k)
        | _, _ => none)
      | some (.list _) => if m < 5 then some .bim else none
      | _ => none) = some .bim := e
    split at e
    · split at e <;> cases e
    · by_cases h : m < 5
      · exact Nat.lt_succ_of_lt h
      · rw [if_neg h] at e; cases e
    · cases e
theorem headV_fn {H : AH} {a : AV} {m k : Nat} (e : headV P H a m = some (.fn k)) : ∃ i c fs, a = .ref i ∧ H[i]? = some (.inst c fs) ∧ lookL m fs = none ∧ P.meth c m = some k := by
  cases a <;> first | (cases e; done) | skip
  · rename_i x
    have e : (if m = 5 then some Hd.bim else none) = some (.fn k) := e
    split at e <;> cases e
  · rename_i i
    have e : (match H[i]? with
      | some (.inst c fs) => (match lookL m fs, P.meth c m with
        | none, some k => some (Hd.fn k)
        | _, _ => none)
      | some (.list _) => if m < 5 then some .bim else none
      | _ => none) = some (.fn k) := e
    split at e
    · rename_i c fs hi
      split at e
      · rename_i hl hk
        cases e
        exact ⟨i, c, fs, rfl, hi, hl, hk⟩
      · cases e
    · split at e <;> cases e
    · cases e
theorem se_meth (S : FS F d) (G : CGood C P) (hc : ∀ A fs, AOk d fs A → CallOk C A call) {o : E} {x : Str} {m : Nat} {args : List E} {ap p : Pos} (hs : noSuper o = true) (hl : args.length < 30) (hp : (ap.endLine == p.line) = true) (hx : C.nm[m]? = some x)
    (h1 : SE C P F call N o) (h2 : SEs C P F call N args) : SE C P F call N (.meth o x m args ap p) := fun μ H s l I R => by
  show WE C F NoX (VRel C) _ ((evE P call N (st C.gt o) l H).bind fun o H => match headV P H o m with
    | some hd => (evEs P call N (sts C.gt args) l H).bind fun vs H => methV call hd o m vs H
    | none => .bad) μ s
  intro hb Q E Po
  refine call_attr hs hl hp (WE.bind (h1 μ H s l I R) hb Po fun μ₁ a H₁ v s₁ e1 S1 I1 V1 hb1 Po1 => ?_)
  have R1 := R.step0 S1
  cases hh : headV P H₁ a m with
  | none => rw [hh] at hb1; exact absurd rfl hb1
  | some hd =>
    rw [hh] at hb1 Po1
    cases hd with
    | fn k =>
      obtain ⟨i, c, fs, rfl, hi, hlook, hk⟩ := headV_fn hh
      obtain ⟨q, mm, od, hq, rfl, g1, hne, hn, g2, hlk, hw, IA, ha⟩ := I1.inst hi V1
      obtain ⟨hg, hfi, hty⟩ := G.mth c m x k hk hx
      have hga := plainGet_of hg
      have hmx := ha m x hx
      rw [hlook] at hmx
      refine method_fn (I1.inK G.toGood) IA hga.1 hga.2 hfi hty (by show (lookIn x od).map _ = _; rw [hlk, hmx]; rfl) ?_
      refine callWith_of (by rw [args_plain]; rfl) (keeps_K (G.fn k (G.mthb c m k hk))) (args_snd h2 I1 R1 hb1 Po1 fun μ₂ as H₂ vs s₂ S2 I2 V2 hb2 Po2 => ?_)
      refine ⟨I2.inK G.toGood, wpAny_call ?_⟩
      exact hc F.A _ S.aok k (.ref i :: as) (.ref q.1 :: vs) μ₂ H₂ s₂ I2 (by simp only [VRs]; exact ⟨VR.step0 S2 V1, V2⟩) hb2 Q E Po2
    | bim =>
      have hxn : x = bimName m := Option.some.inj (hx.symm.trans (G.nm7 m (headV_bim hh)))
      subst hxn
      refine bim_get I1 V1 hh ?_
      refine callWith_of (P := fun _ => True) (by rw [args_plain]; rfl) (fun h _ => ⟨.machine, .inr (.inl rfl), Looks.of_pure rfl⟩) (args_snd h2 I1 R1 hb1 Po1 fun μ₂ as H₂ vs s₂ S2 I2 V2 hb2 Po2 => ?_)
      exact ⟨trivial, bim_snd hh I2 (VR.step0 S2 V1) V2 hb2 Q E Po2⟩
theorem se_dict0 {p : Pos} : SE C P F call N (.dict [] [] p) := fun μ H s l I R hb Q E Po => by
  show wpAny _ _ (do standAt p; newDict) Q E s
  refine wpAny_bind (wpAny_standAt (wpAny_newObj_type ?_))
  exact Po.newObj (t := s.toks) rfl I fun S => by
    simp only [OR]
    exact ⟨trivial, _, Heap.get?_push_size _ rfl⟩
end
end Mine
end -- EngP
section -- EngQ
namespace Mine
open PySem PySem.W PySem.Calls PyProof.Rows

section
variable {α β γ : Type} {C : Cx} {P : P0} {F : Fm} {call : Nat → List AV → AH → Out AV} {N : Nat} {μ : Mu} {H : AH} {s : Shared} {l : Loc} {d : Nat}
theorem Step.keep {h' : Heap} (μ : Mu) (hk : ∀ b o, s.heap.get? b = some o → h'.get? b = some o) (t : Nat) : Step NoX μ s μ { s with heap := h', toks := t } :=
  ⟨⟨[], by simp⟩, fun _ h => .inl h, fun b x e => ⟨x, hk b x e⟩, fun b x e _ _ => ⟨x.slots, hk b x e, fun _ => rfl⟩, rfl, rfl⟩
theorem Inv.keep {h' : Heap} (I : Inv C μ H s.heap) (hk : ∀ b o, s.heap.get? b = some o → h'.get? b = some o) : Inv C μ H h' :=
  I.same (s' := { s with heap := h' }) (Step.keep μ hk s.toks) (fun _ _ h => h.elim) (fun b o e => hk b o (I.stays b o e)) fun a ha => by
    obtain ⟨x, e⟩ := I.there ha
    rw [e]; exact hk _ _ e

/-- the frame's own names may change -/
noncomputable abbrev LX (F : Fm) : Addr → Prop := fun a => a = F.env.locals
theorem FR.plain {h : Heap} (R : FR C F μ l h) : ∀ a o, LX F a → h.get? a = some o → Plainly o := fun a o q e => by
  obtain ⟨m, ⟨o', es, ep, e', hd, _⟩, _⟩ := R.ns
  cases q
  rw [e'] at e; cases e
  exact .inl ⟨es, ep, hd⟩
noncomputable def FlR (C : Cx) (μ : Mu) (h : Heap) : Fl → Flow → Prop
  | .next, f => f = .next
  | .cont, f => f = .cont
  | .ret a, f => ∃ v, f = .ret v ∧ VR C μ h a v
noncomputable def PostS (C : Cx) (F : Fm) (μ : Mu) (s : Shared) (r : SO) (Q : Flow → Shared → Prop) : Prop :=
  ∀ μ' fl l' H' f s', r = .ok fl l' H' → Step (LX F) μ s μ' s' → Inv C μ' H' s'.heap → FR C F μ' l' s'.heap → FlR C μ' s'.heap fl f → Q f s'
noncomputable def PostT (C : Cx) (F : Fm) (μ : Mu) (s : Shared) (r : Out Loc) (Q : Unit → Shared → Prop) : Prop :=
  ∀ μ' l' H' s', r = .ok l' H' → Step (LX F) μ s μ' s' → Inv C μ' H' s'.heap → FR C F μ' l' s'.heap → Q () s'
noncomputable def WS (C : Cx) (F : Fm) (t : Sem Flow) (r : SO) (μ : Mu) (s : Shared) : Prop := r ≠ .bad → ∀ Q E, PostS C F μ s r Q → wpAny (model C.prog C.w) F.A t Q E s
noncomputable def WT (C : Cx) (F : Fm) (t : Sem Unit) (r : Out Loc) (μ : Mu) (s : Shared) : Prop := r ≠ .bad → ∀ Q E, PostT C F μ s r Q → wpAny (model C.prog C.w) F.A t Q E s
theorem PostS.re {μ₁ : Mu} {s₁ : Shared} {r : SO} {Q : Flow → Shared → Prop} (P : PostS C F μ s r Q) (S : Step (LX F) μ s μ₁ s₁) : PostS C F μ₁ s₁ r Q :=
  fun _ _ _ _ _ _ e T => P _ _ _ _ _ _ e (S.trans0 T)
theorem PostT.re {μ₁ : Mu} {s₁ : Shared} {r : Out Loc} {Q : Unit → Shared → Prop} (P : PostT C F μ s r Q) (S : Step (LX F) μ s μ₁ s₁) : PostT C F μ₁ s₁ r Q :=
  fun _ _ _ _ e T => P _ _ _ _ e (S.trans0 T)
theorem lx {X : Addr → Prop} {μ' : Mu} {s' : Shared} (S : Step NoX μ s μ' s') : Step X μ s μ' s' := S.weak fun _ h => h.elim
theorem WE.thenS {rel : Mu → Heap → α → β → Prop} {t : Sem β} {r : Out α} {g : α → AH → SO} {Q : β → Shared → Prop} {Q₀ : Flow → Shared → Prop} {E : Value → Shared → Prop} (h : WE C F NoX rel t r μ s) (R : FR C F μ l s.heap)
    (hb : r.thenS l g ≠ .bad) (P : PostS C F μ s (r.thenS l g) Q₀)
    (k : ∀ μ₁ a H₁ v s₁, Step NoX μ s μ₁ s₁ → Inv C μ₁ H₁ s₁.heap → FR C F μ₁ l s₁.heap → rel μ₁ s₁.heap a v → g a H₁ ≠ .bad → PostS C F μ₁ s₁ (g a H₁) Q₀ → Q v s₁) :
    wpAny (model C.prog C.w) F.A t Q E s :=
  h (fun q => hb (by rw [q]; rfl)) Q E fun μ' a H' v s' e S I V => by
    rw [e] at P hb
    exact k μ' a H' v s' S I (R.step0 S) V hb (PostS.re P (lx S))
theorem WE.thenT {rel : Mu → Heap → α → β → Prop} {t : Sem β} {r : Out α} {g : α → AH → Out Loc} {Q : β → Shared → Prop} {Q₀ : Unit → Shared → Prop} {E : Value → Shared → Prop} (h : WE C F NoX rel t r μ s) (R : FR C F μ l s.heap)
    (hb : r.bind g ≠ .bad) (P : PostT C F μ s (r.bind g) Q₀)
    (k : ∀ μ₁ a H₁ v s₁, Step NoX μ s μ₁ s₁ → Inv C μ₁ H₁ s₁.heap → FR C F μ₁ l s₁.heap → rel μ₁ s₁.heap a v → g a H₁ ≠ .bad → PostT C F μ₁ s₁ (g a H₁) Q₀ → Q v s₁) :
    wpAny (model C.prog C.w) F.A t Q E s :=
  h (fun q => hb (by rw [q]; rfl)) Q E fun μ' a H' v s' e S I V => by
    rw [e] at P hb
    exact k μ' a H' v s' S I (R.step0 S) V hb (PostT.re P (lx S))

theorem setLoc_some {i : Nat} {a : AV} {l' : Loc} (e : setLoc l i a = some l') : i < l.length ∧ l' = l.set i (some a) := by
  unfold setLoc at e
  split at e
  · cases e; exact ⟨by assumption, rfl⟩
  · cases e
theorem store_snd (S : FS F d) {x : Str} {i : Nat} {a : AV} {v : Value} {l' : Loc} {Q : Unit → Shared → Prop} {E : Value → Shared → Prop} (hi : F.slots[i]? = some x) (hk : F.env.scope.names.lookup x = some .local) (I : Inv C μ H s.heap) (R : FR C F μ l s.heap) (V : VR C μ s.heap a v)
    (e : setLoc l i a = some l') (h : ∀ s', Step (LX F) μ s μ s' → Inv C μ H s'.heap → FR C F μ l' s'.heap → Q () s') : wpAny (model C.prog C.w) F.A (storeName F.env x v) Q E s := by
  obtain ⟨hlt, rfl⟩ := setLoc_some e
  obtain ⟨m, hn, hm⟩ := R.ns
  obtain ⟨oL, es, ep, heL, hdL, _⟩ := id hn
  refine wpAny_storeName_local hk hn (fun h' hn' hs => ?_) (by rw [S.kind]; rfl)
  obtain ⟨oL', es', ep', heL', _⟩ := id hn'
  have S1 : Step (LX F) μ s μ { s with heap := h', toks := s.toks + 1 } := by
    refine ⟨⟨[], by simp⟩, fun _ h => .inl h, fun b o q => ?_, fun b o q _ hx => ⟨o.slots, (hs.2 b hx).trans q, fun _ => rfl⟩, rfl, rfl⟩
    by_cases hb : b = F.env.locals
    · rw [hb]; exact ⟨oL', heL'⟩
    · exact ⟨o, (hs.2 b hb).trans q⟩
  refine h _ S1 ?_ ?_
  · refine I.same S1 R.plain (fun b o q => (hs.2 b fun z => ?_).trans (I.stays b o q)) fun a ha => hs.2 a fun z => R.off (z ▸ ha)
    rw [z, R.new] at q; cases q
  · refine ⟨⟨_, hn', fun j y w hj hw => ?_⟩, R.off, R.new, by rw [List.length_set]; exact R.len⟩
    by_cases hij : i = j
    · subst hij
      rw [hi] at hj; cases hj
      rw [List.getElem?_set_self hlt] at hw
      cases hw
      exact ⟨v, by simp, V.step S1 R.plain⟩
    · rw [List.getElem?_set_ne hij] at hw
      obtain ⟨rv, q, W⟩ := hm j y w hj hw
      have hxy : y ≠ x := fun z => by
        subst z
        have l1 := List.getElem?_eq_some_iff.mp hi
        have l2 := List.getElem?_eq_some_iff.mp hj
        exact hij ((List.getElem_inj S.nodup).mp (l1.2.trans l2.2.symm))
      exact ⟨rv, by simp only [if_neg hxy]; exact q, W.step S1 R.plain⟩

/-- targets -/
noncomputable def TT (C : Cx) (P : P0) (F : Fm) (call : Nat → List AV → AH → Out AV) (N : Nat) (t : T) : Prop :=
  ∀ μ H s l a v, Inv C μ H s.heap → FR C F μ l s.heap → VR C μ s.heap a v → WT C F (assign (pyT t) F.env v) (asT P call N (stT C.gt t) a l H) μ s
noncomputable def TTs (C : Cx) (P : P0) (F : Fm) (call : Nat → List AV → AH → Out AV) (N : Nat) (ts : List T) : Prop :=
  ∀ μ H s l as vs, Inv C μ H s.heap → FR C F μ l s.heap → VRs C μ s.heap as vs → WT C F (assignInOrder ((assignEach (pyTs ts) F.env).map (·.2)) vs) (asTs P call N (stTs C.gt ts) as l H) μ s
theorem tt_name (S : FS F d) {x : Str} {i : Nat} {p : Pos} (hi : F.slots[i]? = some x) (hk : F.env.scope.names.lookup x = some .local) : TT C P F call N (.name x i p) := fun μ H s l a v I R V => by
  show WT C F _ (match setLoc l i a with | some l => (.ok l H : Out Loc) | none => .bad) μ s
  intro hb Q E Po
  cases e : setLoc l i a with
  | none => rw [e] at hb; exact absurd rfl hb
  | some l' =>
    rw [e] at Po
    exact wpAny_assign_Name (store_snd S hi hk I R V e fun s' S1 I1 R1 => Po μ l' H s' rfl S1 I1 R1)
theorem tt_attr (G : CGood C P) {o : E} {x : Str} {ai : Nat} {p : Pos} (h : SE C P F call N o) (hx : C.nm[ai]? = some x) : TT C P F call N (.attr o x ai p) := fun μ H s l a v I R V => by
  show WT C F _ ((evE P call N (st C.gt o) l H).bind fun o H => match putA P.fld H o ai a with | some H => (.ok l H : Out Loc) | none => .bad) μ s
  intro hb Q E Po
  show wpAny _ _ (do
    let ov ← holding [v] (eval (py o) F.env)
    standAt p.atName
    holding [v, ov] (setAttr ov x v)
    release [v, ov] []) Q E s
  refine wpAny_bind (wpAny_holding (WE.thenT (h μ H s l I R) R hb Po fun μ₁ b H₁ u s₁ S1 I1 R1 V1 hb1 Po1 => ?_))
  refine wpAny_bind (wpAny_standAt (wpAny_bind (wpAny_holding ?_)))
  cases e : putA P.fld H₁ b ai a with
  | none => rw [e] at hb1; exact absurd rfl hb1
  | some H' =>
    rw [e] at Po1
    exact put_snd G.toGood I1 V1 (VR.step0 S1 V) hx e fun s' S2 I2 => wpAny_release (Po1 μ₁ l H' s' rfl (lx S2) I2 (R1.step0 S2))
theorem tt_item {o i : E} {p : Pos} (h1 : SE C P F call N o) (h2 : SE C P F call N i) : TT C P F call N (.item o i p) := fun μ H s l a v I R V => by
  show WT C F _ ((evE P call N (st C.gt o) l H).bind fun o H => (evE P call N (st C.gt i) l H).bind fun k H => match putI H o k a with | some H => (.ok l H : Out Loc) | none => .bad) μ s
  intro hb Q E Po
  have he : assign (pyT (.item o i p)) F.env v = (do
    let ov ← holding [v] (eval (py o) F.env)
    let iv ← holding [v, ov] (eval (py i) F.env)
    standAt p
    holding [v, ov, iv] (setItem ov iv v)
    release (match py i with | .Slice _ _ none _ => [iv, v, ov] | _ => [v, ov, iv]) []) := rfl
  rw [he]
  refine wpAny_bind (wpAny_holding (WE.thenT (h1 μ H s l I R) R hb Po fun μ₁ b H₁ u s₁ S1 I1 R1 V1 hb1 Po1 => ?_))
  refine wpAny_bind (wpAny_holding (WE.thenT (h2 μ₁ H₁ s₁ l I1 R1) R1 hb1 Po1 fun μ₂ k H₂ kv s₂ S2 I2 R2 V2 hb2 Po2 => ?_))
  refine wpAny_bind (wpAny_standAt (wpAny_bind (wpAny_holding ?_)))
  cases e : putI H₂ b k a with
  | none => rw [e] at hb2; exact absurd rfl hb2
  | some H' =>
    rw [e] at Po2
    exact puti_snd I2 (VR.step0 S2 V1) V2 (VR.step0 S2 (VR.step0 S1 V)) e fun s' S3 I3 => wpAny_release (Po2 μ₂ l H' s' rfl (lx S3) I3 (R2.step0 S3))
theorem assignEach_py (t : T) (r : List Expr) : assignEach (pyT t :: r) F.env = (false, assign (pyT t) F.env) :: assignEach r F.env := by cases t <;> rfl
theorem tts_nil : TTs C P F call N [] := fun μ H s l as vs I R V hb Q E Po => by
  cases as with
  | nil => rw [vrs0 V]; exact wpAny_pure (Po μ l H s rfl .refl I R)
  | cons _ _ => exact absurd rfl hb
theorem tts_cons {t : T} {ts : List T} (h1 : TT C P F call N t) (h2 : TTs C P F call N ts) : TTs C P F call N (t :: ts) := fun μ H s l as vs I R V => by
  cases as with
  | nil => exact fun hb => absurd rfl hb
  | cons a as =>
    cases vs with
    | nil => simp only [VRs] at V
    | cons v vs =>
      simp only [VRs] at V
      show WT C F (assignInOrder ((assignEach (pyT t :: pyTs ts) F.env).map (·.2)) (v :: vs)) ((asT P call N (stT C.gt t) a l H).bind fun l H => asTs P call N (stTs C.gt ts) as l H) μ s
      intro hb Q E Po
      rw [assignEach_py]
      show wpAny _ _ (do holding vs (assign (pyT t) F.env v); assignInOrder ((assignEach (pyTs ts) F.env).map (·.2)) vs) Q E s
      refine wpAny_bind (wpAny_holding (h1 μ H s l a v I R V.1 (fun q => hb (by rw [q]; rfl)) _ E fun μ₁ l₁ H₁ s₁ e1 S1 I1 R1 => ?_))
      rw [e1] at hb Po
      exact h2 μ₁ H₁ s₁ l₁ as vs I1 R1 (VRs.step S1 R.plain _ V.2) hb Q E (Po.re S1)
theorem stTs_len : ∀ (ts : List T), (stTs C.gt ts).length = ts.length
  | [] => rfl
  | t :: ts => by show (stT C.gt t :: stTs C.gt ts).length = _; simp [stTs_len ts]
theorem findIdx_ts : ∀ (ts : List T), ((assignEach (pyTs ts) F.env).findIdx? (·.1)) = none ∧ (assignEach (pyTs ts) F.env).length = ts.length
  | [] => ⟨rfl, rfl⟩
  | t :: ts => by
    show ((assignEach (pyT t :: pyTs ts) F.env).findIdx? (·.1)) = none ∧ (assignEach (pyT t :: pyTs ts) F.env).length = _
    rw [assignEach_py]
    obtain ⟨a, b⟩ := findIdx_ts ts
    exact ⟨by rw [List.findIdx?_cons]; simp [a], by simp [b]⟩
theorem tt_tup (S : FS F d) {ts : List T} {k : Nat} {p : Pos} (h : TTs C P F call N ts) : TT C P F call N (.tup ts k p) := fun μ H s l a v I R V => by
  show WT C F _ (match (generalizing := false) a with | .tup vs => if (stTs C.gt ts).length = vs.length then asTs P call N (stTs C.gt ts) vs l H else .bad | _ => .bad) μ s
  intro hb Q E Po
  split at hb
  · rename_i as
    dsimp only at Po
    by_cases hlen : (stTs C.gt ts).length = as.length
    · rw [if_pos hlen] at Po hb
      obtain ⟨t, items, rfl, ht, hv, hl, ho⟩ := tuple_of V
      show wpAny _ _ (do standAt p; unpack (.ref t) (assignEach (pyTs ts) F.env)) Q E s
      refine wpAny_bind (wpAny_standAt ?_)
      unfold unpack
      obtain ⟨f1, f2⟩ := findIdx_ts (F := F) ts
      have hz := hv.len
      simp only [Array.length_toList] at hz
      rw [stTs_len] at hlen
      rw [f1, f2, hlen, hz]
      refine wpAny_bind (wpAny_holding (PyProof.Rows.unpackItems_tuple S.handled ht fun h' hx => ?_))
      have hk : ∀ b o, s.heap.get? b = some o → h'.get? b = some o := fun b o e => hx b o (Nat.ne_of_lt (Heap.lt_size e)) e
      have S1 : Step NoX μ s μ { s with heap := h' } := Step.keep μ hk s.toks
      exact h μ H { s with heap := h' } l as _ (I.keep hk) (R.step0 S1) (VRs.step0 S1 hv) hb Q E (Po.re (lx S1))
    · exact absurd (if_neg hlen) hb
  · exact absurd rfl hb
end
end Mine
end -- EngQ
section -- EngR
namespace Mine
open PySem PySem.W PySem.Calls PyProof.Rows

section
variable {α β γ : Type} {C : Cx} {P : P0} {F : Fm} {call : Nat → List AV → AH → Out AV} {N : Nat} {μ : Mu} {H : AH} {s : Shared} {l : Loc} {d : Nat}
noncomputable def SS (C : Cx) (P : P0) (F : Fm) (call : Nat → List AV → AH → Out AV) (N : Nat) (t : S) : Prop :=
  ∀ μ H s l, Inv C μ H s.heap → FR C F μ l s.heap → WS C F (exec (pyS t) F.env) (evS P call N (stS C.gt t) l H) μ s
noncomputable def SSs (C : Cx) (P : P0) (F : Fm) (call : Nat → List AV → AH → Out AV) (N : Nat) (ts : List S) : Prop :=
  ∀ μ H s l, Inv C μ H s.heap → FR C F μ l s.heap → WS C F (execs (pySs ts) F.env) (evSs P call N (stSs C.gt ts) l H) μ s
theorem sss_nil : SSs C P F call N [] := fun μ H s l I R hb Q E Po => wpAny_execs_nil (Po μ _ l H _ s rfl .refl I R rfl)
theorem sss_cons {t : S} {ts : List S} (h1 : SS C P F call N t) (h2 : SSs C P F call N ts) : SSs C P F call N (t :: ts) := fun μ H s l I R => by
  show WS C F (execs (pyS t :: pySs ts) F.env) ((evS P call N (stS C.gt t) l H).andThen fun l H => evSs P call N (stSs C.gt ts) l H) μ s
  intro hb Q E Po
  refine wpAny_execs_cons (h1 μ H s l I R (fun q => hb (by rw [q]; rfl)) _ E fun μ₁ fl l₁ H₁ f s₁ e S1 I1 R1 V1 => ?_)
  rw [e] at hb Po
  cases fl with
  | next =>
    obtain rfl := V1
    exact h2 μ₁ H₁ s₁ l₁ I1 R1 hb Q E (Po.re S1)
  | cont =>
    obtain rfl := V1
    exact Po μ₁ _ l₁ H₁ _ s₁ rfl S1 I1 R1 rfl
  | ret a =>
    obtain ⟨v, rfl, V⟩ := V1
    exact Po μ₁ _ l₁ H₁ _ s₁ rfl S1 I1 R1 ⟨v, rfl, V⟩

noncomputable def notComp : E → Bool
  | .comp .. => false
  | _ => true
theorem plain_not_ref {h : Heap} {a : AV} {v : Value} (V : VR C μ h a v) (hp : plainV a = true) : ∀ x, v ≠ .ref x := by
  cases a <;> first | (cases hp; done) | skip
  · simp only [VR] at V; subst V; intro x q; cases q
  · simp only [VR] at V; subst V; intro x q; cases q
  · simp only [VR] at V; obtain ⟨t, rfl⟩ := V; intro x q; cases q
  · simp only [VR] at V; obtain ⟨_, t, rfl⟩ := V; intro x q; cases q
theorem ss_expr (S : FS F d) {e : E} {p : Pos} (hn : notComp e = true) (h : SE C P F call N e) : SS C P F call N (.expr e p) := fun μ H s l I R => by
  show WS C F _ ((evE P call N (st C.gt e) l H).thenS l fun v H => if plainV v then .ok .next l H else .bad) μ s
  intro hb Q E Po
  refine wpAny_Expr (WE.thenS (h μ H s l I R) R hb Po fun μ₁ a H₁ v s₁ S1 I1 R1 V1 hb1 Po1 => ?_) ?_ ?_
  · by_cases hp : plainV a = true
    · rw [if_pos hp] at Po1
      have nr := plain_not_ref V1 hp
      have q : Q .next s₁ := Po1 μ₁ _ l H₁ _ s₁ rfl .refl I1 R1 rfl
      cases v <;> first | exact q | exact absurd rfl (nr _)
    · exact absurd (if_neg hp) hb1
  · unfold interactive; rw [S.kind]; rfl
  · cases e <;> first | rfl | cases hn
theorem ss_asg {t : T} {e : E} {p : Pos} (hn : notComp e = true) (hsw : swappedStores [pyT t] (py e) F.env = pure none) (h : SE C P F call N e) (ht : TT C P F call N t) : SS C P F call N (.asg t e p) := fun μ H s l I R => by
  show WS C F _ ((evE P call N (st C.gt e) l H).thenS l fun v H => (asT P call N (stT C.gt t) v l H).so l) μ s
  intro hb Q E Po
  show wpAny _ _ (exec (.Assign [pyT t] (py e) p) F.env) Q E s
  rw [PyProof.Rows.exec_Assign]
  refine wpAny_bind (wpAny_standAt ?_)
  have e1 : swapsWithSole [pyT t] (py e) p.line F.env = pure false := by cases e <;> first | rfl | cases hn
  rw [e1]
  refine wpAny_bind (wpAny_pure ?_)
  rw [if_neg (by decide)]
  refine wpAny_bind (WE.thenS (h μ H s l I R) R hb Po fun μ₁ a H₁ v s₁ S1 I1 R1 V1 hb1 Po1 => ?_)
  rw [hsw]
  refine wpAny_bind (wpAny_pure ?_)
  show wpAny _ _ (do assignAll v ((assignEach [pyT t] F.env).map (·.2)); pure Flow.next) Q E s₁
  rw [assignEach_py]
  show wpAny _ _ (do assign (pyT t) F.env v; pure Flow.next) Q E s₁
  refine wpAny_bind (ht μ₁ H₁ s₁ l a v I1 R1 V1 (fun q => hb1 (by rw [q]; rfl)) _ E fun μ' l' H' s' q S' I' R' => ?_)
  rw [q] at Po1
  exact wpAny_pure (Po1 μ' _ l' H' _ s' rfl S' I' R' rfl)
theorem aug_snd {op : Operator} {a b : AV} {v u : Value} (I : Inv C μ H s.heap) (va : VR C μ s.heap a v) (vb : VR C μ s.heap b u) : WE C F NoX (VRel C) (inplaceOp op v u) (augV H op a b) μ s := by
  intro hb Q E P
  cases a <;> first | exact absurd rfl hb | skip
  cases b <;> first | exact absurd rfl hb | skip
  simp only [VR] at va vb
  obtain ⟨t, rfl⟩ := va; obtain ⟨t', rfl⟩ := vb
  cases op <;> first | exact absurd rfl hb | skip
  · exact PyProof.Rows.iadd_int (P.done rfl I (by simp only [VRel, VR]; exact ⟨_, rfl⟩))
  · exact PyProof.Rows.isub_int (P.done rfl I (by simp only [VRel, VR]; exact ⟨_, rfl⟩))
theorem ss_augN (S : FS F d) {x : Str} {i : Nat} {np : Pos} {op : Operator} {e : E} {p : Pos} (hi : F.slots[i]? = some x) (hk : F.env.scope.names.lookup x = some .local) (h : SE C P F call N e) : SS C P F call N (.augN x i np op e p) := fun μ H s l I R => by
  show WS C F _ (match l[i]? with
    | some (some old) => (evE P call N (st C.gt e) l H).thenS l fun v H => (augV H op old v).thenS l fun r H => (match setLoc l i r with | some l => .ok .next l H | none => .bad)
    | _ => .bad) μ s
  intro hb Q E Po
  obtain ⟨m, hn, hm⟩ := R.ns
  split at hb
  · rename_i old ho
    rw [ho] at Po
    dsimp only at Po
    obtain ⟨ov, e0, V0⟩ := hm i x old hi ho
    refine wpAny_AugAssign_Name (wpAny_loadName_local S.kind hk hn e0 ?_)
    refine WE.thenS (h μ H s l I R) R hb Po fun μ₁ a H₁ v s₁ S1 I1 R1 V1 hb1 Po1 => ?_
    refine WE.thenS (aug_snd I1 (V0.step0 S1) V1) R1 hb1 Po1 fun μ₂ r H₂ rv s₂ S2 I2 R2 V2 hb2 Po2 => ?_
    cases e : setLoc l i r with
    | none => rw [e] at hb2; exact absurd rfl hb2
    | some l' =>
      rw [e] at Po2
      exact store_snd S hi hk I2 R2 V2 e fun s' S3 I3 R3 => Po2 μ₂ _ l' H₂ _ s' rfl S3 I3 R3 rfl
  · exact absurd rfl hb
theorem ss_augA (G : CGood C P) {o : E} {x : Str} {ai : Nat} {tp : Pos} {op : Operator} {e : E} {p : Pos} (hx : C.nm[ai]? = some x) (h1 : SE C P F call N o) (h2 : SE C P F call N e) : SS C P F call N (.augA o x ai tp op e p) := fun μ H s l I R => by
  show WS C F _ ((evE P call N (st C.gt o) l H).thenS l fun o H => match attrV P.fld H o ai with
    | some old => (evE P call N (st C.gt e) l H).thenS l fun v H => (augV H op old v).thenS l fun r H => (match putA P.fld H o ai r with | some H => .ok .next l H | none => .bad)
    | none => .bad) μ s
  intro hb Q E Po
  refine wpAny_AugAssign_AttributeAny (WE.thenS (h1 μ H s l I R) R hb Po fun μ₁ a H₁ v s₁ S1 I1 R1 V1 hb1 Po1 => ?_)
  cases hq : attrV P.fld H₁ a ai with
  | none => rw [hq] at hb1; exact absurd rfl hb1
  | some old =>
    rw [hq] at hb1 Po1
    dsimp only at hb1 Po1
    have A0 : WE C F NoX (VRel C) (getAttr v x true) (.ok old H₁) μ₁ s₁ := by
      have := attr_snd (F := F) (expr := true) G.toGood I1 V1 hx
      rw [hq] at this; exact this
    refine WE.thenS (g := fun old H₁ => (evE P call N (st C.gt e) l H₁).thenS l fun v H => (augV H op old v).thenS l fun r H => match putA P.fld H a ai r with | some H => .ok .next l H | none => .bad) A0 R1 hb1 Po1 fun μ₂ ol H₂ ov s₂ S2 I2 R2 V2 hb2 Po2 => ?_
    refine WE.thenS (h2 μ₂ H₂ s₂ l I2 R2) R2 hb2 Po2 fun μ₃ b H₃ w s₃ S3 I3 R3 V3 hb3 Po3 => ?_
    refine WE.thenS (aug_snd I3 (VR.step0 S3 V2) V3) R3 hb3 Po3 fun μ₄ r H₄ rv s₄ S4 I4 R4 V4 hb4 Po4 => ?_
    cases hp : putA P.fld H₄ a ai r with
    | none => rw [hp] at hb4; exact absurd rfl hb4
    | some H' =>
      rw [hp] at Po4
      exact put_snd G.toGood I4 (VR.step0 S4 (VR.step0 S3 (VR.step0 S2 V1))) V4 hx hp fun s' S5 I5 => Po4 μ₄ _ l H' _ s' rfl (lx S5) I5 (R4.step0 S5) rfl
theorem ss_ret {e : E} {p : Pos} (h : SE C P F call N e) : SS C P F call N (.ret e p) := fun μ H s l I R => by
  show WS C F _ ((evE P call N (st C.gt e) l H).thenS l fun v H => .ok (.ret v) l H) μ s
  intro hb Q E Po
  exact wpAny_Return_some (WE.thenS (h μ H s l I R) R hb Po fun μ₁ a H₁ v s₁ S1 I1 R1 V1 hb1 Po1 => Po1 μ₁ _ l H₁ _ s₁ rfl .refl I1 R1 ⟨v, rfl, V1⟩)
theorem ss_cont {p : Pos} : SS C P F call N (.cont p) := fun μ H s l I R hb Q E Po => by
  show wpAny _ _ (do standAt p; pure Flow.cont) Q E s
  exact wpAny_bind (wpAny_standAt (wpAny_pure (Po μ _ l H _ s rfl .refl I R rfl)))
theorem ites_eq (c : E0) (f g : AH → SO) : ((evE P call N c l H).thenS l fun v H => match truthV v with
    | some true => f H
    | some false => g H
    | none => .bad) = (evT P call N c l H).thenS l fun b H => if b = true then f H else g H := by
  unfold evT
  cases evE P call N c l H with
  | ok v H1 => simp only [Out.bind, Out.thenS]; cases truthV v with
    | none => rfl
    | some x => cases x <;> rfl
  | bad => rfl
theorem ss_ite {c : E} {a b : List S} {p : Pos} (hc : ST C P F call N c) (h1 : SSs C P F call N a) (h2 : SSs C P F call N b) : SS C P F call N (.ite c a b p) := fun μ H s l I R => by
  have e0 : evS P call N (stS C.gt (.ite c a b p)) l H = (evT P call N (st C.gt c) l H).thenS l fun x H => if x = true then evSs P call N (stSs C.gt a) l H else evSs P call N (stSs C.gt b) l H :=
    ites_eq (st C.gt c) (fun H => evSs P call N (stSs C.gt a) l H) (fun H => evSs P call N (stSs C.gt b) l H)
  rw [e0]
  intro hb Q E Po
  refine wpAny_If (WE.thenS (hc μ H s l I R) R hb Po fun μ₁ x H₁ v s₁ S1 I1 R1 V1 hb1 Po1 => ?_)
  obtain rfl : x = v := V1
  cases x
  · exact h2 μ₁ H₁ s₁ l I1 R1 hb1 Q E Po1
  · exact h1 μ₁ H₁ s₁ l I1 R1 hb1 Q E Po1
end
end Mine
end -- EngR
section -- EngS
namespace Mine
open PySem PySem.W PySem.Calls PyProof.Rows

section
variable {α β γ : Type} {C : Cx} {P : P0} {F : Fm} {call : Nat → List AV → AH → Out AV} {N : Nat} {μ : Mu} {H : AH} {s : Shared} {l : Loc} {d : Nat}
theorem loop_flow {μ₀ μ' : Mu} {s₀ s' : Shared} {x : SO} {k : Loc → AH → SO} {fl : Fl} {f : Flow} {l' : Loc} {H' : AH} {Q : Flow → Shared → Prop}
    (hb : x.loop k ≠ .bad) (Po : PostS C F μ₀ s₀ (x.loop k) Q) (e : x = .ok fl l' H') (S : Step (LX F) μ₀ s₀ μ' s') (I : Inv C μ' H' s'.heap) (R : FR C F μ' l' s'.heap) (V : FlR C μ' s'.heap fl f) :
    ((f = .next ∨ f = .cont) ∧ k l' H' ≠ .bad ∧ PostS C F μ₀ s₀ (k l' H') Q) ∨ ∃ v, f = .ret v ∧ Q (.ret v) s' := by
  subst e
  cases fl with
  | next => exact .inl ⟨.inl V, hb, Po⟩
  | cont => exact .inl ⟨.inr V, hb, Po⟩
  | ret a => obtain ⟨v, rfl, V'⟩ := V; exact .inr ⟨v, rfl, Po μ' _ l' H' _ s' rfl S I R ⟨v, rfl, V'⟩⟩

/-! while -/
theorem while_eq (T : E0) (B : List S0) (n : Nat) (l : Loc) (H : AH) : whileGo (fun l H => evE P call N T l H) (fun l H => evSs P call N B l H) (n + 1) l H =
    (evT P call N T l H).thenS l fun b H1 => if b = true then (evSs P call N B l H1).loop (whileGo (fun l H => evE P call N T l H) (fun l H => evSs P call N B l H) n) else .ok .next l H1 := by
  show (match evE P call N T l H with
    | .ok (.bool true) H1 => (evSs P call N B l H1).loop (whileGo (fun l H => evE P call N T l H) (fun l H => evSs P call N B l H) n)
    | .ok (.bool false) H1 => SO.ok .next l H1
    | _ => .bad) = _
  unfold evT
  cases evE P call N T l H with
  | ok v H1 =>
    cases v <;> first | rfl | skip
    rename_i b
    cases b <;> rfl
  | bad => rfl
inductive WI (C : Cx) (F : Fm) (go : Nat → Loc → AH → SO) (Q : Flow → Shared → Prop) (n : Nat) (s : Shared) : Prop
  | mk (μ : Mu) (l : Loc) (H : AH) (I : Inv C μ H s.heap) (R : FR C F μ l s.heap) (hb : go n l H ≠ .bad) (Po : PostS C F μ s (go n l H) Q) : WI C F go Q n s
theorem ss_while {c : E} {b : List S} {p : Pos} (hc : ST C P F call N c) (h : SSs C P F call N b) : SS C P F call N (.while_ c b p) := fun μ H s l I R hb Q E Po => by
  refine wpAny_While (codeAny_whileLoop (WI C F (whileGo (fun l H => evE P call N (st C.gt c) l H) (fun l H => evSs P call N (stSs C.gt b) l H)) Q) (fun n s' hI => ?_) N (.mk μ l H I R hb Po))
  obtain ⟨μ₁, l₁, H₁, I1, R1, hb1, Po1⟩ := hI
  cases n with
  | zero => exact absurd rfl hb1
  | succ n =>
    rw [while_eq] at hb1 Po1
    refine WE.thenS (hc μ₁ H₁ s' l₁ I1 R1) R1 hb1 Po1 fun μ₂ x H₂ v s₂ S2 I2 R2 V2 hb2 Po2 => ?_
    obtain rfl : x = v := V2
    cases x
    · exact wpAny_execs_nil (Po2 μ₂ _ l₁ H₂ _ s₂ rfl .refl I2 R2 rfl)
    · refine h μ₂ H₂ s₂ l₁ I2 R2 (fun q => hb2 (by rw [q]; rfl)) _ _ fun μ₃ fl l₃ H₃ f s₃ e S3 I3 R3 V3 => ?_
      rcases loop_flow hb2 Po2 e S3 I3 R3 V3 with ⟨hf, hb7, Po7⟩ | ⟨v, rfl, q⟩
      · have z := WI.mk (go := whileGo (fun l H => evE P call N (st C.gt c) l H) (fun l H => evSs P call N (stSs C.gt b) l H)) (n := n) μ₃ l₃ H₃ I3 R3 hb7 (Po7.re S3)
        rcases hf with rfl | rfl <;> exact ⟨n, Nat.lt_succ_self n, z⟩
      · exact q

/-! for -/
noncomputable abbrev ExtN (wr : List Addr) (h h' : Heap) : Prop := ∀ b o, b ∉ wr → h.get? b = some o → h'.get? b = some o
theorem VR.ext {wr : List Addr} {h h' : Heap} (hp : ∀ b ∈ wr, ∃ o, h.get? b = some o ∧ Plainly o) (hx : ExtN wr h h') (a : AV) (v : Value) : VR C μ h a v → VR C μ h' a v :=
  VR.mono (fun _ _ h => h) (fun b o e hn hpl => ⟨hn, o.slots, hx b o (fun q => by obtain ⟨oi, ei, pi⟩ := hp b q; rw [ei] at e; cases e; exact hpl pi) e, fun _ => rfl⟩) a
/-- what a loop draws from -/
structure Src (C : Cx) (F : Fm) (wr : List Addr) (tg : Expr) (itv : Value) (J : Mu → Heap → It → Prop) : Prop where
  live : ∀ μ h i, J μ h i → ∀ b ∈ wr, ¬ Own μ b ∧ ∃ o, h.get? b = some o ∧ Plainly o ∧ o.cls ≠ .type "frame"
  move : ∀ μ h i μ' h', J μ h i → (∀ (i : Nat) (p : Addr × Addr), μ[i]? = some p → μ'[i]? = some p) → (∀ b ∈ wr, ¬ Own μ' b ∧ ∀ o, h.get? b = some o → h'.get? b = some o) → J μ' h' i
  next : ∀ μ H (s : Shared) i r, Inv C μ H s.heap → J μ s.heap i → stepIt H i = some r → ∀ (Q : Option Value → Shared → Prop) (K : Value → Shared → Prop) (E E' : Value → Shared → Prop),
    (∀ v s₁, wpAny (model C.prog C.w) F.A (letOwnedTupleGo tg itv v) (fun _ s₂ => K v s₂) E' s₁ → Q (some v) s₁) →
    (r = none → ∀ h' t, ExtN wr s.heap h' → Q none { s with heap := h', toks := t }) →
    (∀ a i', r = some (a, i') → ∀ v h' t, ExtN wr s.heap h' → J μ h' i' → VR C μ h' a v → K v { s with heap := h', toks := t }) →
    wpAny (model C.prog C.w) F.A (pyNext itv) Q E s
theorem Src.step {wr : List Addr} {tg : Expr} {itv : Value} {J : Mu → Heap → It → Prop} (X : Src C F wr tg itv J) {Y : Addr → Prop} {μ' : Mu} {s' : Shared} {i : It} (hJ : J μ s.heap i) (S : Step Y μ s μ' s') (hY : ∀ b ∈ wr, ¬ Y b) : J μ' s'.heap i :=
  X.move _ _ _ _ _ hJ (fun _ _ h => S.at h) fun b hb => by
    obtain ⟨ho, o, e, _, hc⟩ := X.live _ _ _ hJ b hb
    exact ⟨S.notOwn ho e, fun o' e' => by rw [e] at e'; cases e'; exact S.exact e ho (hY b hb) hc⟩
theorem ext_inv {wr : List Addr} {h' : Heap} {X : Addr → Prop} {μ₁ : Mu} {s₁ : Shared} (I : Inv C μ H s.heap) (S : Step X μ₁ s₁ μ s) (hit : ∀ b ∈ wr, s₁.heap.get? b = none) (hb : ∀ b ∈ wr, C.base.get? b = none) (ho : ∀ b ∈ wr, ¬ Own μ b)
    (hp : ∀ b ∈ wr, ∃ o, s.heap.get? b = some o ∧ Plainly o) (hx : ExtN wr s.heap h') (t : Nat) : Step X μ₁ s₁ μ { s with heap := h', toks := t } ∧ Inv C μ H h' := by
  refine ⟨⟨S.pre, S.fresh, fun b o e => ?_, fun b o e hn hx' => ?_, S.gens, S.os⟩, I.moved (fun b o e => hx b o (fun q => by rw [hb b q] at e; cases e) (I.stays b o e)) (fun a ha => ?_) (VR.ext hp hx)⟩
  · obtain ⟨o', e'⟩ := S.live b o e
    exact ⟨o', hx b o' (fun q => by rw [hit b q] at e; cases e) e'⟩
  · obtain ⟨sl, e', q⟩ := S.kept b o e hn hx'
    exact ⟨sl, hx b _ (fun q => by rw [hit b q] at e; cases e) e', q⟩
  · obtain ⟨o, e⟩ := I.there ha
    rw [e]; exact hx a o (fun q => ho a q ha) e
theorem ext_many {wr : List Addr} {h' : Heap} {X : Addr → Prop} {μ₁ : Mu} {s₁ : Shared} (I : Inv C μ H s.heap) (R : FR C F μ l s.heap) (S : Step X μ₁ s₁ μ s) (hit : ∀ b ∈ wr, s₁.heap.get? b = none) (hb : ∀ b ∈ wr, C.base.get? b = none) (ho : ∀ b ∈ wr, ¬ Own μ b) (hp : ∀ b ∈ wr, ∃ o, s.heap.get? b = some o ∧ Plainly o)
    (hL : F.env.locals ∉ wr) (hx : ExtN wr s.heap h') (t : Nat) : Step X μ₁ s₁ μ { s with heap := h', toks := t } ∧ Inv C μ H h' ∧ FR C F μ l h' := by
  obtain ⟨a, b⟩ := ext_inv I S hit hb ho hp hx t
  refine ⟨a, b, ?_⟩
  obtain ⟨⟨m, hn, hv⟩, off, new, len⟩ := R
  refine ⟨⟨m, ns_slots hn fun o e => ⟨o.slots, hx _ o hL e⟩, fun i x v hi hl => ?_⟩, off, new, len⟩
  obtain ⟨rv, e, W⟩ := hv i x v hi hl
  exact ⟨rv, e, VR.ext hp hx _ _ W⟩
theorem Src.pl {wr : List Addr} {tg : Expr} {itv : Value} {J : Mu → Heap → It → Prop} (X : Src C F wr tg itv J) {h : Heap} {i : It} (hJ : J μ h i) : ∀ b ∈ wr, ∃ o, h.get? b = some o ∧ Plainly o := fun b q => by
  obtain ⟨_, o, e, p, _⟩ := X.live _ _ _ hJ b q
  exact ⟨o, e, p⟩
theorem Src.ho {wr : List Addr} {tg : Expr} {itv : Value} {J : Mu → Heap → It → Prop} (X : Src C F wr tg itv J) {h : Heap} {i : It} (hJ : J μ h i) : ∀ b ∈ wr, ¬ Own μ b := fun b q => (X.live _ _ _ hJ b q).1
theorem one {p : Addr → Prop} {a : Addr} (h : p a) : ∀ b ∈ [a], p b := fun b q => by rw [List.mem_singleton.mp q]; exact h
end
end Mine
end -- EngS
section -- EngU
namespace Mine
open PySem PySem.W PySem.Calls PyProof.Rows

section
variable {α β γ : Type} {C : Cx} {P : P0} {F : Fm} {call : Nat → List AV → AH → Out AV} {N : Nat} {μ : Mu} {H : AH} {s : Shared} {l : Loc} {d : Nat}
theorem base_none (I : Inv C μ H s.heap) {a : Addr} (h : s.heap.get? a = none) : C.base.get? a = none := by
  cases q : C.base.get? a with
  | none => rfl
  | some o => rw [I.stays a o q] at h; cases h
theorem FR.there {h : Heap} (R : FR C F μ l h) : ∃ o, h.get? F.env.locals = some o := by
  obtain ⟨⟨m, ⟨o, _, _, e, _⟩, _⟩, _⟩ := R
  exact ⟨o, e⟩
/-- lists and ranges -/
noncomputable def IterAt (μ : Mu) (h : Heap) (it : Addr) : It → Prop
  | .list r k => ∃ p, μ[r]? = some p ∧ h.IsListIter it p.1 k
  | .rng a b => ∃ left, IsRangeIter h it a left 1 ∧ (a < b → left = b - a) ∧ (¬ a < b → left ≤ 0)
  | .enm _ _ => False
theorem IterAt.obj {h : Heap} {it : Addr} {i : It} (x : IterAt μ h it i) : ∃ o, h.get? it = some o ∧ (o.cls = .type "list_iterator" ∨ o.cls = .type "range_iterator") := by
  cases i with
  | list r k => obtain ⟨p, _, o, e, hc, _⟩ := x; exact ⟨o, e, .inl hc⟩
  | rng a b => obtain ⟨left, e, _⟩ := x; exact ⟨_, e, .inr rfl⟩
  | enm _ _ => exact x.elim
theorem lets_py {t : T} {it : Addr} {i : It} {v : Value} {Q : Unit → Shared → Prop} {E : Value → Shared → Prop} (x : IterAt μ s.heap it i) (h : Q () s) :
    wpAny (model C.prog C.w) F.A (letOwnedTupleGo (pyT t) (.ref it) v) Q E s := by
  cases t <;> try exact wpAny_pure h
  obtain ⟨o, e, hc⟩ := x.obj
  show wpAny _ _ (letOwnedTupleGo (.Tuple _ _ _) _ _) Q E s
  unfold letOwnedTupleGo
  cases v <;> try exact wpAny_pure h
  refine wpAny_bind (wpAny_load e ?_)
  have hn : ∃ x, o.cls = .type x ∧ (["enumerate", "zip", "dict_itemiterator", "dict_reverseitemiterator", "odict_iterator", "itertools.zip_longest", "itertools.pairwise"].contains x) = false := by
    rcases hc with hc | hc
    · exact ⟨_, hc, by decide⟩
    · exact ⟨_, hc, by decide⟩
  obtain ⟨x, hx, hx2⟩ := hn
  obtain ⟨c, dt, da, sl⟩ := o
  dsimp only at hx
  subst hx
  cases da with
  | fields vs =>
    show wpAny _ _ (if (["enumerate", "zip", "dict_itemiterator", "dict_reverseitemiterator", "odict_iterator", "itertools.zip_longest", "itertools.pairwise"].contains x && _) = true then _ else _) Q E s
    rw [hx2, Bool.false_and, if_neg (by decide)]
    exact wpAny_pure h
  | _ => exact wpAny_pure h
noncomputable def JI (it : Addr) (μ : Mu) (h : Heap) (i : It) : Prop := IterAt μ h it i ∧ ¬ Own μ it
theorem src_it (hh : F.A.handled = none) (t : T) (it : Addr) : Src C F [it] (pyT t) (.ref it) (JI it) where
  live := fun μ h i hJ b hb => by
    rw [List.mem_singleton.mp hb]
    obtain ⟨o, e, hc⟩ := hJ.1.obj
    refine ⟨hJ.2, o, e, ?_⟩
    rcases hc with hc | hc <;> exact ⟨.inr (by rw [hc]; simp), by rw [hc]; simp⟩
  move := fun μ h i μ' h' hJ hat hb => by
    obtain ⟨h1, h2⟩ := hb it (List.mem_singleton.mpr rfl)
    refine ⟨?_, h1⟩
    have x := hJ.1
    cases i with
    | list r k =>
      obtain ⟨p, hp, o, e, r⟩ := x
      exact ⟨p, hat _ _ hp, o, h2 _ e, r⟩
    | rng a b =>
      obtain ⟨left, e, r⟩ := x
      exact ⟨left, h2 _ e, r⟩
    | enm _ _ => exact x.elim
  next := fun μ H s i r I hJ e Q K E E' hQ hn hs => by
    obtain ⟨hI, ho⟩ := hJ
    have xt : ∀ {h h' : Heap}, Heap.ExtBut it h h' → ExtN [it] h h' := fun hx b o hb => hx b o fun q => hb (List.mem_singleton.mpr q)
    have pl : ∀ b ∈ [it], ∃ o, s.heap.get? b = some o ∧ Plainly o := fun b hb => by
      rw [List.mem_singleton.mp hb]
      obtain ⟨o, e, hc⟩ := hI.obj
      exact ⟨o, e, .inr (by rcases hc with hc | hc <;> rw [hc] <;> simp)⟩
    have fin : ∀ a i' v h' tk, r = some (a, i') → Heap.ExtBut it s.heap h' → IterAt μ h' it i' → VR C μ s.heap a v → Q (some v) { s with heap := h', toks := tk } := fun a i' v h' tk hr hx hI' V =>
      hQ _ _ (lets_py (s := { s with heap := h', toks := tk }) hI' (hs a i' hr v h' tk (xt hx) ⟨hI', ho⟩ (VR.ext pl (xt hx) _ _ V)))
    cases i with
    | list q k =>
      obtain ⟨p, hp, hit⟩ := hI
      have e : (match H[q]? with | some (.list xs) => some (xs[k]?.map fun v => (v, It.list q (k + 1))) | _ => none) = some r := e
      split at e
      · rename_i xs hx
        cases e
        have := I.objs q _ p hx hp
        simp only [OR] at this
        obtain ⟨e1, hz, vs, n, hL, hv⟩ := this
        cases hk : xs[k]? with
        | none =>
          refine wpAny_pyNext_list_end hh hit hL.isList ?_ fun h' hx' => hn (by rw [hk]; rfl) h' s.toks (xt hx')
          have hz := hv.len
          rw [Array.getElem?_eq_none]
          have h2 := List.getElem?_eq_none_iff.mp hk
          simp only [Array.length_toList] at hz
          exact hz ▸ h2
        | some a =>
          obtain ⟨y, hy, Vy⟩ := hv.get hk
          refine wpAny_pyNext_list_item hit hL.isList (x := y) (by simpa using hy) fun h' hi' hs' => ?_
          exact fin a (.list q (k + 1)) y h' s.toks (by rw [hk]; rfl) hs'.extBut ⟨p, hp, hi'⟩ Vy
      · cases e
    | rng a b =>
      obtain ⟨left, hit, h1, h2⟩ := hI
      have e : some (if a < b then some (AV.int a, It.rng (a + 1) b) else none) = some r := e
      cases e
      by_cases hab : a < b
      · have hl := h1 hab
        refine wpAny_pyNext_range_item hit (by omega) fun h' hi' hs' => ?_
        exact fin (.int a) (.rng (a + 1) b) _ h' _ (if_pos hab) hs'.extBut ⟨left - 1, hi', fun _ => by omega, fun _ => by omega⟩ (by simp only [VR]; exact ⟨_, rfl⟩)
      · exact wpAny_pyNext_range_end hh hit (h2 hab) fun h' hx' => hn (if_neg hab) h' s.toks (xt hx')
    | enm _ _ => exact hI.elim
theorem iter_snd {a : AV} {v : Value} {i : It} {Q : Value → Shared → Prop} {E : Value → Shared → Prop} (I : Inv C μ H s.heap) (V : VR C μ s.heap a v) (e : iterOf H a = some i)
    (h : ∀ it s', Step NoX μ s μ s' → Inv C μ H s'.heap → JI it μ s'.heap i → s.heap.get? it = none → Q (.ref it) s') : wpAny (model C.prog C.w) F.A (pyIter v) Q E s := by
  have ho : ¬ Own μ s.heap.objs.size := I.free (size_none _)
  cases a <;> first | (cases e; done) | skip
  · rename_i r
    have e : (match H[r]? with | some (.list _) => some (It.list r 0) | _ => none) = some i := e
    split at e
    · rename_i xs hx
      cases e
      obtain ⟨p, vs, n, hp, rfl, _, hL, _, _⟩ := I.list hx V
      exact wpAny_pyIter_list hL.isList (h _ _ (Step.push0 I _ s.toks) (I.push0 _) ⟨⟨p, hp, _, Heap.get?_push_size _ rfl, rfl, rfl⟩, ho⟩ (size_none _))
    · cases e
  · rename_i x y
    cases e
    simp only [VR] at V
    obtain ⟨⟨h1, h2, h3, h4⟩, r, t, u, w, rfl, _, hr⟩ := V
    refine wpAny_pyIter_range hr (small_one (Int.le_trans (by decide) h1) (Int.lt_trans h2 (by decide)) (Int.le_trans (by decide) h3) (Int.lt_trans h4 (by decide))) (h _ _ (Step.push0 I _ s.toks) (I.push0 _) ⟨⟨Builtin.Range.rangeSize x y 1, Heap.get?_push_size _ rfl, fun q => ?_, fun q => ?_⟩, ho⟩ (size_none _))
    · rw [rangeSize_one, if_pos q]
    · rw [rangeSize_one, if_neg q]; exact Int.le_refl _

/-! targets that are names, and tuples of these -/
theorem tgVs_len : ∀ (ts : List T0) (as : List AV) (l l' : Loc), tgVs ts as l = some l' → ts.length = as.length
  | [], [], _, _, _ => rfl
  | t :: ts, a :: as, l, l', e => by
    obtain ⟨l1, _, e2⟩ := Option.bind_eq_some_iff.mp (show (tgV t a l).bind (fun l => tgVs ts as l) = some l' from e)
    exact congrArg (· + 1) (tgVs_len ts as l1 l' e2)
  | [], _ :: _, _, _, e => by cases e
  | _ :: _, [], _, _, e => by cases e
mutual
theorem asT_of : ∀ (t : T0) (a : AV) (l l' : Loc) (H : AH), tgV t a l = some l' → asT P call N t a l H = .ok l' H
  | .name i, a, l, l', H, e => by
    show (match setLoc l i a with | some l => (.ok l H : Out Loc) | none => .bad) = _
    rw [show setLoc l i a = some l' from e]
  | .tup ts, .tup vs, l, l', H, e => by
    show (if ts.length = vs.length then asTs P call N ts vs l H else .bad) = _
    rw [if_pos (tgVs_len ts vs l l' e)]
    exact asTs_of ts vs l l' H e
  | .bad, _, _, _, _, e => by cases e
  | .attr _ _, _, _, _, _, e => by cases e
  | .item _ _, _, _, _, _, e => by cases e
  | .tup _, .none, _, _, _, e => by cases e
  | .tup _, .bool _, _, _, _, e => by cases e
  | .tup _, .int _, _, _, _, e => by cases e
  | .tup _, .str _, _, _, _, e => by cases e
  | .tup _, .ref _, _, _, _, e => by cases e
  | .tup _, .fn _, _, _, _, e => by cases e
  | .tup _, .cls _, _, _, _, e => by cases e
  | .tup _, .bi _, _, _, _, e => by cases e
  | .tup _, .ilist _, _, _, _, e => by cases e
  | .tup _, .rng _ _, _, _, _, e => by cases e
theorem asTs_of : ∀ (ts : List T0) (as : List AV) (l l' : Loc) (H : AH), tgVs ts as l = some l' → asTs P call N ts as l H = .ok l' H
  | [], [], _, _, _, e => by cases e; rfl
  | t :: ts, a :: as, l, l', H, e => by
    obtain ⟨l1, e1, e2⟩ := Option.bind_eq_some_iff.mp (show (tgV t a l).bind (fun l => tgVs ts as l) = some l' from e)
    show (asT P call N t a l H).bind (fun l H => asTs P call N ts as l H) = _
    rw [asT_of t a l l1 H e1]
    exact asTs_of ts as l1 l' H e2
  | [], _ :: _, _, _, _, e => by cases e
  | _ :: _, [], _, _, _, e => by cases e
end
theorem TT.tg {t : T} (h : TT C P F call N t) {a : AV} {v : Value} {l' : Loc} {Q : Unit → Shared → Prop} {E : Value → Shared → Prop} (I : Inv C μ H s.heap) (R : FR C F μ l s.heap) (V : VR C μ s.heap a v) (e : tgV (stT C.gt t) a l = some l')
    (hQ : ∀ μ' s', Step (LX F) μ s μ' s' → Inv C μ' H s'.heap → FR C F μ' l' s'.heap → Q () s') : wpAny (model C.prog C.w) F.A (assign (pyT t) F.env v) Q E s := by
  have e2 := asT_of (P := P) (call := call) (N := N) _ a l l' H e
  refine h μ H s l a v I R V (by rw [e2]; intro q; cases q) Q E fun μ' l2 H2 s' q S I R => ?_
  rw [e2] at q
  cases q
  exact hQ μ' s' S I R

/-! the loop -/
theorem for_eq {tg : AV → Loc → Option Loc} {body : Loc → AH → SO} {n : Nat} {i : It} {r : Option (AV × It)} (e : stepIt H i = some r) : forGo tg body (n + 1) i l H = match (generalizing := false) r with
    | none => SO.ok .next l H
    | some p => match tg p.1 l with
      | none => SO.bad
      | some l1 => (body l1 H).loop (forGo tg body n p.2) := by
  show (match stepIt H i with
    | none => SO.bad
    | some none => .ok .next l H
    | some (some (v, it')) => match tg v l with
      | none => .bad
      | some l1 => (body l1 H).loop (forGo tg body n it')) = _
  rw [e]
  cases r <;> rfl
theorem for_none {tg : AV → Loc → Option Loc} {body : Loc → AH → SO} {n : Nat} {i : It} (e : stepIt H i = none) : forGo tg body (n + 1) i l H = SO.bad := by
  show (match stepIt H i with
    | none => SO.bad
    | some none => .ok .next l H
    | some (some (v, it')) => match tg v l with
      | none => .bad
      | some l1 => (body l1 H).loop (forGo tg body n it')) = _
  rw [e]
inductive LI (C : Cx) (F : Fm) (J : Mu → Heap → It → Prop) (go : Nat → It → Loc → AH → SO) (μ₁ : Mu) (s₁ : Shared) (Q : Flow → Shared → Prop) (n : Nat) (s : Shared) : Prop
  | mk (μ : Mu) (l : Loc) (H : AH) (i : It) (S : Step (LX F) μ₁ s₁ μ s) (I : Inv C μ H s.heap) (R : FR C F μ l s.heap) (hJ : J μ s.heap i) (hb : go n i l H ≠ .bad) (Po : PostS C F μ₁ s₁ (go n i l H) Q) : LI C F J go μ₁ s₁ Q n s
theorem for_go {wr : List Addr} {itv : Value} {J : Mu → Heap → It → Prop} {t : T} {b : List S} {μ₁ : Mu} {s₁ : Shared} {Q : Flow → Shared → Prop} {E : Value → Shared → Prop} (X : Src C F wr (pyT t) itv J) (ht : TT C P F call N t) (hb : SSs C P F call N b)
    (I1 : Inv C μ₁ H s₁.heap) (R1 : FR C F μ₁ l s₁.heap) (hwr : ∀ b ∈ wr, s₁.heap.get? b = none) (n : Nat)
    (h : LI C F J (forGo (tgV (stT C.gt t)) (fun l H => evSs P call N (stSs C.gt b) l H)) μ₁ s₁ Q n s) :
    codeAny (model C.prog C.w) F.A (.forLoop (pyT t) itv (pySs b) [] F.env) (fun r s' => match r with | .ok f => Q f s' | .error e => cameBackBy (model C.prog C.w) F.A F.env E e s') s := by
  have hwb : ∀ b ∈ wr, C.base.get? b = none := fun b q => base_none I1 (hwr b q)
  have hwL : F.env.locals ∉ wr := fun q => by
    obtain ⟨o, e⟩ := R1.there
    rw [hwr _ q] at e; cases e
  have hLw : ∀ b ∈ wr, ¬ LX F b := fun b hb q => hwL (q ▸ hb)
  refine codeAny_forLoop_any (LI C F J (forGo (tgV (stT C.gt t)) (fun l H => evSs P call N (stSs C.gt b) l H)) μ₁ s₁ Q) (fun n s' hI => ?_) n h
  obtain ⟨μ₃, l₃, H₃, i₃, S3, I3, R3, hJ, hb3, Po3⟩ := hI
  cases n with
  | zero => exact absurd rfl hb3
  | succ n =>
    cases hst : stepIt H₃ i₃ with
    | none => exact absurd (for_none hst) hb3
    | some r =>
      rw [for_eq hst] at hb3 Po3
      refine X.next μ₃ H₃ s' i₃ r I3 hJ hst _ _ _ _ (fun v s₁ h => h) (fun hr h' tk hx => ?_) fun a i' hr v h' tk hx hJ' V' => ?_
      · subst hr
        obtain ⟨S4, I4, R4⟩ := ext_many I3 R3 S3 hwr hwb (X.ho hJ) (X.pl hJ) hwL hx tk
        exact wpAny_execs_nil (Po3 μ₃ _ l₃ H₃ _ _ rfl S4 I4 R4 rfl)
      · subst hr
        obtain ⟨S4, I4, R4⟩ := ext_many I3 R3 S3 hwr hwb (X.ho hJ) (X.pl hJ) hwL hx tk
        dsimp only at hb3 Po3
        cases htg : tgV (stT C.gt t) a l₃ with
        | none => rw [htg] at hb3; exact absurd rfl hb3
        | some l₄ =>
          rw [htg] at hb3 Po3
          refine ht.tg (s := { s' with heap := h', toks := tk }) I4 R4 V' htg fun μ₅ s₅ S5 I5 R5 => ?_
          have hJ5 := X.step (s := { s' with heap := h', toks := tk }) hJ' S5 hLw
          refine hb μ₅ H₃ s₅ l₄ I5 R5 (fun q => hb3 (by dsimp only; rw [q]; rfl)) _ _ fun μ₆ fl l₆ H₆ f s₆ e6 S6 I6 R6 V6 => ?_
          have S7 := (S4.trans0 S5).trans0 S6
          rcases loop_flow hb3 Po3 e6 S7 I6 R6 V6 with ⟨hf, hb7, Po7⟩ | ⟨v, rfl, q⟩
          · have z := LI.mk (go := forGo (tgV (stT C.gt t)) (fun l H => evSs P call N (stSs C.gt b) l H)) (n := n) μ₆ l₆ H₆ i' S7 I6 R6 (X.step hJ5 S6 hLw) hb7 Po7
            rcases hf with rfl | rfl <;> exact ⟨n, Nat.lt_succ_self n, z⟩
          · exact q
theorem folded_py (e : E) (env : Env) (x : Value) : foldedSetIterable (py e) env x = pure x := by cases e <;> rfl
theorem ss_for (Sf : FS F d) {t : T} {e : E} {b : List S} {p : Pos} (ht : TT C P F call N t) (he : SE C P F call N e) (hb : SSs C P F call N b) : SS C P F call N (.for_ t e b p) := fun μ H s l I R => by
  show WS C F _ ((evE P call N (st C.gt e) l H).thenS l fun v H => match iterOf H v with
    | some i => forGo (tgV (stT C.gt t)) (fun l H => evSs P call N (stSs C.gt b) l H) N i l H
    | none => .bad) μ s
  intro hbad Q E Po
  refine wpAny_For (WE.thenS (he μ H s l I R) R hbad Po fun μ₁ a H₁ v s₁ S1 I1 R1 V1 hb1 Po1 => ?_) (folded_py e F.env)
  cases hi : iterOf H₁ a with
  | none => rw [hi] at hb1; exact absurd rfl hb1
  | some i =>
    rw [hi] at hb1 Po1
    refine iter_snd I1 V1 hi fun it s₂ S2 I2 hJ hit => ?_
    exact for_go (src_it Sf.handled t it) ht hb I1 R1 (one hit) N (.mk μ₁ l H₁ i (lx S2) I2 (R1.step0 S2) hJ hb1 Po1)
end
end Mine
end -- EngU
section -- EngZ
namespace Mine
open PySem PySem.W PySem.Calls PyProof.Rows

section
variable {α β γ : Type} {C : Cx} {P : P0} {F : Fm} {call : Nat → List AV → AH → Out AV} {N : Nat} {μ : Mu} {H : AH} {s : Shared} {l : Loc} {d : Nat}
theorem draws_str {prog : Program} {w : World} {A : Around} (hh : A.handled = none) (it : Addr) (x : Str) (t : Tok) :
    Draws prog w A it [it] x.cps.size (fun i v => ∃ c u, x.cps[i]? = some c ∧ v = .str ⟨#[c]⟩ u) (fun i h => h.IsStrIter it (strIterType x) x t i) := by
  unfold strIterType
  split
  · exact Draws.strAscii hh it x t
  · exact Draws.strWide hh it x t
theorem strIterType_ne (x : Str) : strIterType x ≠ "frame" ∧ strIterType x ≠ "tuple" ∧ strIterType x ≠ "range" := by
  unfold strIterType
  split <;> decide
/-- enumerate(text) under way -/
noncomputable def EnSt (x : List Nat) (t : Tok) (ea ia : Addr) (j : Nat) (h : Heap) : Prop :=
  (∃ old, IsEnum h ea ia j old) ∧ h.IsStrIter ia (strIterType ⟨x.toArray⟩) ⟨x.toArray⟩ t j
noncomputable def JE (x : List Nat) (t : Tok) (ea ia : Addr) (μ : Mu) (h : Heap) (i : It) : Prop :=
  ∃ j, i = .enm j (x.drop j) ∧ j ≤ x.length ∧ EnSt x t ea ia j h ∧ ∀ b ∈ [ea, ia], ¬ Own μ b
theorem walks_en (hh : F.A.handled = none) (x : List Nat) (t : Tok) {ea ia : Addr} (hei : ea ≠ ia) :
    WalksT C.prog C.w F.A ea [ea, ia] [ea, ia] x.length (fun i vals => ∃ t y, (∃ c u, (⟨x.toArray⟩ : Str).cps[i]? = some c ∧ y = .str ⟨#[c]⟩ u) ∧ vals = #[.int i t, y]) (EnSt x t ea ia)
      (fun i T h => (∃ y, IsEnumOut h ea ia ((i : Int) + 1) y T) ∧ h.IsStrIter ia (strIterType ⟨x.toArray⟩) ⟨x.toArray⟩ t (i + 1) ∧ T ≠ ea ∧ T ≠ ia) :=
  WalksT.enumerateD (n := x.length) (draws_str (prog := C.prog) (w := C.w) (A := F.A.in1) hh ia ⟨x.toArray⟩ t) ea hei (fun q => hei (List.mem_singleton.mp q)) (List.mem_singleton.mpr rfl)
theorem src_en (hh : F.A.handled = none) (x : List Nat) (t : Tok) {ea ia : Addr} (hei : ea ≠ ia) (ts : List T) (k : Nat) (p : Pos) : Src C F [ea, ia] (pyT (.tup ts k p)) (.ref ea) (JE x t ea ia) where
  live := fun μ h i hJ b hb => by
    obtain ⟨j, _, _, ⟨⟨old, e1⟩, o, e2, hc, _⟩, ho⟩ := hJ
    refine ⟨ho b hb, ?_⟩
    rcases List.mem_cons.mp hb with rfl | hb
    · exact ⟨_, e1, .inr (by simp), by simp⟩
    · obtain ⟨hT1, hT2, hT3⟩ := strIterType_ne ⟨x.toArray⟩
      rw [List.mem_singleton.mp hb]
      refine ⟨o, e2, .inr ?_, ?_⟩ <;> rw [hc]
      · exact ⟨fun q => hT2 (by injection q), fun q => hT3 (by injection q)⟩
      · exact fun q => hT1 (by injection q)
  move := fun μ h i μ' h' hJ hat hb => by
    obtain ⟨j, e, hj, st, _⟩ := hJ
    exact ⟨j, e, hj, (walks_en (C := C) hh x t hei).frame _ _ _ st fun b q o e => (hb b q).2 o e, fun b q => (hb b q).1⟩
  next := fun μ H s i r I hJ e Q K E E' hQ hn hs => by
    obtain ⟨j, rfl, hj, st, ho⟩ := hJ
    have W := walks_en (C := C) hh x t hei
    rcases Nat.lt_or_ge j x.length with hlt | hge
    · have hd := List.drop_eq_getElem_cons hlt
      rw [hd] at e
      cases e
      refine W.item j s _ _ hlt st fun T vals h4 tk4 hP hTge hT hMid hx => hQ _ _ ?_
      have hTo : ¬ Own μ T := fun q => by
        obtain ⟨o, e⟩ := I.there q
        exact absurd (Heap.lt_size e) (Nat.not_lt.mpr hTge)
      refine W.go _ _ _ j T { s with heap := h4, toks := tk4 } _ _ hMid fun h5 hst5 hx5 => ?_
      refine hs _ _ rfl _ h5 tk4 (fun b o hb e => hx5 b o hb (hx b o hb e)) ⟨j + 1, rfl, hlt, hst5, ho⟩ ?_
      obtain ⟨o, eo, hc, n', hd'⟩ := hT
      obtain ⟨tt, xx, ⟨cc, u, hcc, rfl⟩, rfl⟩ := hP
      rw [List.getElem?_toArray, List.getElem?_eq_getElem hlt] at hcc
      cases hcc
      simp only [VR]
      exact ⟨by show 2 ≤ big; decide, T, o, _, n', rfl, hTo, hx5 T o (W.apart _ _ _ hMid) eo, hc, hd', ⟨tt, rfl⟩, ⟨by show 1 ≤ big; decide, u, rfl⟩, trivial⟩
    · obtain rfl : j = x.length := Nat.le_antisymm hj hge
      rw [List.drop_length] at e
      cases e
      exact W.done s _ _ st fun h'' tk' hx => hn rfl h'' tk' hx
theorem ss_forE (Sf : FS F d) (G : CGood C P) {ts : List T} {tk : Nat} {tp : Pos} {np cp p : Pos} {a : E} {b : List S} {g : Nat} (ht : TT C P F call N (.tup ts tk tp)) (hg : C.gt[g]? = some (("enumerate" : Str), AV.bi .enum)) (hn : SE C P F call N (.glob "enumerate" g np)) (he : SE C P F call N a) (hb : SSs C P F call N b) : SS C P F call N (.forE (.tup ts tk tp) np a cp b p) := fun μ H s l I R => by
  show WS C F _ ((evE P call N (st C.gt a) l H).thenS l fun v H => match v with
    | .str x => forGo (tgV (stT C.gt (.tup ts tk tp))) (fun l H => evSs P call N (stSs C.gt b) l H) N (.enm 0 x) l H
    | _ => .bad) μ s
  intro hbad Q E Po
  refine wpAny_For (wpAny_Call_Name_kw ?_) (fun _ => rfl)
  have e0 : evE P call N (st C.gt (.glob "enumerate" g np)) l H = .ok (.bi .enum) H := by
    show evE P call N (.val (((C.gt[g]?).map (·.2)).getD .none)) l H = _
    rw [hg]; rfl
  refine hn μ H s l I R (by rw [e0]; intro q; cases q) _ _ fun μ₀ a₀ H₀ v₀ s₀ q0 S0 I0 V0 => ?_
  rw [e0] at q0
  cases q0
  obtain rfl : v₀ = .type "enumerate" := V0
  refine callWith_of (by rw [show ([py a] : List Expr) = pys [a] from rfl, args_plain]; rfl) (isFn_keep (μ := μ) (h := s.heap) G (f := .bi .enum) (fv := .type "enumerate") (by simp only [VR]; rfl) rfl) ?_
  have ea0 : backTo cp (starEach [py a] F.env) = [(false, eval (py a) F.env)] := by rw [starEach_py]; rfl
  rw [ea0]
  refine evalArgs_plain (x := eval (py a) F.env) (rest := []) (Calls.spliced_cons ?_)
  have R0 := R.step0 S0
  refine WE.thenS (he μ₀ H s₀ l I0 R0) R0 hbad (PostS.re Po (lx S0)) fun μ₁ av H₁ v s₁ S1 I1 R1 V1 hb1 Po1 => ?_
  refine Calls.spliced_nil ?_
  cases av <;> first | exact absurd rfl hb1 | skip
  rename_i x
  simp only [VRel, VR] at V1
  obtain ⟨hxl, t, rfl⟩ := V1
  refine ⟨I1.inK G.toGood, call_enumerate_str fun h' hE hI hz hk => ?_⟩
  have hei : s₁.heap.objs.size + 1 ≠ s₁.heap.objs.size := Nat.succ_ne_self _
  have hwr : ∀ b ∈ [s₁.heap.objs.size + 1, s₁.heap.objs.size], s₁.heap.get? b = none := fun b hb => by
    cases q : s₁.heap.get? b with
    | none => rfl
    | some o =>
      have hl := Heap.lt_size q
      rcases List.mem_cons.mp hb with rfl | hb
      · exact absurd hl (Nat.not_lt.mpr (Nat.le_succ _))
      · rw [List.mem_singleton.mp hb] at hl; exact absurd hl (Nat.lt_irrefl _)
  have st : EnSt x t (s₁.heap.objs.size + 1) s₁.heap.objs.size 0 h' := ⟨⟨_, hE⟩, hI⟩
  refine (walks_en (C := C) Sf.handled x t hei).self 0 { s₁ with heap := h' } _ _ st ?_
  exact for_go (src_en Sf.handled x t hei ts tk tp) ht hb I1 R1 hwr N (.mk μ₁ l H₁ (.enm 0 x) (lx (Step.keep μ₁ hk s₁.toks)) (I1.keep hk) (R1.step0 (Step.keep μ₁ hk s₁.toks)) ⟨0, rfl, Nat.zero_le _, st, fun b hb => I1.free (hwr b hb)⟩ hb1 Po1)
end
end Mine
end -- EngZ
section -- EngV
namespace Mine
open PySem PySem.W PySem.Calls PyProof.Rows

section
variable {α β γ : Type} {C : Cx} {P : P0} {F : Fm} {call : Nat → List AV → AH → Out AV} {N : Nat} {μ : Mu} {H : AH} {s : Shared} {l : Loc} {d : Nat}
noncomputable def STs (C : Cx) (P : P0) (F : Fm) (call : Nat → List AV → AH → Out AV) (N : Nat) (es : List E) : Prop := ∀ e ∈ es, ST C P F call N e
noncomputable abbrev testing (env : Env) : Expr → Bool → Sem (ForInStep Bool) := fun c r => if r = true then do let ok ← isTrue c env (eval c env); pure (ForInStep.yield ok) else pure (ForInStep.yield r)
theorem tests_false {M : Model} {A : Around} {env : Env} {Q : Bool → Shared → Prop} {E : Value → Shared → Prop} : ∀ (cs : List Expr), Q false s → wpAny M A (forIn cs false (testing env)) Q E s
  | [], h => wpAny_pure h
  | c :: cs, h => by
    rw [List.forIn_cons]
    exact wpAny_bind (wpAny_pure (tests_false cs h))
theorem ifs_eq (e : E) (r : List E) : evIfs P call N (sts C.gt (e :: r)) l H = (evT P call N (st C.gt e) l H).bind fun b H => if b = true then evIfs P call N (sts C.gt r) l H else .ok (.bool false) H := by
  rw [← evT_bind]; rfl
noncomputable abbrev ABRel : Mu → Heap → AV → Bool → Prop := fun _ _ a b => a = .bool b
theorem tests_snd : ∀ (es : List E), STs C P F call N es → ∀ μ H s l, Inv C μ H s.heap → FR C F μ l s.heap → WE C F NoX ABRel (forIn (pys es) true (testing F.env)) (evIfs P call N (sts C.gt es) l H) μ s
  | [], _, μ, H, s, l, I, R => fun hb Q E Po => wpAny_pure (Po μ (.bool true) H true s rfl .refl I rfl)
  | e :: r, h, μ, H, s, l, I, R => by
    rw [ifs_eq]
    intro hb Q E Po
    show wpAny _ _ (forIn (py e :: pys r) true (testing F.env)) Q E s
    rw [List.forIn_cons]
    refine wpAny_bind (wpAny_bind (WE.bind (h e List.mem_cons_self μ H s l I R) hb Po fun μ₁ a H₁ v s₁ e1 S1 I1 V1 hb1 Po1 => ?_))
    obtain rfl : a = v := V1
    refine wpAny_pure ?_
    cases a
    · exact tests_false _ (Po1 μ₁ (.bool false) H₁ false s₁ rfl .refl I1 rfl)
    · exact tests_snd r (fun e he => h e (List.mem_cons_of_mem _ he)) μ₁ H₁ s₁ l I1 (R.step0 S1) hb1 Q E Po1

/-- an object of one's own from now on -/
theorem Inv.adopt {h : Heap} {p : Addr × Addr} {o0 : AObj} (I : Inv C μ H h) (h1 : ¬ Own μ p.1) (h2 : ¬ Own μ p.2) (b1 : C.base.get? p.1 = none) (b2 : C.base.get? p.2 = none)
    (V : ∀ a v, VR C μ h a v → VR C (μ ++ [p]) h a v) (ho : OR C (μ ++ [p]) h o0 p) : Inv C (μ ++ [p]) (H ++ [o0]) h := by
  have fr : ∀ {j : Nat} {q : Addr × Addr}, μ[j]? = some q → q.1 ≠ p.1 ∧ q.1 ≠ p.2 ∧ q.2 ≠ p.1 ∧ q.2 ≠ p.2 := fun {j q} hq => by
    obtain ⟨a, b⟩ := own_lt hq
    refine ⟨?_, ?_, ?_, ?_⟩ <;> intro e
    · rw [e] at a; exact h1 a
    · rw [e] at a; exact h2 a
    · rw [e] at b; exact h1 b
    · rw [e] at b; exact h2 b
  refine ⟨I.stays, by simp [I.len], fun i o q hi hq => ?_, fun i j q r hq hr hij => ?_, fun q hq => ?_⟩
  · rcases Nat.lt_or_ge i μ.length with hlt | hge
    · rw [List.getElem?_append_left hlt] at hq
      rw [List.getElem?_append_left (I.len ▸ hlt)] at hi
      exact (I.objs i o q hi hq).move rfl rfl V fun a v => VRs.of V a
    · rw [List.getElem?_append_right hge] at hq
      rw [List.getElem?_append_right (I.len ▸ hge)] at hi
      rw [← I.len] at hi
      cases hk : i - μ.length with
      | zero =>
        rw [hk] at hq hi
        cases hq; cases hi; exact ho
      | succ k => rw [hk] at hq; simp at hq
  · rcases Nat.lt_or_ge i μ.length with hi | hi <;> rcases Nat.lt_or_ge j μ.length with hj | hj
    · rw [List.getElem?_append_left hi] at hq
      rw [List.getElem?_append_left hj] at hr
      exact I.sep i j q r hq hr hij
    · rw [List.getElem?_append_left hi] at hq
      rw [List.getElem?_append_right hj] at hr
      cases hk : j - μ.length with
      | zero => rw [hk] at hr; cases hr; exact fr hq
      | succ k => rw [hk] at hr; simp at hr
    · rw [List.getElem?_append_right hi] at hq
      rw [List.getElem?_append_left hj] at hr
      cases hk : i - μ.length with
      | zero => rw [hk] at hq; cases hq; obtain ⟨a, b, c, d⟩ := fr hr; exact ⟨a.symm, c.symm, b.symm, d.symm⟩
      | succ k => rw [hk] at hq; simp at hq
    · rw [List.getElem?_append_right hi] at hq
      rw [List.getElem?_append_right hj] at hr
      cases hk : i - μ.length with
      | zero => cases hk' : j - μ.length with
        | zero => omega
        | succ k => rw [hk'] at hr; simp at hr
      | succ k => rw [hk] at hq; simp at hq
  · rcases List.mem_append.mp hq with hq | hq
    · exact I.new q hq
    · cases List.mem_singleton.mp hq; exact ⟨b1, b2⟩

/-! the block of a comprehension -/
noncomputable abbrev Fc (F : Fm) (sc : Scope) (slots : List Str) (c : Addr) : Fm := ⟨compEnv sc c F.env, slots, F.fr, F.A⟩
structure ScOk (sc : Scope) (slots : List Str) : Prop where
  free : ∀ x ∈ sc.names, x.2 ≠ .free
  cell : ∀ x ∈ sc.names, x.2 ≠ .cell
  kind : sc.kind = .function
  names : ∀ x ∈ sc.names, x.2 = .local → sc.names.lookup x.1 = some .local
  nodup : slots.Nodup
theorem FS.comp (S : FS F d) {sc : Scope} {slots : List Str} (K : ScOk sc slots) (c : Addr) : FS (Fc F sc slots c) d :=
  ⟨S.handled, S.frames, S.depth, S.units, K.kind, S.glob, S.blt, K.nodup⟩
theorem comp_eq {tg : AV → Loc → Option Loc} {ifs elt : Loc → AH → Out AV} {n : Nat} {i : It} {acc : List AV} {r : Option (AV × It)} (e : stepIt H i = some r) : compGo tg ifs elt (n + 1) i l H acc = match (generalizing := false) r with
    | none => .ok acc H
    | some p => match tg p.1 l with
      | none => .bad
      | some l' => compIn (compGo tg ifs elt n p.2) ifs elt l' H acc := by
  show (match stepIt H i with
    | none => (.bad : Out (List AV))
    | some none => .ok acc H
    | some (some (v, it')) => match tg v l with
      | none => .bad
      | some l' => compIn (compGo tg ifs elt n it') ifs elt l' H acc) = _
  rw [e]
  cases r <;> rfl
theorem comp_none {tg : AV → Loc → Option Loc} {ifs elt : Loc → AH → Out AV} {n : Nat} {i : It} {acc : List AV} (e : stepIt H i = none) : compGo tg ifs elt (n + 1) i l H acc = .bad := by
  show (match stepIt H i with
    | none => (.bad : Out (List AV))
    | some none => .ok acc H
    | some (some (v, it')) => match tg v l with
      | none => .bad
      | some l' => compIn (compGo tg ifs elt n it') ifs elt l' H acc) = _
  rw [e]
/-- the loop under way; D: the list that grows -/
inductive CI (C : Cx) (F : Fm) (J : Mu → Heap → It → Prop) (go : Nat → It → Loc → AH → List AV → Out (List AV)) (D : Addr) (μ₀ : Mu) (s₀ : Shared) (r0 : Out (List AV)) (n : Nat) (s : Shared) : Prop
  | mk (μ : Mu) (l : Loc) (H : AH) (i : It) (xs : List AV) (vs : Array Value) (k : Nat) (S : Step NoX μ₀ s₀ μ s) (I : Inv C μ H s.heap) (R : FR C F μ l s.heap) (hJ : J μ s.heap i) (ho : ¬ Own μ D) (hL : IsL s.heap D vs k) (hV : VRs C μ s.heap xs vs.toList) (hl : xs.length ≤ big) (e : go n i l H xs = r0) : CI C F J go D μ₀ s₀ r0 n s
/-- the list made -/
inductive CD (C : Cx) (F : Fm) (D : Addr) (μ₀ : Mu) (s₀ : Shared) (r0 : Out (List AV)) (s : Shared) : Prop
  | mk (μ : Mu) (l : Loc) (H : AH) (xs : List AV) (vs : Array Value) (k : Nat) (S : Step NoX μ₀ s₀ μ s) (I : Inv C μ H s.heap) (R : FR C F μ l s.heap) (ho : ¬ Own μ D) (hL : IsL s.heap D vs k) (hV : VRs C μ s.heap xs vs.toList) (hl : xs.length ≤ big) (e : r0 = .ok xs H) : CD C F D μ₀ s₀ r0 s
theorem comp_loop {wr : List Addr} {itv : Value} {J : Mu → Heap → It → Prop} {tg : T} {elt : E} {ifs : List E} {it : Expr} {sc : Scope} {p : Pos} {D : Addr} {μ₀ : Mu} {s₀ : Shared} {r0 : Out (List AV)} {RR : Result → Shared → Prop}
    (X : Src C F wr (pyT tg) itv J) (ht : TT C P F call N tg) (hifs : STs C P F call N ifs) (helt : SE C P F call N elt)
    (I0 : Inv C μ₀ H s₀.heap) (hwr : ∀ b ∈ wr, s₀.heap.get? b = none) (hD : s₀.heap.get? D = none) (hDw : D ∉ wr) (hF : s₀.heap.get? F.env.locals = none) (hFw : F.env.locals ∉ wr) (hDF : D ≠ F.env.locals) (hb : r0 ≠ .bad)
    (fin : ∀ s, CD C F D μ₀ s₀ r0 s → RR (.ok .next) s) (n : Nat)
    (h : CI C F J (compGo (tgV (stT C.gt tg)) (fun l H => evIfs P call N (sts C.gt ifs) l H) (fun l H => evE P call N (st C.gt elt) l H)) D μ₀ s₀ r0 n s) :
    codeAny (model C.prog C.w) F.A (.compLoop (.ListComp (py elt) [⟨pyT tg, it, pys ifs, 0⟩] sc p) 0 itv (.ref D) F.env) RR s := by
  have hwb : ∀ b ∈ wr, C.base.get? b = none := fun b q => base_none I0 (hwr b q)
  have hLw : ∀ b ∈ wr, ¬ LX F b := fun b hb q => hFw (q ▸ hb)
  refine codeAny_loop rfl (CI C F J (compGo (tgV (stT C.gt tg)) (fun l H => evIfs P call N (sts C.gt ifs) l H) (fun l H => evE P call N (st C.gt elt) l H)) D μ₀ s₀ r0) (fun n s' hI => ?_) n h
  refine wpAny_noted ?_
  rw [compTurn_list]
  refine wpAny_bind (wpAny_standAt (wpAny_bind ?_))
  obtain ⟨μ₃, l₃, H₃, i₃, xs, vs, k, S3, I3, R3, hJ, ho3, hL3, hV3, hlen, hr3⟩ := hI
  cases n with
  | zero => exact absurd hr3.symm hb
  | succ n =>
    cases hst : stepIt H₃ i₃ with
    | none => exact absurd (hr3.symm.trans (comp_none hst)) hb
    | some r =>
      rw [comp_eq hst] at hr3
      refine X.next μ₃ H₃ s' i₃ r I3 hJ hst _ _ _ _ (fun v s₁ h => wpAny_bind h) (fun hr h' tk hx => ?_) fun a i' hr v h' tk hx hJ' V' => ?_
      · subst hr
        obtain ⟨S4, I4, R4⟩ := ext_many I3 R3 S3 hwr hwb (X.ho hJ) (X.pl hJ) hFw hx tk
        exact wpAny_pure (fin _ (.mk μ₃ l₃ H₃ xs vs k S4 I4 R4 ho3 (hx D _ hDw hL3) (VRs.of (VR.ext (X.pl hJ) hx) _ hV3) hlen hr3.symm))
      · subst hr
        obtain ⟨S4, I4, R4⟩ := ext_many I3 R3 S3 hwr hwb (X.ho hJ) (X.pl hJ) hFw hx tk
        have hL4 : IsL h' D vs k := hx D _ hDw hL3
        have hV4 := VRs.of (VR.ext (X.pl hJ) hx) _ hV3
        dsimp only at hr3
        cases htg : tgV (stT C.gt tg) a l₃ with
        | none => rw [htg] at hr3; exact absurd hr3.symm hb
        | some l₄ =>
          rw [htg] at hr3
          refine wpAny_bind (ht.tg (s := { s' with heap := h', toks := tk }) I4 R4 V' htg fun μ₆ s₆ S6 I6 R6 => ?_)
          have S36 := S4.trans S6 fun a q => .inr (by rw [show a = F.env.locals from q]; exact hF)
          have hJ6 := X.step (s := { s' with heap := h', toks := tk }) hJ' S6 hLw
          have hL6 : IsL s₆.heap D vs k := S6.exact hL4 ho3 hDF (by simp)
          have ho6 := S6.notOwn ho3 hL4
          have hV6 := VRs.step S6 R4.plain _ hV4
          have hr6 : compIn (compGo (tgV (stT C.gt tg)) (fun l H => evIfs P call N (sts C.gt ifs) l H) (fun l H => evE P call N (st C.gt elt) l H) n i') (fun l H => evIfs P call N (sts C.gt ifs) l H) (fun l H => evE P call N (st C.gt elt) l H) l₄ H₃ xs = r0 := hr3
          unfold compIn at hr6
          dsimp only at hr6
          refine wpAny_bind (tests_snd ifs hifs μ₆ H₃ s₆ l₄ I6 R6 (fun q => hb (by rw [← hr6, q])) _ _ fun μ₇ a₇ H₇ ok s₇ e7 S7 I7 V7 => ?_)
          obtain rfl : a₇ = .bool ok := V7
          rw [e7] at hr6
          have hJ7 := X.step hJ6 S7 fun _ _ => id
          have hL7 : IsL s₇.heap D vs k := S7.exact hL6 ho6 id (by simp)
          have ho7 := S7.notOwn ho6 hL6
          have R7 := R6.step0 S7
          have hV7 := hV6.step0 S7
          have S37 := S36.trans0 S7
          cases ok with
          | false =>
            exact wpAny_pure ⟨rfl, ⟨n, Nat.lt_succ_self n, .mk μ₇ l₄ H₇ i' xs vs k S37 I7 R7 hJ7 ho7 hL7 hV7 hlen hr6⟩⟩
          | true =>
            dsimp only at hr6
            refine wpAny_bind (wpAny_bind (helt μ₇ H₇ s₇ l₄ I7 R7 (fun q => hb (by rw [← hr6, q])) _ _ fun μ₈ a₈ H₈ y s₈ e8 S8 I8 V8 => ?_))
            rw [e8] at hr6
            dsimp only at hr6
            by_cases hlt : xs.length < big
            · rw [if_pos hlt] at hr6
              have hJ8 := X.step hJ7 S8 fun _ _ => id
              have hL8 : IsL s₈.heap D vs k := S8.exact hL7 ho7 id (by simp)
              have ho8 := S8.notOwn ho7 hL7
              have hV8 := hV7.step0 S8
              have hzz := hV8.len
              simp only [Array.length_toList] at hzz
              refine wpAny_bind (call_meets PySem.F.slot_list_append hL8.isList.typeIs PySem.F.entry_list_append (PySem.F.args_list_append_2 _ _) (list_append D vs k y (by rw [big_eq, ← hzz]; exact Nat.le_of_lt hlt)) ⟨hL8, ?_⟩)
              obtain ⟨k', hL9⟩ := isL_map hL8 (fun xs => xs.push y)
              have hx9 : ExtN [D] s₈.heap (s₈.heap.update D (Obj.mapSeq fun xs => xs.push y)) := fun b o q => (Heap.SameBut.update _ _ _).extBut b o fun z => q (List.mem_singleton.mpr z)
              have pl9 : ∀ b ∈ [D], ∃ o, s₈.heap.get? b = some o ∧ Plainly o := one ⟨_, hL8, .inr (by simp)⟩
              have V9 := VR.ext (C := C) (μ := μ₈) pl9 hx9
              obtain ⟨S9, I9, R9⟩ := ext_many (wr := [D]) I8 (R7.step0 S8) (S37.trans0 S8) (one hD) (one (base_none I0 hD)) (one ho8) pl9 (fun q => hDF (List.mem_singleton.mp q).symm) hx9 s₈.toks
              refine wpAny_pure (wpAny_pure ⟨rfl, ⟨n, Nat.lt_succ_self n, .mk μ₈ l₄ H₈ i' (xs ++ [a₈]) _ k' S9 I9 R9 (X.move _ _ _ _ _ hJ8 (fun _ _ h => h) fun b q => ⟨X.ho hJ8 b q, fun o e => hx9 b o (fun z => hDw (List.mem_singleton.mp z ▸ q)) e⟩) ho8 hL9 ?_ (by rw [List.length_append]; exact hlt) hr6⟩⟩)
              rw [Array.toList_push]
              exact (VRs.of V9 _ hV8).append (by simpa only [VRs, and_true] using V9 _ _ V8)
            · rw [if_neg hlt] at hr6; exact absurd hr6.symm hb
theorem comp_block (Sf : FS F d) {elt it : E} {tg : T} {ifs : List E} {sc : Scope} {slots : List Str} {p : Pos} (K : ScOk sc slots)
    (htg : ∀ c, TT C P (Fc F sc slots c) call N tg) (hifs : ∀ c, STs C P (Fc F sc slots c) call N ifs) (helt : ∀ c, SE C P (Fc F sc slots c) call N elt)
    {a : AV} {v : Value} {i : It} (I : Inv C μ H s.heap) (V : VR C μ s.heap a v) (hi : iterOf H a = some i) {RR : Value → Env → Result → Shared → Prop} {E : Value → Shared → Prop} {r0 : Out (List AV)}
    (hr : compGo (tgV (stT C.gt tg)) (fun l H => evIfs P call N (sts C.gt ifs) l H) (fun l H => evE P call N (st C.gt elt) l H) N i (List.replicate slots.length none) H [] = r0) (hb : r0 ≠ .bad)
    (fin : ∀ D c s', s.heap.get? D = none → s.heap.get? c = none → D ≠ c → CD C (Fc F sc slots c) D μ s r0 s' → RR (.ref D) (compEnv sc c F.env) (.ok .next) s') :
    wpAny (model C.prog C.w) F.A (pyIter v) (fun it' s₂ => wpAny (model C.prog C.w) F.A (newList []) (fun acc s₃ =>
      wpAny (model C.prog C.w) F.A (newFunctionEnv sc F.env.globals [] [] F.env.qual none .none (some F.env)) (fun cenv s₄ =>
        codeAny (model C.prog C.w) F.A (.compStart (.ListComp (py elt) [⟨pyT tg, py it, pys ifs, 0⟩] sc p) 0 it' acc { cenv with scope := sc }) (RR acc { cenv with scope := sc }) s₄) E s₃) E s₂) E s := by
  refine iter_snd I V hi fun it' s₂ S2 I2 hJ hit => ?_
  refine wpAny_newObj_type (hd := by size_fits) (wpAny_newFunctionEnv K.cell (by intro y hy; simp at hy) (fun h₁ hns hsb => ?_) K.kind)
  have hD : s₂.heap.get? s₂.heap.objs.size = none := size_none _
  have hC : s₂.heap.get? (s₂.heap.objs.size + 1) = none := by
    cases q : s₂.heap.get? (s₂.heap.objs.size + 1) with
    | none => rfl
    | some o => exact absurd (Heap.lt_size q) (Nat.not_lt.mpr (Nat.le_succ _))
  rw [Heap.size_push] at hns hsb ⊢
  have hDC : s₂.heap.objs.size ≠ s₂.heap.objs.size + 1 := Nat.ne_of_lt (Nat.lt_succ_self _)
  have hk31 : ∀ b o, (s₂.heap.push { cls := .type "list", dict := none, data := .seq ([] : List Value).toArray }).get? b = some o → h₁.get? b = some o := fun b o e => hsb.extBut b o (fun q => by
    have hl := Heap.lt_size e
    rw [Heap.size_push, q] at hl
    exact absurd hl (Nat.lt_irrefl _)) (Heap.get?_push_of_some _ e)
  have hL4 : IsL h₁ s₂.heap.objs.size #[] 0 := hk31 _ _ (Heap.get?_push_size _ rfl)
  have hk : ∀ b o, s₂.heap.get? b = some o → h₁.get? b = some o := fun b o e => hk31 b o (Heap.get?_push_of_some _ e)
  clear hk31 hsb
  generalize s₂.heap.objs.size + 1 = c at hC hDC hns ⊢
  generalize s₂.heap.objs.size = D at hD hDC hL4 ⊢
  have old : ∀ a, s₂.heap.get? a = none → s.heap.get? a = none := fun a e => by
    cases q : s.heap.get? a with
    | none => rfl
    | some o => obtain ⟨o', q'⟩ := S2.live a o q; rw [e] at q'; cases q'
  have hits : ∃ o, s₂.heap.get? it' = some o := by
    obtain ⟨_, o, e, _⟩ := (src_it (C := C) (F := F) Sf.handled tg it').live _ _ _ hJ it' (List.mem_singleton.mpr rfl)
    exact ⟨o, e⟩
  have hne : ∀ a, s₂.heap.get? a = none → a ∉ [it'] := fun a e q => by
    obtain ⟨o, e'⟩ := hits
    rw [List.mem_singleton.mp q, e'] at e; cases e
  have X := src_it (C := C) (F := Fc F sc slots c) Sf.handled tg it'
  have R4 : FR C (Fc F sc slots c) μ (List.replicate slots.length none) h₁ := by
    refine ⟨⟨_, hns, fun i x v hi hl => ?_⟩, I2.free hC, base_none I2 hC, List.length_replicate⟩
    rw [List.getElem?_replicate] at hl
    split at hl <;> cases hl
  have hJ4 : JI it' μ h₁ i := X.move μ s₂.heap i μ h₁ hJ (fun _ _ h => h) fun b q => ⟨by rw [List.mem_singleton.mp q]; exact hJ.2, fun o e => hk b o e⟩
  have loop := comp_loop (RR := RR (.ref D) (compEnv sc c F.env)) (it := py it) (sc := sc) (p := p) (s := { s₂ with heap := h₁, toks := s₂.toks + ([] : List (Str × Value)).length }) (D := D) X (htg c) (hifs c) (helt c) I (one hit) (old D hD) (hne D hD) (old c hC) (hne c hC) hDC hb (fun s h => fin D c s (old D hD) (old c hC) hDC h) N
    (.mk μ _ H i [] #[] 0 (S2.trans0 (Step.keep μ hk _)) (I2.keep hk) R4 hJ4 (I2.free hD) hL4 (by simp only [VRs]) (Nat.zero_le _) hr)
  refine codeAny_compStart_list loop ?_
  cases i with
  | list r k => obtain ⟨q, _, hq⟩ := hJ4.1; exact wpAny_pyIter_listiter hq loop
  | rng x y => obtain ⟨left, hq, _⟩ := hJ4.1; exact wpAny_pyIter_rangeiter hq loop
  | enm _ _ => exact hJ4.1.elim
end
end Mine
end -- EngV
section -- EngW
namespace Mine
open PySem PySem.W PySem.Calls PyProof.Rows

section
variable {α β γ : Type} {C : Cx} {P : P0} {F : Fm} {call : Nat → List AV → AH → Out AV} {N : Nat} {μ : Mu} {H : AH} {s : Shared} {l : Loc} {d : Nat}
theorem adopt_list {X : Addr → Prop} {μ' : Mu} {H' : AH} {s' : Shared} {D : Addr} {xs : List AV} {vs : Array Value} {n : Nat} (S : Step X μ s μ' s') (I : Inv C μ' H' s'.heap) (hD : s.heap.get? D = none) (bD : C.base.get? D = none) (ho : ¬ Own μ' D) (hL : IsL s'.heap D vs n)
    (hV : VRs C μ' s'.heap xs vs.toList) (hlen : xs.length ≤ big) : Step X μ s (μ' ++ [(D, D)]) s' ∧ Inv C (μ' ++ [(D, D)]) (H' ++ [.list xs]) s'.heap ∧ VR C (μ' ++ [(D, D)]) s'.heap (.ref H'.length) (.ref D) ∧ ∀ a v, VR C μ' s'.heap a v → VR C (μ' ++ [(D, D)]) s'.heap a v := by
  have V : ∀ a v, VR C μ' s'.heap a v → VR C (μ' ++ [(D, D)]) s'.heap a v := fun a v =>
    VR.mono (fun i p h => by rw [List.getElem?_append_left (List.getElem?_eq_some_iff.mp h).1]; exact h) (fun b o e hn hp => ⟨fun q => by
      obtain ⟨p, hp', q⟩ := q
      rcases List.mem_append.mp hp' with hp' | hp'
      · exact hn ⟨p, hp', q⟩
      · cases List.mem_singleton.mp hp'
        have : b = D := q.elim id id
        subst this
        rw [hL] at e; cases e
        exact hp (.inr (by simp)), o.slots, e, fun _ => rfl⟩) a
  refine ⟨⟨?_, fun a q => ?_, S.live, S.kept, S.gens, S.os⟩, Inv.adopt (p := (D, D)) I ho ho bD bD V (by
    simp only [OR]
    exact ⟨trivial, hlen, vs, n, hL, VRs.of V _ hV⟩), ?_, V⟩
  · obtain ⟨t, e⟩ := S.pre
    exact ⟨t ++ [(D, D)], by rw [e, List.append_assoc]⟩
  · obtain ⟨p, hp, q⟩ := q
    rcases List.mem_append.mp hp with hp | hp
    · exact S.fresh a ⟨p, hp, q⟩
    · cases List.mem_singleton.mp hp
      have : a = D := q.elim id id
      exact .inr (this ▸ hD)
  · simp only [VR]
    exact ⟨(D, D), by rw [← I.len]; simp, rfl⟩
theorem CD.off {F' : Fm} {D : Addr} {r0 : Out (List AV)} {s' : Shared} (h : CD C F' D μ s r0 s') : ∃ m, s'.heap.Ns F'.env.locals m := by
  obtain ⟨_, _, _, _, _, _, _, _, ⟨⟨m, hn, _⟩, _⟩, _⟩ := h
  exact ⟨m, hn⟩
theorem se_comp (Sf : FS F d) {elt it : E} {tg : T} {ifs : List E} {sc : Scope} {slots : List Str} {p : Pos} (K : ScOk sc slots) (hit : SE C P F call N it)
    (htg : ∀ c, TT C P (Fc F sc slots c) call N tg) (hifs : ∀ c, STs C P (Fc F sc slots c) call N ifs) (helt : ∀ c, SE C P (Fc F sc slots c) call N elt) : SE C P F call N (.comp elt tg it ifs sc slots p) := fun μ H s l I R => by
  show WE C F NoX (VRel C) _ ((evE P call N (st C.gt it) l H).bind fun v H => match iterOf H v with
    | some i => (compGo (tgV (stT C.gt tg)) (fun l H => evIfs P call N (sts C.gt ifs) l H) (fun l H => evE P call N (st C.gt elt) l H) N i (List.replicate slots.length none) H []).bind fun xs H => .ok (.ref H.length) (H ++ [.list xs])
    | none => .bad) μ s
  intro hb Q E Po
  refine wpAny_ListComp K.free K.kind K.names (WE.bind (hit μ H s l I R) hb Po fun μ₁ a H₁ v s₁ e1 S1 I1 V1 hb1 Po1 => ?_) (folded_py it F.env)
  cases hi : iterOf H₁ a with
  | none => rw [hi] at hb1; exact absurd rfl hb1
  | some i =>
    rw [hi] at Po1 hb1
    dsimp only at Po1 hb1
    refine comp_block (it := it) (p := p) (RR := fun acc cenv r s' => ∃ m, s'.heap.Ns cenv.locals m ∧ ∀ h', Heap.SameBut cenv.locals s'.heap h' → match r with
        | .ok _ => Q acc { s' with heap := h' } | .error x => wpAny (model C.prog C.w) F.A (passOn "comprehension.variables-let-go" x cenv) Q E { s' with heap := h' }) Sf K htg hifs helt I1 V1 hi rfl (fun q => hb1 (by rw [q]; rfl)) fun D c s₂ hD hC hDC h => ?_
    obtain ⟨m, hns⟩ := h.off
    obtain ⟨μ₂, l₂, H₂, xs, vs, n, S2, I2, R2, hoD, hL, hV, hlen, e2⟩ := h
    rw [e2] at Po1
    refine ⟨m, hns, fun h' hs' => ?_⟩
    obtain ⟨o, es, ep, hoC', hdC, _⟩ := id hns
    have hx : ExtN [c] s₂.heap h' := fun b o q => hs'.extBut b o fun z => q (List.mem_singleton.mpr z)
    have pl : ∀ b ∈ [c], ∃ o, s₂.heap.get? b = some o ∧ Plainly o := one ⟨o, hoC', .inl ⟨es, ep, hdC⟩⟩
    obtain ⟨S3, I3⟩ := ext_inv (wr := [c]) I2 S2 (one hC) (one R2.new) (one R2.off) pl hx s₂.toks
    obtain ⟨S4, I4, V4, _⟩ := adopt_list S3 I3 hD (base_none I1 hD) hoD (hs'.extBut D _ hDC hL) (VRs.of (VR.ext pl hx) _ hV) hlen
    exact Po1 _ _ _ _ _ rfl S4 I4 V4

/-- a comprehension stored at once -/
structure SwOk (F : Fm) (x : Str) (xp p : Pos) (sc : Scope) : Prop where
  line : xp.line = p.line
  own : (sc.names.any fun (n, k) => n == x && (k == .local || k == .cell)) = false
theorem blk (Sf : FS F d) : F.env.blockKind = .function := by
  unfold Env.blockKind
  rw [Sf.kind]; rfl
theorem swapsWith_comp (Sf : FS F d) {elt it : E} {tg : T} {ifs : List E} {sc : Scope} {slots : List Str} {p xp sp : Pos} {x : Str} (hk : F.env.scope.names.lookup x = some .local) (W : SwOk F x xp p sc) :
    swapsWith (py (.comp elt tg it ifs sc slots p)) (some (.Name x xp)) sp.line F.env = pure true := by
  have h3 : (F.env.blockKind == ScopeKind.function) = true := by rw [blk Sf]; rfl
  have h4 : (F.env.kindOf x == some NameKind.local) = true := by rw [show F.env.kindOf x = some .local from hk]; rfl
  have h5 : (xp.line == p.line) = true := by rw [W.line]; exact beq_self_eq_true _
  show (pure (F.env.blockKind == .function && F.env.kindOf x == some .local && xp.line == p.line && !(sc.names.any fun (n, k) => n == x && (k == .local || k == .cell))) : Sem Bool) = pure true
  rw [W.own, h3, h4, h5]; rfl

theorem own_app {D a : Addr} (h : Own (μ ++ [(D, D)]) a) : Own μ a ∨ a = D := by
  obtain ⟨p, hp, q⟩ := h
  rcases List.mem_append.mp hp with hp | hp
  · exact .inl ⟨p, hp, q⟩
  · cases List.mem_singleton.mp hp
    exact .inr (q.elim id id)
theorem ss_comp (Sf : FS F d) {elt it : E} {tg : T} {ifs : List E} {sc : Scope} {slots : List Str} {x : Str} {j : Nat} {p xp sp : Pos} (hj : F.slots[j]? = some x) (hk : F.env.scope.names.lookup x = some .local) (W : SwOk F x xp p sc) (K : ScOk sc slots) (hit : SE C P F call N it)
    (htg : ∀ c, TT C P (Fc F sc slots c) call N tg) (hifs : ∀ c, STs C P (Fc F sc slots c) call N ifs) (helt : ∀ c, SE C P (Fc F sc slots c) call N elt) : SS C P F call N (.asg (.name x j xp) (.comp elt tg it ifs sc slots p) sp) := fun μ H s l I R => by
  have hev : evS P call N (stS C.gt (.asg (.name x j xp) (.comp elt tg it ifs sc slots p) sp)) l H = (evE P call N (st C.gt it) l H).thenS l fun v H => match iterOf H v with
      | some i => ((compGo (tgV (stT C.gt tg)) (fun l H => evIfs P call N (sts C.gt ifs) l H) (fun l H => evE P call N (st C.gt elt) l H) N i (List.replicate slots.length none) H []).bind fun xs H => .ok (.ref H.length) (H ++ [.list xs])).thenS l fun v H => (asT P call N (.name j) v l H).so l
      | none => .bad := by
    show ((evE P call N (st C.gt it) l H).bind fun v H => match iterOf H v with
      | some i => (compGo (tgV (stT C.gt tg)) (fun l H => evIfs P call N (sts C.gt ifs) l H) (fun l H => evE P call N (st C.gt elt) l H) N i (List.replicate slots.length none) H []).bind fun xs H => .ok (AV.ref H.length) (H ++ [AObj.list xs])
      | none => .bad).thenS l _ = _
    cases evE P call N (st C.gt it) l H with
    | ok v H1 =>
      show Out.thenS (match iterOf H1 v with
        | some i => (compGo (tgV (stT C.gt tg)) (fun l H => evIfs P call N (sts C.gt ifs) l H) (fun l H => evE P call N (st C.gt elt) l H) N i (List.replicate slots.length none) H1 []).bind fun xs H => (.ok (AV.ref H.length) (H ++ [AObj.list xs]) : Out AV)
        | none => .bad) l _ = (match iterOf H1 v with
        | some i => _
        | none => .bad)
      cases iterOf H1 v <;> rfl
    | bad => rfl
  rw [hev]
  intro hb Q E Po
  show wpAny _ _ (exec (.Assign [.Name x xp] (py (.comp elt tg it ifs sc slots p)) sp) F.env) Q E s
  rw [exec_Assign_Name_used _ _ _ _ (swapsWith_comp Sf hk W)]
  refine wpAny_bind (wpAny_standAt (wpAny_bind ?_))
  show wpAny _ F.A (do let _ ← comprehension (.ListComp (py elt) [⟨pyT tg, py it, pys ifs, 0⟩] sc p) sc F.env _ (newList []) false (eval (py it) F.env) (some (assign (.Name x xp) F.env))) _ _ s
  refine wpAny_bind (wpAny_mono (wpAny_comprehension_use (Q := fun _ s' => Q .next s') rfl (folded_py it F.env) K.free K.kind K.names ?_)
    (fun _ s' hq => wpAny_pure (wpAny_pure hq)) fun _ _ e => e)
  refine WE.thenS (hit μ H s l I R) R hb Po fun μ₁ a H₁ v s₁ S1 I1 R1 V1 hb1 Po1 => ?_
  cases hi : iterOf H₁ a with
  | none => rw [hi] at hb1; exact absurd rfl hb1
  | some i =>
    rw [hi] at Po1 hb1
    dsimp only at Po1 hb1
    refine comp_block (it := it) (p := p) (RR := fun acc cenv r s' => match r with
      | .ok _ => wpAny (model C.prog C.w) F.A (assign (.Name x xp) F.env acc) (fun _ s'' => ∃ m, s''.heap.Ns cenv.locals m ∧ ∀ h', Heap.SameBut cenv.locals s''.heap h' → Q .next { s'' with heap := h' }) E s'
      | .error x => ∃ m, s'.heap.Ns cenv.locals m ∧ ∀ h', Heap.SameBut cenv.locals s'.heap h' → wpAny (model C.prog C.w) F.A (passOn "comprehension.variables-let-go" x cenv) (fun _ s' => Q .next s') E { s' with heap := h' }) Sf K htg hifs helt I1 V1 hi rfl (fun q => hb1 (by rw [q]; rfl)) fun D c s₂ hD hC hDC h => ?_
    obtain ⟨m, hns⟩ := h.off
    obtain ⟨μ₂, l₂, H₂, xs, vs, n, S2, I2, Rc, hoD, hL, hV, hlen, e2⟩ := h
    rw [e2] at hb1 Po1
    obtain ⟨oL, eL⟩ := R1.there
    have hLD : F.env.locals ≠ D := fun q => by rw [← q, eL] at hD; cases hD
    have hLC : c ≠ F.env.locals := fun q => by rw [q, eL] at hC; cases hC
    obtain ⟨S3, I3, V3, VV⟩ := adopt_list S2 I2 hD (base_none I1 hD) hoD hL hV hlen
    have R3 : FR C F (μ₂ ++ [(D, D)]) l s₂.heap := by
      obtain ⟨⟨m, hn, hv⟩, off, new, len⟩ := R1.step0 S2
      refine ⟨⟨m, hn, fun i x v hi hl => ?_⟩, fun q => (own_app q).elim off hLD, new, len⟩
      obtain ⟨rv, e, W⟩ := hv i x v hi hl
      exact ⟨rv, e, VV _ _ W⟩
    have hb2 : ((match setLoc l j (.ref H₂.length) with | some l => (.ok l (H₂ ++ [AObj.list xs]) : Out Loc) | none => .bad).so l) ≠ .bad := hb1
    have Po2 : PostS C F μ₁ s₁ ((match setLoc l j (.ref H₂.length) with | some l => (.ok l (H₂ ++ [AObj.list xs]) : Out Loc) | none => .bad).so l) Q := Po1
    cases e : setLoc l j (.ref H₂.length) with
    | none => rw [e] at hb2; exact absurd rfl hb2
    | some l' =>
      rw [e] at Po2
      refine wpAny_assign_Name (store_snd Sf hj hk I3 R3 V3 e fun s₄ S4 I4 R4 => ?_)
      obtain ⟨o, es, ep, hoC', hdC, _⟩ := id hns
      have hoC' : s₂.heap.get? c = some o := hoC'
      have hoC3 : ¬ Own (μ₂ ++ [(D, D)]) c := fun q => (own_app q).elim Rc.off (Ne.symm hDC)
      obtain ⟨sl, eC4, _⟩ := S4.kept c o hoC' hoC3 hLC
      refine ⟨m, ns_slots hns fun o2 q => ⟨sl, ?_⟩, fun h' hs' => ?_⟩
      · have q' : s₂.heap.get? c = some o2 := q
        rw [hoC'] at q'; cases q'
        exact eC4
      · obtain ⟨S5, I5, R5⟩ := ext_many (wr := [c]) I4 R4 ((lx (X := LX F) S3).trans0 S4) (one hC) (one Rc.new) (one hoC3) (one ⟨_, eC4, .inl ⟨es, ep, hdC⟩⟩) (fun q => hLC (List.mem_singleton.mp q).symm) (fun b o q => hs'.extBut b o fun z => q (List.mem_singleton.mpr z)) s₄.toks
        exact Po2 _ _ _ _ _ _ rfl S5 I5 R5 rfl
end
end Mine
end -- EngW
section -- EngY
namespace Mine
open PySem PySem.W PySem.Calls PyProof.Rows

section
variable {α β γ : Type} {C : Cx} {P : P0} {F : Fm} {call : Nat → List AV → AH → Out AV} {N : Nat} {μ : Mu} {H : AH} {s : Shared} {l : Loc} {d : Nat}
/-! two or three names stored from a display -/
noncomputable def swNames (ts : List Expr) (sc : Scope) : List Str := ts.filterMap fun
    | .Name id pos => if sc.names.lookup id == some .local && pos.line == (ts.head?.map (·.pos.line)).getD 0 then some id else none
    | _ => none
noncomputable def lenOdd (ts : List Expr) (vs : List Expr) : Bool := !(ts.length == 2 || ts.length == 3) || vs.length != ts.length
noncomputable def namesOdd (ts : List Expr) (sc : Scope) : Bool := (swNames ts sc).length != ts.length || (swNames ts sc).eraseDups.length != (swNames ts sc).length
theorem not_starred : ∀ (es : List E), ((pys es).any fun | .Starred .. => true | _ => false) = false
  | [] => rfl
  | e :: r => by
    show ((match py e with | .Starred .. => true | _ => false) || (pys r).any fun | .Starred .. => true | _ => false) = false
    rw [not_starred r, show (match py e with | .Starred .. => true | _ => false) = false from by cases e <;> rfl]
    rfl
theorem swap_none {ts : List Expr} {es : List E} {k k' : Nat} {p p' : Pos} (h : (lenOdd ts (pys es) || namesOdd ts F.env.scope || (pys es).all (foldedForSure 8)) = true) :
    swappedStores [.Tuple ts k p] (py (.tup es k' p')) F.env = pure none := by
  show swappedStores [.Tuple ts k p] (.Tuple (pys es) k' p') F.env = pure none
  unfold swappedStores
  dsimp only [bind_pure_comp, pure_bind]
  split
  · rfl
  · rename_i h1
    split
    · rfl
    · split
      · rfl
      · rename_i h3
        have h3' : ¬ namesOdd ts F.env.scope = true := h3
        split
        · rfl
        · rename_i h4
          exfalso
          have h1' : ¬ lenOdd ts (pys es) = true := fun q => h1 (by
            unfold lenOdd at q
            rw [q]; rfl)
          rcases Bool.or_eq_true _ _ ▸ h with h | h
          · rcases Bool.or_eq_true _ _ ▸ h with h | h
            · exact h1' h
            · exact h3' h
          · exact h4 h
theorem swap_some (Sf : FS F d) {ts : List Expr} {es : List E} {k k' : Nat} {p p' : Pos} (h1 : lenOdd ts (pys es) = false) (h3 : namesOdd ts F.env.scope = false) (h4 : (pys es).all (foldedForSure 8) = false) (h5 : (pys es).all (constantsAlone 8) = false) :
    swappedStores [.Tuple ts k p] (py (.tup es k' p')) F.env = pure (some (swNames ts F.env.scope)) := by
  show swappedStores [.Tuple ts k p] (.Tuple (pys es) k' p') F.env = pure _
  unfold swappedStores
  dsimp only [bind_pure_comp, pure_bind]
  have h1' : (!(ts.length == 2 || ts.length == 3) || (pys es).length != ts.length || F.env.blockKind != .function) = false := by
    unfold lenOdd at h1
    rw [h1, blk Sf]; rfl
  rw [if_neg (by rw [h1']; decide), if_neg (fun q => by
    have q' : ((pys es).any fun | .Starred .. => true | _ => false) = true := q
    rw [not_starred] at q'; cases q'), if_neg (fun q => by
    have : namesOdd ts F.env.scope = true := q
    rw [h3] at this; cases this), if_neg (by rw [h4]; decide), if_neg (by rw [h5]; decide)]
  rfl

theorem bind_store (Sf : FS F d) {x : Str} {i : Nat} {a : AV} {v : Value} {l' : Loc} {Q : Unit → Shared → Prop} {E : Value → Shared → Prop} (hi : F.slots[i]? = some x) (hk : F.env.scope.names.lookup x = some .local) (I : Inv C μ H s.heap) (R : FR C F μ l s.heap) (V : VR C μ s.heap a v)
    (e : setLoc l i a = some l') (h : ∀ s', Step (LX F) μ s μ s' → Inv C μ H s'.heap → FR C F μ l' s'.heap → Q () s') : wpAny (model C.prog C.w) F.A (bindName F.env x v) Q E s :=
  PyProof.Rows.bindName_ (store_snd Sf hi hk I R V e h)
/-- names told apart -/
structure NmOk (F : Fm) (x : Str) (i : Nat) : Prop where
  slot : F.slots[i]? = some x
  loc : F.env.scope.names.lookup x = some .local
theorem NmOk.ne {x y : Str} {i j : Nat} (a : NmOk F x i) (b : NmOk F y j) (h : x ≠ y) : i ≠ j := fun q => h (by
  have e1 := a.slot; have e2 := b.slot
  rw [q, e2] at e1; cases e1; rfl)
/-! names stored from the last to the first -/
noncomputable def nameOf : T → Option Str
  | .name x _ _ => some x
  | _ => none
noncomputable def tNames (ts : List T) : List Str := ts.filterMap nameOf
noncomputable def nmAt (sc : Scope) (slots : List Str) (x : Str) (i : Nat) : Bool := slots[i]? == some x && sc.names.lookup x == some .local
theorem nmAt_ok {x : Str} {i : Nat} (h : nmAt F.env.scope F.slots x i = true) : NmOk F x i := by
  obtain ⟨a, b⟩ := Bool.and_eq_true_iff.mp h
  exact ⟨beq_iff_eq.mp a, beq_iff_eq.mp b⟩
inductive Nms (F : Fm) : List T → Prop
  | nil : Nms F []
  | cons (x : Str) (i : Nat) (p : Pos) (ts : List T) (h : NmOk F x i) (hn : x ∉ tNames ts) (r : Nms F ts) : Nms F (.name x i p :: ts)
theorem Nms.len {ts : List T} (h : Nms F ts) : (tNames ts).length = ts.length := by
  induction h with
  | nil => rfl
  | cons x i p ts _ _ _ ih => exact congrArg (· + 1) ih
theorem tgs_set {ts : List T} (hN : Nms F ts) {x : Str} {i : Nat} {a : AV} (hx : NmOk F x i) : x ∉ tNames ts → ∀ {as : List AV} {l l' : Loc}, i < l.length → tgVs (stTs C.gt ts) as (l.set i (some a)) = some l' →
    ∃ l2, tgVs (stTs C.gt ts) as l = some l2 ∧ setLoc l2 i a = some l' := by
  induction hN with
  | nil =>
    intro hn as l l' hl e
    cases as with
    | nil => cases e; exact ⟨l, rfl, if_pos hl⟩
    | cons _ _ => cases e
  | cons y j p ts hy hn' _ ih =>
    intro hn as l l' hl e
    have hxy : x ≠ y := fun q => hn (q ▸ List.mem_cons_self)
    cases as with
    | nil => cases e
    | cons b as =>
      obtain ⟨l1, e1, e2⟩ := Option.bind_eq_some_iff.mp (show (setLoc (l.set i (some a)) j b).bind (fun l => tgVs (stTs C.gt ts) as l) = some l' from e)
      obtain ⟨h1, rfl⟩ := setLoc_some e1
      rw [List.length_set] at h1
      rw [List.set_comm _ _ (hx.ne hy hxy)] at e2
      obtain ⟨l2, q1, q2⟩ := ih (fun q => hn (List.mem_cons_of_mem _ q)) (by rw [List.length_set]; exact hl) e2
      refine ⟨l2, ?_, q2⟩
      show (setLoc l j b).bind (fun l => tgVs (stTs C.gt ts) as l) = some l2
      rw [show setLoc l j b = some (l.set j (some b)) from if_pos h1]
      exact q1
theorem rev_store (Sf : FS F d) {ts : List T} (hN : Nms F ts) : ∀ {as : List AV} {vs : List Value} {l l' : Loc} {s : Shared}, tgVs (stTs C.gt ts) as l = some l' → Inv C μ H s.heap → FR C F μ l s.heap → VRs C μ s.heap as vs →
    ∀ (gs : List (Value → Sem Unit)) (us : List Value) (Q : Unit → Shared → Prop) (E : Value → Shared → Prop), (∀ s', Step (LX F) μ s μ s' → Inv C μ H s'.heap → FR C F μ l' s'.heap → wpAny (model C.prog C.w) F.A (assignInOrder gs us) Q E s') →
    wpAny (model C.prog C.w) F.A (assignInOrder ((tNames ts).reverse.map (fun n => bindName F.env n) ++ gs) (vs.reverse ++ us)) Q E s := by
  induction hN with
  | nil =>
    intro as vs l l' s e I R V gs us Q E h
    cases as with
    | nil => cases e; rw [vrs0 V]; exact h s .refl I R
    | cons _ _ => cases e
  | cons x i p ts hx hn _ ih =>
    intro as vs l l' s e I R V gs us Q E h
    cases as with
    | nil => cases e
    | cons a as =>
      cases vs with
      | nil => simp only [VRs] at V
      | cons v vs =>
        simp only [VRs] at V
        obtain ⟨l1, e1, e2⟩ := Option.bind_eq_some_iff.mp (show (setLoc l i a).bind (fun l => tgVs (stTs C.gt ts) as l) = some l' from e)
        obtain ⟨h1, rfl⟩ := setLoc_some e1
        obtain ⟨l2, q1, q2⟩ := tgs_set (by assumption) hx hn h1 e2
        rw [show tNames (.name x i p :: ts) = x :: tNames ts from rfl, List.reverse_cons, List.map_append, List.append_assoc, List.reverse_cons, List.append_assoc]
        refine ih q1 I R V.2 _ _ Q E fun s1 S1 I1 R1 => ?_
        exact wpAny_bind (wpAny_holding (bind_store Sf hx.slot hx.loc I1 R1 (V.1.step S1 R.plain) q2 fun s2 S2 I2 R2 => h s2 (S1.trans0 S2) I2 R2))
theorem rev_store0 (Sf : FS F d) {ts : List T} (hN : Nms F ts) {as : List AV} {vs : List Value} {l' : Loc} (e : tgVs (stTs C.gt ts) as l = some l') (I : Inv C μ H s.heap) (R : FR C F μ l s.heap) (V : VRs C μ s.heap as vs)
    {Q : Unit → Shared → Prop} {E : Value → Shared → Prop} (h : ∀ s', Step (LX F) μ s μ s' → Inv C μ H s'.heap → FR C F μ l' s'.heap → Q () s') :
    wpAny (model C.prog C.w) F.A (assignInOrder ((tNames ts).reverse.map (fun n => bindName F.env n)) vs.reverse) Q E s := by
  have z := rev_store Sf hN e I R V [] [] Q E fun s' S3 I3 R3 => wpAny_pure (h s' S3 I3 R3)
  rwa [List.append_nil, List.append_nil] at z
theorem asTs_none {ts : List T} (hN : Nms F ts) : ∀ {as : List AV} {l : Loc}, tgVs (stTs C.gt ts) as l = none → asTs P call N (stTs C.gt ts) as l H = .bad := by
  induction hN with
  | nil =>
    intro as l e
    cases as with
    | nil => cases e
    | cons _ _ => rfl
  | cons x i p ts hx hn _ ih =>
    intro as l e
    cases as with
    | nil => rfl
    | cons a as =>
      have e : (setLoc l i a).bind (fun l => tgVs (stTs C.gt ts) as l) = none := e
      show Out.bind (match setLoc l i a with | some l => (.ok l H : Out Loc) | none => .bad) (fun l H => asTs P call N (stTs C.gt ts) as l H) = .bad
      cases q : setLoc l i a with
      | none => rfl
      | some l1 => rw [q] at e; exact ih e
theorem ss_swap {ts : List T} {es : List E} {k k' : Nat} {p p' sp : Pos} (Sf : FS F d) (hsw : swappedStores [pyT (.tup ts k p)] (py (.tup es k' p')) F.env = pure (some (tNames ts))) (he : SE C P F call N (.tup es k' p')) (hN : Nms F ts) : SS C P F call N (.asg (.tup ts k p) (.tup es k' p') sp) := fun μ H s l I R => by
  show WS C F _ ((evE P call N (st C.gt (.tup es k' p')) l H).thenS l fun v H => (asT P call N (.tup (stTs C.gt ts)) v l H).so l) μ s
  intro hb Q E Po
  refine PyProof.Rows.Assign_Tuple_swapped (elts := pyTs ts) (names := tNames ts) (WE.thenS (he μ H s l I R) R hb Po fun μ₁ a H₁ v s₁ S1 I1 R1 V1 hb1 Po1 => ?_) rfl hsw
  cases a <;> first | exact absurd rfl hb1 | skip
  rename_i as
  have hb2 : (Out.so (if (stTs C.gt ts).length = as.length then asTs P call N (stTs C.gt ts) as l H₁ else .bad) l) ≠ .bad := hb1
  have Po2 : PostS C F μ₁ s₁ (Out.so (if (stTs C.gt ts).length = as.length then asTs P call N (stTs C.gt ts) as l H₁ else .bad) l) Q := Po1
  by_cases hle : (stTs C.gt ts).length = as.length
  · rw [if_pos hle] at hb2 Po2
    obtain ⟨t, items, rfl, ht, hv, hl, ho⟩ := tuple_of V1
    have hz := hv.len
    simp only [Array.length_toList] at hz
    rw [stTs_len] at hle
    rw [hN.len, hle, hz]
    refine PyProof.Rows.unpackItems_tuple Sf.handled ht fun h' hx' => ?_
    have S2 : Step NoX μ₁ s₁ μ₁ { s₁ with heap := h' } := Step.keep μ₁ (fun b o e => hx' b o (Nat.ne_of_lt (Heap.lt_size e)) e) s₁.toks
    have I2 : Inv C μ₁ H₁ h' := I1.keep fun b o e => hx' b o (Nat.ne_of_lt (Heap.lt_size e)) e
    cases e : tgVs (stTs C.gt ts) as l with
    | none => rw [asTs_none hN e] at hb2; exact absurd rfl hb2
    | some l' =>
      rw [asTs_of _ _ _ _ _ e] at Po2
      exact rev_store0 (s := { s₁ with heap := h' }) Sf hN e I2 (R1.step0 S2) (VRs.step0 S2 hv) fun s' S3 I3 R3 => Po2 μ₁ _ l' H₁ _ s' rfl ((lx S2).trans0 S3) I3 R3 rfl
  · rw [if_neg hle] at hb2; exact absurd rfl hb2
end
end Mine
end -- EngY
section -- EngAA
namespace Mine
open PySem PySem.W PySem.Calls PyProof.Rows

/-! the check of a body -/
noncomputable def isNon : E → Bool
  | .non => true
  | _ => false
noncomputable def atName (nm : List Str) (a : Nat) (x : Str) : Bool := nm[a]? == some x
noncomputable def scOk (sc : Scope) (slots : List Str) : Bool :=
  (sc.names.all fun x => x.2 != .free && x.2 != .cell && (x.2 != .local || sc.names.lookup x.1 == some .local)) && sc.kind == .function && decide slots.Nodup
section
variable (nm : List Str) (gt : List (Str × AV))
mutual
noncomputable def okE (t : Bool) : E → Scope → List Str → Bool
  | .bad, _, _ => true
  | .cint _ _ _, _, _ => true
  | .cstr x _ _, _, _ => decide (x.cps.size ≤ 1000)
  | .cbool _ _ _, _, _ => true
  | .cnone _ _, _, _ => true
  | .non, _, _ => false
  | .loc x i _, sc, sl => nmAt sc sl x i && !(x == ("__debug__" : Str))
  | .glob x g _, sc, _ => ((gt[g]?).map (·.1) == some x && sc.names.lookup x == some .globalImplicit) && !(x == ("__debug__" : Str))
  | .gbad _ _, _, _ => true
  | .tup es _ _, sc, sl => okEs false es sc sl && decide (es.length ≤ 1000)
  | .list es _, sc, sl => okEs false es sc sl && decide (es.length ≤ 1000)
  | .attr o x a _, sc, sl => okE false o sc sl && (noSuper o && atName nm a x)
  | .item o i _, sc, sl => okE false o sc sl && okE false i sc sl
  | .slice o lo hi z _ _, sc, sl => (okE false o sc sl && (isNon lo || okE false lo sc sl)) && ((isNon hi || okE false hi sc sl) && (isNon z || okE false z sc sl))
  | .bin x _ y _, sc, sl => okE false x sc sl && okE false y sc sl
  | .neg x _, sc, sl => okE false x sc sl
  | .not x _, sc, sl => okE t x sc sl
  | .bop _ es _, sc, sl => !es.isEmpty && okEs t es sc sl
  | .cmp x ops rs _, sc, sl => okE false x sc sl && (okEs false rs sc sl && (ops.length == 1 && rs.length == 1))
  | .ite c a b _, sc, sl => okE true c sc sl && (okE t a sc sl && okE t b sc sl)
  | .call f args _, sc, sl => isName f && (okE false f sc sl && okEs false args sc sl)
  | .meth o x m args ap p, sc, sl => ((noSuper o && decide (args.length < 30)) && ((ap.endLine == p.line) && atName nm m x)) && (okE false o sc sl && okEs false args sc sl)
  | .comp elt tg it ifs sc' sl' _, sc, sl => (okE false it sc sl && scOk sc' sl') && (okT tg sc' sl' && (okEs true ifs sc' sl' && okE false elt sc' sl'))
  | .dict ks vs _, _, _ => ks.isEmpty && vs.isEmpty
noncomputable def okEs (t : Bool) : List E → Scope → List Str → Bool
  | [], _, _ => true
  | e :: r, sc, sl => okE t e sc sl && okEs t r sc sl
noncomputable def okT : T → Scope → List Str → Bool
  | .bad, _, _ => true
  | .name x i _, sc, sl => nmAt sc sl x i
  | .attr o x a _, sc, sl => okE false o sc sl && atName nm a x
  | .item o i _, sc, sl => okE false o sc sl && okE false i sc sl
  | .tup ts _ _, sc, sl => okTs ts sc sl
noncomputable def okTs : List T → Scope → List Str → Bool
  | [], _, _ => true
  | t :: r, sc, sl => okT t sc sl && okTs r sc sl
end
end

section
variable {α β γ : Type} {C : Cx} {P : P0} {F : Fm} {call : Nat → List AV → AH → Out AV} {N : Nat} {μ : Mu} {H : AH} {s : Shared} {l : Loc} {d : Nat}
theorem scOk_ok {sc : Scope} {sl : List Str} (h : scOk sc sl = true) : ScOk sc sl := by
  obtain ⟨a, b⟩ := Bool.and_eq_true_iff.mp h
  obtain ⟨a, c⟩ := Bool.and_eq_true_iff.mp a
  have a' : ∀ x ∈ sc.names, x.2 ≠ .free ∧ x.2 ≠ .cell ∧ (x.2 = .local → sc.names.lookup x.1 = some .local) := fun x hx => by
    have h := List.all_eq_true.mp a x hx
    obtain ⟨h, h3⟩ := Bool.and_eq_true_iff.mp h
    obtain ⟨h1, h2⟩ := Bool.and_eq_true_iff.mp h
    refine ⟨bne_iff_ne.mp h1, bne_iff_ne.mp h2, fun q => ?_⟩
    rw [q] at h3
    exact beq_iff_eq.mp h3
  exact ⟨fun x hx => (a' x hx).1, fun x hx => (a' x hx).2.1, beq_iff_eq.mp c, fun x hx => (a' x hx).2.2, of_decide_eq_true b⟩
theorem and2 {a b : Bool} (h : (a && b) = true) : a = true ∧ b = true := Bool.and_eq_true_iff.mp h
theorem not1 {a : Bool} (h : (!a) = true) : a = false := by cases a <;> first | rfl | cases h
structure Ctx (C : Cx) (P : P0) (call : Nat → List AV → AH → Out AV) (d : Nat) : Prop where
  G : CGood C P
  N : ∃ mg mb, GName C mg mb
  hc : ∀ A fs, AOk d fs A → CallOk C A call
theorem sp_ok {e : E} {b : Bool} (h : (isNon e || b) = true) (k : b = true → SE C P F call N e) : SP C P F call N e := by
  by_cases q : e = .non
  · subst q; exact so_non
  · refine so_of q (k ?_)
    cases b with
    | true => rfl
    | false => rw [Bool.or_false] at h; cases e <;> first | exact absurd rfl q | cases h
noncomputable abbrev BothE (C : Cx) (P : P0) (F : Fm) (call : Nat → List AV → AH → Out AV) (N : Nat) (t : Bool) (e : E) : Prop := if t = true then ST C P F call N e else SE C P F call N e
theorem both {e : E} {t : Bool} (h : SE C P F call N e) (he : isTrue (py e) F.env (eval (py e) F.env) = (do let v ← eval (py e) F.env; standAt (py e).pos; holding [v] (truthy v))) : BothE C P F call N t e := by
  cases t
  · exact h
  · exact st_of h he
mutual
theorem okE_ok (K : Ctx C P call d) : ∀ (t : Bool) (e : E) (F : Fm), FS F d → okE C.nm C.gt t e F.env.scope F.slots = true → BothE C P F call N t e
  | t, .bad, F, _, _ => both (se_bad rfl) rfl
  | t, .cint _ _ _, F, _, _ => both se_cint rfl
  | t, .cstr x _ _, F, _, h => both (se_cstr (of_decide_eq_true h)) rfl
  | t, .cbool _ _ _, F, _, _ => both se_cbool rfl
  | t, .cnone _ _, F, _, _ => both se_cnone rfl
  | t, .non, F, _, h => by cases h
  | t, .loc x i _, F, Sf, h => both (se_loc Sf (nmAt_ok (and2 h).1).slot (nmAt_ok (and2 h).1).loc (not1 (and2 h).2)) rfl
  | t, .glob x g _, F, Sf, h => by
    obtain ⟨mg, mb, hN⟩ := K.N
    exact both (se_glob Sf hN (beq_iff_eq.mp (and2 (and2 h).1).1) (beq_iff_eq.mp (and2 (and2 h).1).2) (not1 (and2 h).2)) rfl
  | t, .gbad _ _, F, _, _ => both (se_bad rfl) rfl
  | t, .tup es _ _, F, Sf, h => both (se_tup (okEs_ok K es F Sf (and2 h).1) (of_decide_eq_true (and2 h).2)) rfl
  | t, .list es _, F, Sf, h => both (se_list (okEs_ok K es F Sf (and2 h).1) (of_decide_eq_true (and2 h).2)) rfl
  | t, .attr o x a _, F, Sf, h => both (se_attr K.G.toGood (okE_ok K false o F Sf (and2 h).1) (and2 (and2 h).2).1 (beq_iff_eq.mp (and2 (and2 h).2).2)) rfl
  | t, .item o i _, F, Sf, h => both (se_item (okE_ok K false o F Sf (and2 h).1) (okE_ok K false i F Sf (and2 h).2)) rfl
  | t, .slice o lo hi z _ _, F, Sf, h => both (se_slice (okE_ok K false o F Sf (and2 (and2 h).1).1) (sp_ok (and2 (and2 h).1).2 fun q => okE_ok K false lo F Sf q) (sp_ok (and2 (and2 h).2).1 fun q => okE_ok K false hi F Sf q) (sp_ok (and2 (and2 h).2).2 fun q => okE_ok K false z F Sf q)) rfl
  | t, .bin x _ y _, F, Sf, h => both (se_bin (okE_ok K false x F Sf (and2 h).1) (okE_ok K false y F Sf (and2 h).2)) rfl
  | t, .neg x _, F, Sf, h => both (se_neg (okE_ok K false x F Sf h)) rfl
  | false, .not x _, F, Sf, h => se_not (okE_ok K false x F Sf h)
  | true, .not x _, F, Sf, h => st_not (okE_ok K true x F Sf h)
  | false, .bop _ es _, F, Sf, h => se_bop (okAll_ok K false es F Sf (and2 h).2)
  | true, .bop _ es _, F, Sf, h => st_bop (fun q => by rw [q] at h; cases h) (okAll_ok K true es F Sf (and2 h).2)
  | false, .cmp x [op] [e] _, F, Sf, h => se_cmp Sf (okE_ok K false x F Sf (and2 h).1) (okE_ok K false e F Sf (and2 (and2 (and2 h).2).1).1)
  | true, .cmp x [op] [e] _, F, Sf, h => st_cmp Sf (okE_ok K false x F Sf (and2 h).1) (okE_ok K false e F Sf (and2 (and2 (and2 h).2).1).1)
  | t, .cmp x [] rs _, F, Sf, h => by cases (and2 (and2 (and2 h).2).2).1
  | t, .cmp x (_ :: _ :: _) rs _, F, Sf, h => by cases (and2 (and2 (and2 h).2).2).1
  | t, .cmp x [_] [] _, F, Sf, h => by cases (and2 (and2 (and2 h).2).2).2
  | t, .cmp x [_] (_ :: _ :: _) _, F, Sf, h => by cases (and2 (and2 (and2 h).2).2).2
  | false, .ite c a b _, F, Sf, h => se_ite (okE_ok K true c F Sf (and2 h).1) (okE_ok K false a F Sf (and2 (and2 h).2).1) (okE_ok K false b F Sf (and2 (and2 h).2).2)
  | true, .ite c a b _, F, Sf, h => st_ite (okE_ok K true c F Sf (and2 h).1) (okE_ok K true a F Sf (and2 (and2 h).2).1) (okE_ok K true b F Sf (and2 (and2 h).2).2)
  | t, .call f args _, F, Sf, h => both (se_call Sf K.G K.hc (and2 h).1 (okE_ok K false f F Sf (and2 (and2 h).2).1) (okEs_ok K args F Sf (and2 (and2 h).2).2)) rfl
  | t, .meth o x m args ap p, F, Sf, h => both (se_meth Sf K.G K.hc (and2 (and2 (and2 h).1).1).1 (of_decide_eq_true (and2 (and2 (and2 h).1).1).2) (and2 (and2 (and2 h).1).2).1 (beq_iff_eq.mp (and2 (and2 (and2 h).1).2).2) (okE_ok K false o F Sf (and2 (and2 h).2).1) (okEs_ok K args F Sf (and2 (and2 h).2).2)) rfl
  | t, .comp elt tg it ifs sc' sl' _, F, Sf, h => by
    obtain ⟨h1, h2⟩ := and2 h
    obtain ⟨h1, h3⟩ := and2 h1
    obtain ⟨h4, h5⟩ := and2 h2
    have S' := fun c => Sf.comp (scOk_ok h3) c
    exact both (se_comp Sf (scOk_ok h3) (okE_ok K false it F Sf h1) (fun c => okT_ok K tg (Fc F sc' sl' c) (S' c) h4) (fun c => okAll_ok K true ifs (Fc F sc' sl' c) (S' c) (and2 h5).1) fun c => okE_ok K false elt (Fc F sc' sl' c) (S' c) (and2 h5).2) rfl
  | t, .dict [] [] _, F, Sf, h => both se_dict0 rfl
  | t, .dict (_ :: _) _ _, F, Sf, h => by cases h
  | t, .dict [] (_ :: _) _, F, Sf, h => by cases h
theorem okAll_ok (K : Ctx C P call d) : ∀ (t : Bool) (es : List E) (F : Fm), FS F d → okEs C.nm C.gt t es F.env.scope F.slots = true → ∀ e ∈ es, BothE C P F call N t e
  | t, [], F, _, _, e, he => by cases he
  | t, x :: r, F, Sf, h, e, he => by
    have h1 := okE_ok K t x F Sf (and2 h).1
    have h2 := okAll_ok K t r F Sf (and2 h).2
    exact (List.mem_cons.mp he).elim (fun q => q ▸ h1) (h2 e)
theorem okEs_ok (K : Ctx C P call d) : ∀ (es : List E) (F : Fm), FS F d → okEs C.nm C.gt false es F.env.scope F.slots = true → SEs C P F call N es
  | [], F, _, _ => ses_nil
  | x :: r, F, Sf, h => ses_cons (okE_ok K false x F Sf (and2 h).1) (okEs_ok K r F Sf (and2 h).2)
theorem okT_ok (K : Ctx C P call d) : ∀ (t : T) (F : Fm), FS F d → okT C.nm C.gt t F.env.scope F.slots = true → TT C P F call N t
  | .bad, F, _, _ => fun μ H s l a v I R V hb => absurd rfl hb
  | .name x i _, F, Sf, h => tt_name Sf (nmAt_ok h).slot (nmAt_ok h).loc
  | .attr o x a _, F, Sf, h => tt_attr K.G (okE_ok K false o F Sf (and2 h).1) (beq_iff_eq.mp (and2 h).2)
  | .item o i _, F, Sf, h => tt_item (okE_ok K false o F Sf (and2 h).1) (okE_ok K false i F Sf (and2 h).2)
  | .tup ts _ _, F, Sf, h => tt_tup Sf (okTs_ok K ts F Sf h)
theorem okTs_ok (K : Ctx C P call d) : ∀ (ts : List T) (F : Fm), FS F d → okTs C.nm C.gt ts F.env.scope F.slots = true → TTs C P F call N ts
  | [], F, _, _ => tts_nil
  | t :: r, F, Sf, h => tts_cons (okT_ok K t F Sf (and2 h).1) (okTs_ok K r F Sf (and2 h).2)
end
end
end Mine
end -- EngAA
section -- EngAB
namespace Mine
open PySem PySem.W PySem.Calls PyProof.Rows

/-! the check of statements -/
noncomputable def isTup : E → Bool
  | .tup .. => true
  | _ => false
noncomputable def isTupT : T → Bool
  | .tup .. => true
  | _ => false
noncomputable def nmTs : List T → Scope → List Str → Bool
  | [], _, _ => true
  | .name x i _ :: r, sc, sl => nmAt sc sl x i && (!((tNames r).contains x) && nmTs r sc sl)
  | _ :: _, _, _ => false
noncomputable def swapOk (ts : List T) (es : List E) (sc : Scope) (sl : List Str) : Bool :=
  (lenOdd (pyTs ts) (pys es) || namesOdd (pyTs ts) sc || (pys es).all (foldedForSure 8)) ||
  (!(pys es).all (constantsAlone 8) && (nmTs ts sc sl && swNames (pyTs ts) sc == tNames ts))
section
variable (nm : List Str) (gt : List (Str × AV))
noncomputable def isEnum (x : Str) (v : AV) : Bool := match v with
  | .bi b => decide (b = .enum) && x == ("enumerate" : Str)
  | _ => false
noncomputable def enIx : Nat := (idx "enumerate" (gt.map (·.1)) 0).getD 0
noncomputable def okAsg (t : T) (e : E) (sc : Scope) (sl : List Str) : Bool := match e with
  | .comp elt tg it ifs sc' sl' p => (match t with
    | .name x j xp => ((nmAt sc sl x j && xp.line == p.line) && !(sc'.names.any fun (n, k) => n == x && (k == .local || k == .cell))) && okE nm gt false (.comp elt tg it ifs sc' sl' p) sc sl
    | _ => false)
  | .tup es k' p' => (match t with
    | .tup ts k p => okE nm gt false (.tup es k' p') sc sl && (okTs nm gt ts sc sl && swapOk ts es sc sl)
    | t => okE nm gt false (.tup es k' p') sc sl && okT nm gt t sc sl)
  | e => (notComp e && !isTup e) && (okE nm gt false e sc sl && okT nm gt t sc sl)
mutual
noncomputable def okS : S → Scope → List Str → Bool
  | .bad _, _, _ => true
  | .expr e _, sc, sl => notComp e && okE nm gt false e sc sl
  | .asg t e _, sc, sl => okAsg nm gt t e sc sl
  | .augN x i _ _ e _, sc, sl => nmAt sc sl x i && okE nm gt false e sc sl
  | .augA o x a _ _ e _, sc, sl => atName nm a x && (okE nm gt false o sc sl && okE nm gt false e sc sl)
  | .ret e _, sc, sl => okE nm gt false e sc sl
  | .ite c a b _, sc, sl => okE nm gt true c sc sl && (okSs a sc sl && okSs b sc sl)
  | .while_ c b _, sc, sl => okE nm gt true c sc sl && okSs b sc sl
  | .for_ t it b _, sc, sl => okT nm gt t sc sl && (okE nm gt false it sc sl && okSs b sc sl)
  | .forE t np a _ b _, sc, sl => ((isTupT t && okT nm gt t sc sl) && ((gt[enIx gt]?).any (fun p => isEnum p.1 p.2) && okE nm gt false (.glob "enumerate" (enIx gt) np) sc sl)) && (okE nm gt false a sc sl && okSs b sc sl)
  | .cont _, _, _ => true
noncomputable def okSs : List S → Scope → List Str → Bool
  | [], _, _ => true
  | x :: r, sc, sl => okS x sc sl && okSs r sc sl
end
end

section
variable {α β γ : Type} {C : Cx} {P : P0} {F : Fm} {call : Nat → List AV → AH → Out AV} {N : Nat} {μ : Mu} {H : AH} {s : Shared} {l : Loc} {d : Nat}
theorem sw_plain {t : T} {e : E} (h : isTup e = false) : swappedStores [pyT t] (py e) F.env = pure none := by
  cases e <;> first | (cases h; done) | skip
  all_goals cases t <;> rfl
theorem nmTs_ok : ∀ {ts : List T}, nmTs ts F.env.scope F.slots = true → Nms F ts
  | [], _ => .nil
  | .name x i p :: r, h => .cons x i p r (nmAt_ok (and2 h).1) (fun q => by
      have := not1 (and2 (and2 h).2).1
      rw [List.contains_iff_mem.mpr q] at this
      cases this) (nmTs_ok (and2 (and2 h).2).2)
  | .bad :: _, h => by cases h
  | .attr _ _ _ _ :: _, h => by cases h
  | .item _ _ _ :: _, h => by cases h
  | .tup _ _ _ :: _, h => by cases h
theorem asg_tup (K : Ctx C P call d) (Sf : FS F d) {ts : List T} {es : List E} {k k' : Nat} {pt pe p : Pos} (h1 : okE C.nm C.gt false (.tup es k' pe) F.env.scope F.slots = true) (h2 : okTs C.nm C.gt ts F.env.scope F.slots = true) (h3 : swapOk ts es F.env.scope F.slots = true) :
    SS C P F call N (.asg (.tup ts k pt) (.tup es k' pe) p) := by
  have he := okE_ok (N := N) K false (.tup es k' pe) F Sf h1
  cases h4 : (lenOdd (pyTs ts) (pys es) || namesOdd (pyTs ts) F.env.scope || (pys es).all (foldedForSure 8)) with
  | true => exact ss_asg rfl (swap_none h4) he (tt_tup Sf (okTs_ok K ts F Sf h2))
  | false =>
    unfold swapOk at h3
    rw [h4, Bool.false_or] at h3
    obtain ⟨h5, h6⟩ := and2 h3
    obtain ⟨q1, q3⟩ := Bool.or_eq_false_iff.mp h4
    obtain ⟨q1, q2⟩ := Bool.or_eq_false_iff.mp q1
    have hs := swap_some (k := k) (k' := k') (p := pt) (p' := pe) Sf q1 q2 q3 (not1 h5)
    rw [beq_iff_eq.mp (and2 h6).2] at hs
    exact ss_swap Sf hs he (nmTs_ok (and2 h6).1)
theorem asg_comp (K : Ctx C P call d) (Sf : FS F d) {x : Str} {j : Nat} {xp p sp : Pos} {elt it : E} {tg : T} {ifs : List E} {sc : Scope} {slots : List Str} (h1 : nmAt F.env.scope F.slots x j = true) (h2 : (xp.line == p.line) = true)
    (h3 : (sc.names.any fun (n, k) => n == x && (k == .local || k == .cell)) = false) (h : okE C.nm C.gt false (.comp elt tg it ifs sc slots p) F.env.scope F.slots = true) : SS C P F call N (.asg (.name x j xp) (.comp elt tg it ifs sc slots p) sp) := by
  obtain ⟨g1, g2⟩ := and2 h
  obtain ⟨g1, g3⟩ := and2 g1
  obtain ⟨g4, g5⟩ := and2 g2
  have S' := fun c => Sf.comp (scOk_ok g3) c
  exact ss_comp Sf (nmAt_ok h1).slot (nmAt_ok h1).loc ⟨beq_iff_eq.mp h2, h3⟩ (scOk_ok g3) (okE_ok K false it F Sf g1) (fun c => okT_ok K tg (Fc F sc slots c) (S' c) g4) (fun c => okAll_ok K true ifs (Fc F sc slots c) (S' c) (and2 g5).1) fun c => okE_ok K false elt (Fc F sc slots c) (S' c) (and2 g5).2
theorem okAsg_ok (K : Ctx C P call d) (Sf : FS F d) {t : T} {e : E} {p : Pos} (h : okAsg C.nm C.gt t e F.env.scope F.slots = true) : SS C P F call N (.asg t e p) := by
  have pl : ((notComp e && !isTup e) && (okE C.nm C.gt false e F.env.scope F.slots && okT C.nm C.gt t F.env.scope F.slots)) = true → SS C P F call N (.asg t e p) := fun h =>
    ss_asg (and2 (and2 h).1).1 (sw_plain (not1 (and2 (and2 h).1).2)) (okE_ok K false e F Sf (and2 (and2 h).2).1) (okT_ok K t F Sf (and2 (and2 h).2).2)
  cases e <;> first | exact pl h | skip
  · rename_i es k' pe
    have pl : (okE C.nm C.gt false (.tup es k' pe) F.env.scope F.slots && okT C.nm C.gt t F.env.scope F.slots) = true → swappedStores [pyT t] (py (.tup es k' pe)) F.env = pure none → SS C P F call N (.asg t (.tup es k' pe) p) := fun h q =>
      ss_asg rfl q (okE_ok K false _ F Sf (and2 h).1) (okT_ok K _ F Sf (and2 h).2)
    cases t with
    | tup ts k pt =>
      have h : (okE C.nm C.gt false (.tup es k' pe) F.env.scope F.slots && (okTs C.nm C.gt ts F.env.scope F.slots && swapOk ts es F.env.scope F.slots)) = true := h
      exact asg_tup K Sf (and2 h).1 (and2 (and2 h).2).1 (and2 (and2 h).2).2
    | _ => exact pl h rfl
  · rename_i elt tg it ifs sc' sl' pp
    cases t <;> first | (cases h; done) | skip
    rename_i x j xp
    have h : (((nmAt F.env.scope F.slots x j && xp.line == pp.line) && !(sc'.names.any fun (n, k) => n == x && (k == .local || k == .cell))) && okE C.nm C.gt false (.comp elt tg it ifs sc' sl' pp) F.env.scope F.slots) = true := h
    exact asg_comp K Sf (and2 (and2 (and2 h).1).1).1 (and2 (and2 (and2 h).1).1).2 (not1 (and2 (and2 h).1).2) (and2 h).2
mutual
theorem okS_ok (K : Ctx C P call d) (Sf : FS F d) : ∀ (t : S), okS C.nm C.gt t F.env.scope F.slots = true → SS C P F call N t
  | .bad _, _ => fun μ H s l I R hb => absurd rfl hb
  | .expr e _, h => ss_expr Sf (and2 h).1 (okE_ok K false e F Sf (and2 h).2)
  | .asg t e _, h => okAsg_ok K Sf h
  | .augN x i _ _ e _, h => ss_augN Sf (nmAt_ok (and2 h).1).slot (nmAt_ok (and2 h).1).loc (okE_ok K false e F Sf (and2 h).2)
  | .augA o x a _ _ e _, h => ss_augA K.G (beq_iff_eq.mp (and2 h).1) (okE_ok K false o F Sf (and2 (and2 h).2).1) (okE_ok K false e F Sf (and2 (and2 h).2).2)
  | .ret e _, h => ss_ret (okE_ok K false e F Sf h)
  | .ite c a b _, h => ss_ite (okE_ok K true c F Sf (and2 h).1) (okSs_ok K Sf a (and2 (and2 h).2).1) (okSs_ok K Sf b (and2 (and2 h).2).2)
  | .while_ c b _, h => ss_while (okE_ok K true c F Sf (and2 h).1) (okSs_ok K Sf b (and2 h).2)
  | .for_ t it b _, h => ss_for Sf (okT_ok K t F Sf (and2 h).1) (okE_ok K false it F Sf (and2 (and2 h).2).1) (okSs_ok K Sf b (and2 (and2 h).2).2)
  | .forE t np a _ b _, h => by
    have hb := okSs_ok K Sf b (and2 (and2 h).2).2
    have ha := okE_ok (N := N) K false a F Sf (and2 (and2 h).2).1
    obtain ⟨h1, h2⟩ := and2 (and2 h).1
    have ht := okT_ok (N := N) K t F Sf (and2 h1).2
    have h3 := (and2 h1).1
    have hg : C.gt[enIx C.gt]? = some (("enumerate" : Str), AV.bi .enum) := by
      have h3 := (and2 h2).1
      cases q : C.gt[enIx C.gt]? with
      | none => rw [q] at h3; cases h3
      | some y =>
        obtain ⟨x, v⟩ := y
        rw [q] at h3
        have h4 : isEnum x v = true := h3
        clear h3
        cases v <;> first | exact absurd h4 Bool.false_ne_true | skip
        rename_i b
        have h3 : (decide (b = Bi.enum) && x == ("enumerate" : Str)) = true := h4
        rw [of_decide_eq_true (and2 h3).1, beq_iff_eq.mp (and2 h3).2]
    cases t <;> first | (cases h3; done) | exact ss_forE Sf K.G ht hg (okE_ok K false _ F Sf (and2 h2).2) ha hb
  | .cont _, _ => ss_cont
theorem okSs_ok (K : Ctx C P call d) (Sf : FS F d) : ∀ (ts : List S), okSs C.nm C.gt ts F.env.scope F.slots = true → SSs C P F call N ts
  | [], _ => sss_nil
  | t :: r, h => sss_cons (okS_ok K Sf t (and2 h).1) (okSs_ok K Sf r (and2 h).2)
end
end
end Mine
end -- EngAB
section -- EngAC
namespace Mine
open PySem PySem.W PySem.Calls PyProof.Rows

structure FnOk (C : Cx) (P : P0) (k : Nat) (name qual : Str) (params : Arguments) (scope : Scope) (dV kV doc pm cdv ct oc : Value) (an od : Option Addr) (osl : Array (Option Value)) (ps more : List Str) (b : List S) : Prop where
  at_ : C.K.lookup (C.fnA k) = some ⟨oc, od, .func (fnOf name qual params (pySs b) scope dV kV doc pm an cdv ct), osl⟩
  code : codeIn C.K cdv qual = true
  bind : ∀ vs : List Value, vs.length = ps.length → bindArgs (fnOf name qual params (pySs b) scope dV kV doc pm an cdv ct) ⟨vs, []⟩ = pure (ps.zip vs)
  body : P.body k = some (ps.length, more.length, stSs C.gt b)
  ok : okSs C.nm C.gt b scope (ps ++ more) = true
  kind : scope.kind = .function
  co : scope.isCoroutine = false
  gen : scope.isGenerator = false
  cell : ∀ x ∈ scope.names, x.2 ≠ .cell
  par : ∀ x ∈ ps, scope.names.lookup x = some .local
  nodup : (ps ++ more).Nodup
noncomputable def FnsOk (C : Cx) (P : P0) : Prop := ∀ k, (P.body k).isSome = true → ∃ name qual params scope dV kV doc pm cdv ct oc an od osl ps more b, FnOk C P k name qual params scope dV kV doc pm cdv ct oc an od osl ps more b

theorem lookup_mem_none {α : Type} {x : Str} : ∀ {l : List (Str × α)}, (∀ p ∈ l, p.1 ≠ x) → l.lookup x = none
  | [], _ => rfl
  | (y, v) :: r, h => by
    rw [List.lookup_cons, show (x == y) = false from beq_eq_false_iff_ne.mpr (Ne.symm (h (y, v) List.mem_cons_self))]
    exact lookup_mem_none fun p hp => h p (List.mem_cons_of_mem _ hp)
theorem lookup_append {α : Type} {x : Str} : ∀ {l r : List (Str × α)}, (l ++ r).lookup x = (l.lookup x).or (r.lookup x)
  | [], _ => rfl
  | (y, v) :: l, r => by
    rw [List.cons_append, List.lookup_cons, List.lookup_cons]
    cases x == y
    · exact lookup_append
    · rfl
theorem lookup_rev {α : Type} {x : Str} : ∀ {ps : List Str} {vs : List α} {i : Nat} {v : α}, ps.Nodup → ps[i]? = some x → vs[i]? = some v → (ps.zip vs).reverse.lookup x = some v
  | [], _, _, _, _, h, _ => by cases h
  | _ :: _, [], _, _, _, _, h => by cases h
  | p :: ps, w :: vs, 0, v, hn, h1, h2 => by
    cases h1; cases h2
    rw [List.zip_cons_cons, List.reverse_cons, lookup_append, lookup_mem_none fun q hq e => ?_]
    · rw [List.lookup_cons, beq_self_eq_true]; rfl
    · exact (List.nodup_cons.mp hn).1 (e ▸ (List.of_mem_zip (a := q.1) (b := q.2) (List.mem_reverse.mp hq)).1)
  | p :: ps, w :: vs, i + 1, v, hn, h1, h2 => by
    rw [List.zip_cons_cons, List.reverse_cons, lookup_append, lookup_rev (i := i) (v := v) (List.nodup_cons.mp hn).2 h1 h2]
    rfl

section
variable {C : Cx} {P : P0} {N : Nat}
theorem run_eq {call : Nat → List AV → AH → Out AV} {k np ns : Nat} {b : List S0} {args : List AV} {H : AH} (h : P.body k = some (np, ns, b)) : runFn P call N k args H = if args.length = np then
      match evSs P call N b (args.map some ++ List.replicate ns none) H with
      | .ok (.ret v) _ H => .ok v H
      | .ok .next _ H => .ok .none H
      | .ok _ _ _ => .bad
      | .bad => .bad
    else .bad := by
  unfold runFn
  rw [h]
  all_goals rfl
theorem calls_ok (G : CGood C P) (hN : ∃ mg mb, GName C mg mb) (hlim : C.base.NoLimit) (hF : FnsOk C P) : ∀ d A fs, AOk d fs A → CallOk C A (callD P N d)
  | 0, A, fs, _ => fun k args vs μ H s _ _ hb => absurd rfl hb
  | d + 1, A, fs, hA => fun k args vs μ H s I V => by
    have ih := calls_ok G hN hlim hF d
    rw [show callD P N (d + 1) k args H = runFn P (callD P N d) N k args H from rfl]
    cases hbody : P.body k with
    | none => exact fun hb => absurd (by unfold runFn; rw [hbody]) hb
    | some bd =>
      obtain ⟨name, qual, params, scope, dV, kV, doc, pm, cdv, ct, oc, an, od, osl, ps, more, b, W⟩ := hF k (by rw [hbody]; rfl)
      rw [run_eq W.body]
      intro hb Q E Po
      show codeAny (model C.prog C.w) A (.call (.ref (C.fnA k)) ⟨vs, []⟩) _ s
      by_cases hlen : args.length = ps.length
      · rw [if_pos hlen] at Po hb
        have hX := I.inK G.toGood
        refine codeAny_call_def (fd := fnOf name qual params (pySs b) scope dV kV doc pm an cdv ct) (body := pySs b) (binds := ps.zip vs) (Nat.lt_trans (Nat.lt_of_le_of_lt (Nat.le_add_right _ _) hA.depth) (by decide)) (hX _ _ W.at_) rfl (hlim.keeps I.stays) (codeRec_of hX W.code) rfl
          (BindsTo.of_eq (W.bind vs (by rw [← hlen, V.len]))) W.cell (fun y hy => W.par _ (List.of_mem_zip (a := y.1) (b := y.2) hy).1) (fun h₀ hns hk => ?_) W.co W.gen W.kind
        have hLn := size_none s.heap
        generalize s.heap.objs.size = L at hns hLn ⊢
        generalize hen : callEnv (fnOf name qual params (pySs b) scope dV kV doc pm an cdv ct) L (C.fnA k) = en at hns ⊢
        have el : en.locals = L := by rw [← hen]; rfl
        have es : en.scope = scope := by rw [← hen]; rfl
        have Sf : FS ⟨en, ps ++ more, en :: fs, A.deeper en⟩ d := by
          refine ⟨hA.handled, PySem.Around.frames_deeper hA.frames, ?_, ?_, by show en.scope.kind = _; rw [es]; exact W.kind, by rw [← hen]; rfl, by rw [← hen]; rfl, W.nodup⟩
          · show A.depth + 1 + 4 * d + 2 < 990
            have := hA.depth
            omega
          · show A.units + 3 + 16 * d + 8 < 9000
            have := hA.units
            omega
        have S1 : Step NoX μ s μ { s with heap := h₀, toks := s.toks + (ps.zip vs).length } := Step.keep μ hk _
        have R1 : FR C ⟨en, ps ++ more, en :: fs, A.deeper en⟩ μ (args.map some ++ List.replicate more.length none) h₀ := by
          refine ⟨⟨_, by show h₀.Ns en.locals _; rw [el]; exact hns, fun i x v hi hl => ?_⟩, by show ¬ Own μ en.locals; rw [el]; exact I.free hLn, by show C.base.get? en.locals = none; rw [el]; exact base_none I hLn, by rw [List.length_append, List.length_map, List.length_replicate, List.length_append, hlen]⟩
          rcases Nat.lt_or_ge i args.length with q | q
          · rw [List.getElem?_append_left (by rw [List.length_map]; exact q), List.getElem?_map] at hl
            have hi : (ps ++ more)[i]? = some x := hi
            rw [List.getElem?_append_left (hlen ▸ q)] at hi
            obtain ⟨a, ha, hv⟩ := Option.map_eq_some_iff.mp hl
            cases hv
            obtain ⟨rv, e, Vv⟩ := V.get ha
            exact ⟨rv, lookup_rev (List.nodup_append.mp W.nodup).1 hi e, Vv.step0 S1⟩
          · rw [List.getElem?_append_right (by rw [List.length_map]; exact q), List.getElem?_replicate] at hl
            split at hl <;> cases hl
        have hLX : ∀ a, LX ⟨en, ps ++ more, en :: fs, A.deeper en⟩ a → NoX a ∨ s.heap.get? a = none := fun a q => .inr (by rw [show a = en.locals from q, el]; exact hLn)
        refine okSs_ok (P := P) (call := callD P N d) (N := N) (F := ⟨en, ps ++ more, en :: fs, A.deeper en⟩) ⟨G, hN, ih⟩ Sf b (by show okSs C.nm C.gt b en.scope (ps ++ more) = true; rw [es]; exact W.ok) μ H _ _ (I.keep hk) R1 (fun q => hb (by rw [q])) _ _ fun μ' fl l' H' f s' e S2 I2 R2 V2 => ?_
        rw [e] at Po hb
        cases fl with
        | next =>
          obtain rfl := V2
          exact Po μ' .none H' .none s' rfl (S1.trans S2 hLX) I2 (by simp only [VRel, VR])
        | cont => exact absurd rfl hb
        | ret a =>
          obtain ⟨v, rfl, V2⟩ := V2
          exact Po μ' a H' v s' rfl (S1.trans S2 hLX) I2 V2
      · rw [if_neg hlen] at hb; exact absurd rfl hb
end
end Mine
end -- EngAC
section -- Bod
namespace Mine
open PySem

/-- .row_of -/
noncomputable def w0c : E0 := .cmp (.call (.val (.bi .len)) [.loc 3]) [.Gt] [.val (.int 0)]
noncomputable def w0 : List S0 := [.asg (.name 4) (.meth (.loc 3) 1 []), .ite (.cmp (.item (.loc 4) (.val (.int 0))) [.Eq] [.loc 1]) [.expr (.meth (.loc 3) 2 [.list [.item (.loc 4) (.val (.int 2)), .item (.loc 4) (.val (.int 1))]])] [.expr (.meth (.loc 2) 0 [.loc 4])]]
noncomputable def b0 : List S0 := [.asg (.tup [.name 2, .name 3]) (.tup [.list [], .list [.loc 0]]), .while_ w0c w0, .ret (.loc 2)]
/-- .is_plain_text -/
noncomputable def b1 : List S0 := [.ret (.bop .And [.cmp (.item (.loc 0) (.val (.int 0))) [.Eq] [.val (.str [99, 104, 97, 114, 115])], .call (.val (.bi .isi)) [.item (.loc 0) (.val (.int 1)), .val (.bi .str)]])]
/-- .with_texts_joined -/
noncomputable def f2t : T0 := .name 2
noncomputable def f2 : List S0 := [.ite (.call (.val (.fn 1)) [.loc 2]) [.ite (.cmp (.item (.loc 2) (.val (.int 1))) [.Eq] [.val (.str [])]) [.cont] [], .ite (.bop .And [.cmp (.call (.val (.bi .len)) [.loc 1]) [.Gt] [.val (.int 0)], .call (.val (.fn 1)) [.item (.loc 1) (.bin (.call (.val (.bi .len)) [.loc 1]) .Sub (.val (.int 1)))]]) [.asg (.name 2) (.tup [.val (.str [99, 104, 97, 114, 115]), .bin (.item (.meth (.loc 1) 1 []) (.val (.int 1))) .Add (.item (.loc 2) (.val (.int 1)))])] []] [], .expr (.meth (.loc 1) 0 [.loc 2])]
noncomputable def b2 : List S0 := [.asg (.name 1) (.list []), .for_ f2t (.loc 0) f2, .ret (.loc 1)]
/-- PatternCode.__init__ -/
noncomputable def b3 : List S0 := [.asg (.attr (.loc 0) 9) (.list [])]
/-- PatternCode.emit -/
noncomputable def b4 : List S0 := [.expr (.meth (.attr (.loc 0) 9) 0 [.loc 1]), .ret (.bin (.call (.val (.bi .len)) [.attr (.loc 0) 9]) .Sub (.val (.int 1)))]
/-- PatternCode.put -/
noncomputable def w5c : E0 := .cmp (.call (.val (.bi .len)) [.loc 2]) [.Gt] [.val (.int 0)]
noncomputable def w5 : List S0 := [.asg (.tup [.name 3, .name 4]) (.meth (.loc 2) 1 []), .ite (.cmp (.loc 3) [.Eq] [.val (.str [112, 117, 116])]) [.expr (.meth (.loc 2) 2 [.slice (.meth (.loc 0) 29 [.loc 4]) (.val (.none)) (.val (.none)) (.neg (.val (.int 1)))])] [.ite (.cmp (.loc 3) [.Eq] [.val (.str [101, 109, 105, 116])]) [.expr (.meth (.loc 0) 27 [.loc 4])] [.expr (.meth (.loc 0) 32 [.loc 3, .loc 4])]]]
noncomputable def b5 : List S0 := [.asg (.name 2) (.list [.tup [.val (.str [112, 117, 116]), .loc 1]]), .while_ w5c w5]
/-- PatternCode.begun -/
noncomputable def c6 : E0 := .tup [.val (.str [112, 117, 116]), .loc 1]
noncomputable def c6t : T0 := .name 1
noncomputable def b6 : List S0 := [.asg (.name 2) (.item (.loc 1) (.val (.int 0))), .ite (.cmp (.loc 2) [.Eq] [.val (.str [99, 97, 116])]) [.ret (.comp c6 c6t (.call (.val (.fn 2)) [.call (.val (.fn 0)) [.loc 1, .val (.str [99, 97, 116])]]) []  2)] [], .ite (.cmp (.loc 2) [.Eq] [.val (.str [97, 108, 116])]) [.ret (.meth (.loc 0) 30 [.call (.val (.fn 0)) [.loc 1, .val (.str [97, 108, 116])]])] [], .ite (.cmp (.loc 2) [.Eq] [.val (.str [97, 114, 98, 110, 111])]) [.ret (.meth (.loc 0) 31 [.item (.loc 1) (.val (.int 1))])] [], .ite (.bop .Or [.cmp (.loc 2) [.Eq] [.val (.str [108, 97, 116, 101, 114])], .cmp (.loc 2) [.Eq] [.val (.str [110, 111, 119])]]) [.expr (.meth (.loc 0) 27 [.tup [.val (.str [109, 97, 114, 107])]]), .ret (.list [.tup [.val (.str [112, 117, 116]), .item (.loc 1) (.val (.int 1))], .tup [.val (.str [101, 109, 105, 116]), .tup [.ite (.cmp (.loc 2) [.Eq] [.val (.str [108, 97, 116, 101, 114])]) (.val (.str [110, 97, 109, 101])) (.val (.str [115, 101, 116])), .item (.loc 1) (.val (.int 2))]]])] [], .ite (.cmp (.loc 2) [.In] [.val (.tup [.str [99, 104, 97, 114, 115], .str [108, 101, 110], .str [112, 111, 115], .str [114, 112, 111, 115], .str [116, 97, 98], .str [114, 116, 97, 98], .str [97, 110, 121], .str [110, 111, 116, 97, 110, 121], .str [115, 112, 97, 110], .str [98, 114, 101, 97, 107], .str [114, 101, 109]])]) [.expr (.meth (.loc 0) 27 [.tup [.val (.str [111, 110, 101]), .loc 2, .ite (.cmp (.call (.val (.bi .len)) [.loc 1]) [.Gt] [.val (.int 1)]) (.item (.loc 1) (.val (.int 1))) (.val (.none))]])] [.ite (.bop .Or [.cmp (.loc 2) [.Eq] [.val (.str [97, 114, 98])], .cmp (.loc 2) [.Eq] [.val (.str [98, 97, 108])]]) [.expr (.meth (.loc 0) 27 [.tup [.val (.str [119, 97, 121, 115]), .loc 2]])] [.expr (.meth (.loc 0) 27 [.ite (.cmp (.loc 2) [.In] [.val (.tup [.str [102, 101, 110, 99, 101], .str [102, 97, 105, 108], .str [97, 98, 111, 114, 116], .str [115, 117, 99, 99, 101, 101, 100]])]) (.tup [.loc 2]) (.tup [.ite (.cmp (.loc 2) [.Eq] [.val (.str [99, 117, 114, 115, 111, 114])]) (.val (.str [112, 108, 97, 99, 101])) (.val (.str [97, 115, 107])), .item (.loc 1) (.val (.int 1))])])]], .ret (.list [])]
/-- PatternCode.choice -/
noncomputable def f7t : T0 := .name 4
noncomputable def f7 : List S0 := [.expr (.meth (.loc 2) 2 [.list [.tup [.val (.str [111, 112, 101, 110]), .loc 3], .tup [.val (.str [112, 117, 116]), .loc 4], .tup [.val (.str [115, 104, 117, 116]), .loc 3]]])]
noncomputable def b7 : List S0 := [.asg (.tup [.name 2, .name 3]) (.tup [.list [], .list [.neg (.val (.int 1)), .list []]]), .for_ f7t (.slice (.loc 1) (.val (.none)) (.bin (.call (.val (.bi .len)) [.loc 1]) .Sub (.val (.int 1))) (.val (.none))) f7, .ret (.bin (.loc 2) .Add (.list [.tup [.val (.str [112, 117, 116]), .item (.loc 1) (.bin (.call (.val (.bi .len)) [.loc 1]) .Sub (.val (.int 1)))], .tup [.val (.str [109, 101, 101, 116]), .loc 3]]))]
/-- PatternCode.repeat -/
noncomputable def b8 : List S0 := [.asg (.name 2) (.meth (.loc 0) 27 [.val (.none)]), .asg (.name 3) (.meth (.loc 0) 27 [.val (.none)]), .asg (.item (.attr (.loc 0) 9) (.loc 2)) (.tup [.val (.str [115, 112, 108, 105, 116]), .call (.val (.bi .len)) [.attr (.loc 0) 9]]), .expr (.meth (.loc 0) 27 [.tup [.val (.str [109, 97, 114, 107])]]), .ret (.list [.tup [.val (.str [112, 117, 116]), .loc 1], .tup [.val (.str [101, 109, 105, 116]), .tup [.val (.str [103, 97, 105, 110])]], .tup [.val (.str [101, 109, 105, 116]), .tup [.val (.str [106, 117, 109, 112]), .loc 2]], .tup [.val (.str [109, 101, 101, 116]), .list [.loc 2, .list [.loc 3]]]])]
/-- PatternCode.bound -/
noncomputable def f9t : T0 := .name 3
noncomputable def f9 : List S0 := [.asg (.item (.attr (.loc 0) 9) (.loc 3)) (.tup [.val (.str [106, 117, 109, 112]), .call (.val (.bi .len)) [.attr (.loc 0) 9]])]
noncomputable def b9 : List S0 := [.ite (.cmp (.loc 1) [.Eq] [.val (.str [111, 112, 101, 110])]) [.asg (.item (.loc 2) (.val (.int 0))) (.meth (.loc 0) 27 [.val (.none)])] [.ite (.cmp (.loc 1) [.Eq] [.val (.str [115, 104, 117, 116])]) [.expr (.meth (.item (.loc 2) (.val (.int 1))) 0 [.meth (.loc 0) 27 [.val (.none)]]), .asg (.item (.attr (.loc 0) 9) (.item (.loc 2) (.val (.int 0)))) (.tup [.val (.str [115, 112, 108, 105, 116]), .call (.val (.bi .len)) [.attr (.loc 0) 9]])] [.for_ f9t (.item (.loc 2) (.val (.int 1))) f9]]]
/-- .straightened -/
noncomputable def w10c : E0 := .cmp (.item (.item (.loc 0) (.loc 3)) (.val (.int 0))) [.Eq] [.val (.str [106, 117, 109, 112])]
noncomputable def w10 : List S0 := [.asg (.name 3) (.item (.item (.loc 0) (.loc 3)) (.val (.int 1)))]
noncomputable def f102t : T0 := .name 2
noncomputable def f102 : List S0 := [.ite (.cmp (.item (.loc 2) (.val (.int 0))) [.In] [.tup [.val (.str [106, 117, 109, 112]), .val (.str [115, 112, 108, 105, 116])]]) [.asg (.name 3) (.item (.loc 2) (.val (.int 1))), .while_ w10c w10, .asg (.name 2) (.tup [.item (.loc 2) (.val (.int 0)), .loc 3])] [], .expr (.meth (.loc 1) 0 [.loc 2])]
noncomputable def b10 : List S0 := [.asg (.name 1) (.list []), .for_ f102t (.loc 0) f102, .ret (.loc 1)]
/-- .compile_pattern -/
noncomputable def b11 : List S0 := [.asg (.name 1) (.call (.val (.cls 0)) []), .expr (.meth (.loc 1) 28 [.loc 0]), .expr (.meth (.loc 1) 27 [.tup [.val (.str [100, 111, 110, 101])]]), .ret (.call (.val (.fn 10)) [.attr (.loc 1) 9])]
/-- NameRef.__init__ -/
noncomputable def b12 : List S0 := [.asg (.attr (.loc 0) 24) (.loc 1), .asg (.attr (.loc 0) 25) (.loc 2), .asg (.attr (.loc 0) 26) (.loc 3)]
/-- Way.__init__ -/
noncomputable def b13 : List S0 := [.asg (.attr (.loc 0) 9) (.loc 1), .asg (.attr (.loc 0) 10) (.loc 2), .asg (.attr (.loc 0) 11) (.loc 3), .asg (.attr (.loc 0) 12) (.loc 4), .asg (.attr (.loc 0) 13) (.loc 5), .asg (.attr (.loc 0) 14) (.loc 6)]
/-- Way.copied -/
noncomputable def b14 : List S0 := [.ret (.call (.val (.cls 2)) [.attr (.loc 0) 9, .loc 1, .attr (.loc 0) 11, .attr (.loc 0) 12, .attr (.loc 0) 13, .attr (.loc 0) 14])]
/-- Match.__init__ -/
noncomputable def b15 : List S0 := [.asg (.attr (.loc 0) 15) (.loc 1), .asg (.attr (.loc 0) 16) (.loc 2), .asg (.attr (.loc 0) 17) (.list [])]
/-- Match.run -/
noncomputable def w16c : E0 := .cmp (.loc 3) [.IsNot] [.val (.none)]
noncomputable def w16 : List S0 := [.expr (.meth (.attr (.loc 0) 16) 43 []), .asg (.name 4) (.item (.attr (.loc 3) 9) (.attr (.loc 3) 10)), .ite (.bop .And [.cmp (.item (.loc 4) (.val (.int 0))) [.Eq] [.val (.str [100, 111, 110, 101])], .cmp (.attr (.loc 3) 14) [.Is] [.val (.none)]]) [.ret (.tup [.val (.int 0), .loc 3])] [], .ite (.cmp (.item (.loc 4) (.val (.int 0))) [.Eq] [.val (.str [97, 98, 111, 114, 116])]) [.ret (.tup [.val (.int 2), .val (.none)])] [], .ite (.not (.meth (.loc 0) 36 [.loc 4, .loc 3])) [.asg (.name 3) (.meth (.loc 0) 35 []), .ite (.bop .And [.cmp (.loc 3) [.IsNot] [.val (.none)], .cmp (.attr (.loc 3) 9) [.Is] [.val (.none)]]) [.ret (.tup [.val (.int 2), .val (.none)])] []] []]
noncomputable def b16 : List S0 := [.asg (.name 3) (.call (.val (.cls 2)) [.loc 1, .val (.int 0), .loc 2, .val (.none), .val (.none), .val (.none)]), .while_ w16c w16, .ret (.tup [.val (.int 1), .val (.none)])]
/-- Match.way_back -/
noncomputable def b17 : List S0 := [.ret (.ite (.cmp (.call (.val (.bi .len)) [.attr (.loc 0) 17]) [.Gt] [.val (.int 0)]) (.meth (.attr (.loc 0) 17) 1 []) (.val (.none)))]
/-- Match.done -/
noncomputable def b18 : List S0 := [.asg (.name 3) (.item (.loc 1) (.val (.int 0))), .ite (.cmp (.loc 3) [.Eq] [.val (.str [111, 110, 101])]) [.ret (.meth (.loc 0) 37 [.loc 1, .loc 2])] [], .ite (.cmp (.loc 3) [.Eq] [.val (.str [115, 112, 108, 105, 116])]) [.expr (.meth (.attr (.loc 0) 17) 0 [.meth (.loc 2) 33 [.item (.loc 1) (.val (.int 1))]])] [.ite (.cmp (.loc 3) [.Eq] [.val (.str [106, 117, 109, 112])]) [.asg (.attr (.loc 2) 10) (.item (.loc 1) (.val (.int 1))), .ret (.val (.bool true))] [.ite (.cmp (.loc 3) [.Eq] [.val (.str [109, 97, 114, 107])]) [.asg (.attr (.loc 2) 13) (.tup [.attr (.loc 2) 13, .attr (.loc 2) 11])] [.ite (.cmp (.loc 3) [.In] [.tup [.val (.str [110, 97, 109, 101]), .val (.str [115, 101, 116]), .val (.str [103, 97, 105, 110])]]) [.ite (.not (.meth (.loc 0) 38 [.loc 1, .loc 2])) [.ret (.val (.bool false))] []] [.ite (.cmp (.loc 3) [.Eq] [.val (.str [112, 108, 97, 99, 101])]) [.ite (.not (.meth (.attr (.loc 0) 16) 42 [.item (.loc 1) (.val (.int 1)), .attr (.loc 2) 11])) [.ret (.val (.bool false))] []] [.ret (.meth (.loc 0) 39 [.loc 1, .loc 2])]]]]], .augA (.loc 2) 10 .Add (.val (.int 1)), .ret (.val (.bool true))]
/-- Match.met_once -/
noncomputable def b19 : List S0 := [.asg (.name 3) (.item (.loc 1) (.val (.int 2))), .ite (.call (.val (.bi .isi)) [.loc 3, .val (.bi .tuple)]) [.asg (.name 4) (.call (.bad) [.tup [.item (.loc 1) (.val (.int 1)), .loc 3], .attr (.loc 0) 16]), .ite (.cmp (.loc 4) [.Is] [.val (.none)]) [.ret (.val (.bool false))] [], .asg (.name 3) (.item (.loc 4) (.val (.int 1)))] [], .asg (.name 5) (.call (.val (.fn 36)) [.tup [.item (.loc 1) (.val (.int 1)), .loc 3], .attr (.loc 0) 15, .attr (.loc 2) 11]), .ite (.cmp (.loc 5) [.Is] [.val (.none)]) [.ret (.val (.bool false))] [], .asg (.attr (.loc 2) 11) (.loc 5), .augA (.loc 2) 10 .Add (.val (.int 1)), .ret (.val (.bool true))]
/-- Match.ended -/
noncomputable def b20 : List S0 := [.asg (.tup [.name 3, .name 4]) (.attr (.loc 2) 13), .asg (.attr (.loc 2) 13) (.loc 3), .asg (.name 5) (.slice (.attr (.loc 0) 15) (.loc 4) (.attr (.loc 2) 11) (.val (.none))), .ite (.cmp (.item (.loc 1) (.val (.int 0))) [.Eq] [.val (.str [103, 97, 105, 110])]) [.ret (.cmp (.attr (.loc 2) 11) [.Gt] [.loc 4])] [], .ite (.cmp (.item (.loc 1) (.val (.int 0))) [.Eq] [.val (.str [115, 101, 116])]) [.ret (.meth (.attr (.loc 0) 16) 42 [.item (.loc 1) (.val (.int 1)), .loc 5])] [], .asg (.attr (.loc 2) 12) (.tup [.attr (.loc 2) 12, .tup [.item (.loc 1) (.val (.int 1)), .loc 5]]), .ret (.val (.bool true))]
/-- Match.other -/
noncomputable def b21 : List S0 := [.asg (.name 3) (.item (.loc 1) (.val (.int 0))), .ite (.cmp (.loc 3) [.Eq] [.val (.str [102, 97, 105, 108])]) [.ret (.val (.bool false))] [], .ite (.cmp (.loc 3) [.Eq] [.val (.str [119, 97, 121, 115])]) [.ret (.meth (.loc 0) 40 [.loc 2, .call (.val (.fn 37)) [.item (.loc 1) (.val (.int 1)), .attr (.loc 0) 15, .attr (.loc 2) 11, .val (.none)]])] [], .ite (.cmp (.loc 3) [.Eq] [.val (.str [97, 115, 107])]) [.ret (.meth (.loc 0) 41 [.item (.loc 1) (.val (.int 1)), .loc 2])] [], .ite (.cmp (.loc 3) [.Eq] [.val (.str [100, 111, 110, 101])]) [.asg (.tup [.attr (.loc 2) 14, .tup [.attr (.loc 2) 9, .attr (.loc 2) 10]]) (.attr (.loc 2) 14), .ret (.val (.bool true))] [], .ite (.cmp (.loc 3) [.Eq] [.val (.str [102, 101, 110, 99, 101])]) [.expr (.meth (.attr (.loc 0) 17) 0 [.call (.val (.cls 2)) [.val (.none), .val (.int 0), .val (.int 0), .val (.none), .val (.none), .val (.none)]])] [.ite (.cmp (.loc 3) [.Eq] [.val (.str [115, 117, 99, 99, 101, 101, 100])]) [.expr (.meth (.attr (.loc 0) 17) 0 [.meth (.loc 2) 33 [.attr (.loc 2) 10]])] []], .augA (.loc 2) 10 .Add (.val (.int 1)), .ret (.val (.bool true))]
/-- Match.met_often -/
noncomputable def f22t : T0 := .name 3
noncomputable def f22 : List S0 := [.asg (.name 4) (.meth (.loc 1) 33 [.attr (.loc 1) 10]), .asg (.attr (.loc 4) 11) (.loc 3), .expr (.meth (.attr (.loc 0) 17) 0 [.loc 4])]
noncomputable def b22 : List S0 := [.ite (.cmp (.call (.val (.bi .len)) [.loc 2]) [.Eq] [.val (.int 0)]) [.ret (.val (.bool false))] [], .augA (.loc 1) 10 .Add (.val (.int 1)), .for_ f22t (.slice (.loc 2) (.val (.none)) (.val (.int 0)) (.neg (.val (.int 1)))) f22, .asg (.attr (.loc 1) 11) (.item (.loc 2) (.val (.int 0))), .ret (.val (.bool true))]
/-- .named_rows -/
noncomputable def w23c : E0 := .cmp (.loc 0) [.IsNot] [.val (.none)]
noncomputable def w23 : List S0 := [.asg (.tup [.name 0, .name 2]) (.loc 0), .expr (.meth (.loc 1) 0 [.loc 2])]
noncomputable def b23 : List S0 := [.asg (.name 1) (.list []), .while_ w23c w23, .expr (.meth (.loc 1) 4 []), .ret (.loc 1)]
/-- .match_orders -/
noncomputable def f24t : T0 := .name 4
noncomputable def f24 : List S0 := [.asg (.tup [.name 5, .name 6]) (.meth (.call (.val (.cls 3)) [.loc 1, .loc 3]) 34 [.loc 0, .loc 4]), .ite (.cmp (.loc 5) [.Eq] [.val (.int 0)]) [.ret (.tup [.loc 4, .attr (.loc 6) 11, .call (.val (.fn 23)) [.attr (.loc 6) 12]])] [], .ite (.cmp (.loc 5) [.Eq] [.val (.int 2)]) [.ret (.val (.none))] []]
noncomputable def b24 : List S0 := [.for_ f24t (.call (.val (.bi .range)) [.ite (.loc 2) (.val (.int 1)) (.bin (.call (.val (.bi .len)) [.loc 1]) .Add (.val (.int 1)))]) f24, .ret (.val (.none))]
/-- PlainHost.__init__ -/
noncomputable def b25 : List S0 := [.asg (.attr (.loc 0) 18) (.loc 1), .asg (.attr (.loc 0) 19) (.loc 2), .asg (.attr (.loc 0) 20) (.loc 3), .asg (.attr (.loc 0) 21) (.val (.int 64)), .asg (.attr (.loc 0) 22) (.val (.int 0)), .asg (.attr (.loc 0) 23) (.list [])]
/-- PlainHost.assign -/
noncomputable def b26 : List S0 := [.ite (.cmp (.attr (.loc 1) 26) [.In] [.attr (.loc 0) 20]) [.ret (.val (.bool false))] [], .asg (.item (.attr (.loc 0) 18) (.attr (.loc 1) 26)) (.loc 2), .expr (.meth (.attr (.loc 0) 23) 0 [.tup [.attr (.loc 1) 26, .loc 2]]), .ret (.val (.bool true))]
/-- PlainHost.step -/
noncomputable def b27 : List S0 := [.augA (.loc 0) 22 .Add (.val (.int 1)), .ite (.cmp (.attr (.loc 0) 22) [.Gt] [.attr (.loc 0) 19]) [.bad] []]
/-- .chars_end -/
noncomputable def b28 : List S0 := [.asg (.name 3) (.bin (.loc 1) .Add (.call (.val (.bi .len)) [.loc 2])), .ret (.ite (.cmp (.slice (.loc 0) (.loc 1) (.loc 3) (.val (.none))) [.Eq] [.loc 2]) (.loc 3) (.val (.none)))]
/-- .len_end -/
noncomputable def b29 : List S0 := [.ret (.ite (.cmp (.bin (.loc 1) .Add (.loc 2)) [.LtE] [.call (.val (.bi .len)) [.loc 0]]) (.bin (.loc 1) .Add (.loc 2)) (.val (.none)))]
/-- .rpos_end -/
noncomputable def b30 : List S0 := [.ret (.ite (.cmp (.bin (.call (.val (.bi .len)) [.loc 0]) .Sub (.loc 1)) [.Eq] [.loc 2]) (.loc 1) (.val (.none)))]
/-- .any_at -/
noncomputable def b31 : List S0 := [.ret (.ite (.bop .And [.cmp (.loc 1) [.Lt] [.call (.val (.bi .len)) [.loc 0]], .cmp (.item (.loc 0) (.loc 1)) [.In] [.loc 2]]) (.bin (.loc 1) .Add (.val (.int 1))) (.val (.none)))]
/-- .arb_ends -/
noncomputable def b32 : List S0 := [.ret (.call (.val (.bi .list)) [.call (.val (.bi .range)) [.loc 1, .bin (.call (.val (.bi .len)) [.loc 0]) .Add (.val (.int 1))]])]
/-- .bal_end -/
noncomputable def w33c : E0 := .cmp (.loc 1) [.Lt] [.call (.val (.bi .len)) [.loc 0]]
noncomputable def w33 : List S0 := [.ite (.cmp (.item (.loc 0) (.loc 1)) [.Eq] [.val (.str [40])]) [.augN 2 .Add (.val (.int 1))] [.ite (.cmp (.item (.loc 0) (.loc 1)) [.Eq] [.val (.str [41])]) [.augN 2 .Sub (.val (.int 1))] []], .augN 1 .Add (.val (.int 1)), .ite (.cmp (.loc 2) [.Lt] [.val (.int 0)]) [.ret (.val (.none))] [], .ite (.cmp (.loc 2) [.Eq] [.val (.int 0)]) [.ret (.loc 1)] []]
noncomputable def b33 : List S0 := [.asg (.name 2) (.val (.int 0)), .while_ w33c w33, .ret (.val (.none))]
/-- .bal_ends -/
noncomputable def w34c : E0 := .cmp (.loc 3) [.IsNot] [.val (.none)]
noncomputable def w34 : List S0 := [.expr (.meth (.loc 2) 0 [.loc 3]), .asg (.name 3) (.call (.val (.fn 33)) [.loc 0, .loc 3])]
noncomputable def b34 : List S0 := [.asg (.tup [.name 2, .name 3]) (.tup [.list [], .call (.val (.fn 33)) [.loc 0, .loc 1]]), .while_ w34c w34, .ret (.loc 2)]
/-- .one_end -/
noncomputable def b35 : List S0 := [.ite (.cmp (.loc 0) [.Eq] [.val (.str [99, 104, 97, 114, 115])]) [.ret (.call (.val (.fn 28)) [.loc 1, .loc 2, .loc 3])] [], .ite (.cmp (.loc 0) [.Eq] [.val (.str [108, 101, 110])]) [.ret (.call (.val (.fn 29)) [.loc 1, .loc 2, .loc 3])] [], .ite (.cmp (.loc 0) [.Eq] [.val (.str [112, 111, 115])]) [.ret (.call (.bad) [.loc 2, .loc 3])] [], .ite (.cmp (.loc 0) [.Eq] [.val (.str [114, 112, 111, 115])]) [.ret (.call (.val (.fn 30)) [.loc 1, .loc 2, .loc 3])] [], .ite (.cmp (.loc 0) [.Eq] [.val (.str [116, 97, 98])]) [.ret (.call (.bad) [.loc 1, .loc 2, .loc 3])] [], .ite (.cmp (.loc 0) [.Eq] [.val (.str [114, 116, 97, 98])]) [.ret (.call (.bad) [.loc 1, .loc 2, .loc 3])] [], .ite (.cmp (.loc 0) [.Eq] [.val (.str [97, 110, 121])]) [.ret (.call (.val (.fn 31)) [.loc 1, .loc 2, .loc 3])] [], .ite (.cmp (.loc 0) [.Eq] [.val (.str [110, 111, 116, 97, 110, 121])]) [.ret (.call (.bad) [.loc 1, .loc 2, .loc 3])] [], .ite (.cmp (.loc 0) [.Eq] [.val (.str [115, 112, 97, 110])]) [.ret (.call (.bad) [.loc 1, .loc 2, .loc 3])] [], .ret (.call (.bad) [.loc 1, .loc 2, .loc 3])]
/-- .plain_end -/
noncomputable def b36 : List S0 := [.ret (.ite (.cmp (.item (.loc 0) (.val (.int 0))) [.Eq] [.val (.str [114, 101, 109])]) (.call (.bad) [.loc 1]) (.call (.val (.fn 35)) [.item (.loc 0) (.val (.int 0)), .loc 1, .loc 2, .item (.loc 0) (.val (.int 1))]))]
/-- .ends_of -/
noncomputable def b37 : List S0 := [.ite (.cmp (.loc 0) [.Eq] [.val (.str [97, 114, 98])]) [.ret (.call (.val (.fn 32)) [.loc 1, .loc 2])] [], .ite (.cmp (.loc 0) [.Eq] [.val (.str [98, 97, 108])]) [.ret (.call (.val (.fn 34)) [.loc 1, .loc 2])] [], .ite (.cmp (.loc 0) [.Eq] [.val (.str [114, 101, 109])]) [.ret (.list [.call (.bad) [.loc 1]])] [], .asg (.name 4) (.call (.val (.fn 35)) [.loc 0, .loc 1, .loc 2, .loc 3]), .ret (.ite (.cmp (.loc 4) [.Is] [.val (.none)]) (.list []) (.list [.loc 4]))]
/-- .law -/
noncomputable def cl1 : E0 := .loc 2
noncomputable def cl1t : T0 := .tup [.name 1, .name 2]
noncomputable def cl12 : E0 := .loc 1
noncomputable def cl12t : T0 := .tup [.name 1, .name 2]
noncomputable def cl13 : E0 := .loc 2
noncomputable def cl13t : T0 := .tup [.name 1, .name 2]
noncomputable def fl14t : T0 := .name 8
noncomputable def fl14 : List S0 := [.asg (.name 13) (.bin (.slice (.loc 5) (.loc 8) (.val (.none)) (.val (.none))) .Add (.slice (.loc 5) (.val (.none)) (.loc 8) (.val (.none)))), .asg (.name 14) (.call (.val (.fn 24)) [.loc 11, .loc 13, .val (.bool true), .call (.val (.cls 4)) [.dict [] [], .val (.int 99999), .list []]]), .ite (.cmp (.loc 14) [.IsNot] [.val (.none)]) [.asg (.name 15) (.comp cl13 cl13t (.item (.loc 14) (.val (.int 2))) []  3), .ite (.bop .Or [.cmp (.item (.loc 14) (.val (.int 0))) [.NotEq] [.val (.int 0)], .cmp (.item (.loc 14) (.val (.int 1))) [.NotEq] [.call (.val (.bi .len)) [.loc 5]], .cmp (.bin (.meth (.val (.str [41])) 5 [.loc 15]) .Add (.val (.str [41]))) [.NotEq] [.loc 13], .cmp (.call (.val (.bi .len)) [.loc 15]) [.NotEq] [.loc 4]]) [.ret (.val (.bool false))] [], .expr (.meth (.loc 12) 0 [.tup [.loc 8, .bin (.bin (.bin (.loc 8) .Add (.call (.val (.bi .len)) [.item (.loc 15) (.val (.int 0))])) .Add (.val (.int 1))) .Mod (.call (.val (.bi .len)) [.loc 5])]])] []]
noncomputable def fl15t : T0 := .name 6
noncomputable def fl15 : List S0 := [.asg (.name 10) (.tup [.val (.str [99, 97, 116]), .tup [.val (.str [99, 97, 116]), .loc 9, .tup [.val (.str [99, 104, 97, 114, 115]), .val (.str [41])]], .loc 10])]
noncomputable def fl16t : T0 := .tup [.name 6, .name 7]
noncomputable def fl16 : List S0 := [.asg (.name 8) (.bin (.item (.loc 2) (.bin (.val (.int 3)) .Add (.loc 6))) .Mod (.bin (.call (.val (.bi .len)) [.loc 5]) .Add (.val (.int 1)))), .asg (.name 5) (.bin (.bin (.slice (.loc 5) (.val (.none)) (.loc 8) (.val (.none))) .Add (.loc 7)) .Add (.slice (.loc 5) (.loc 8) (.val (.none)) (.val (.none))))]
noncomputable def cl17 : E0 := .call (.val (.bi .abs)) [.call (.val (.bi .int)) [.loc 1]]
noncomputable def cl17t : T0 := .name 1
noncomputable def bl1 : List S0 := [.asg (.name 1) (.list [.val (.int 2), .val (.int 1), .val (.int 1), .val (.int 0), .val (.int 1), .val (.int 1), .val (.int 3), .val (.int 4), .val (.int 5), .val (.int 5), .val (.int 0), .val (.int 0), .val (.int 0)]), .asg (.name 2) (.bin (.comp cl17 cl17t (.slice (.loc 0) (.val (.none)) (.val (.int 13)) (.val (.none))) []  2) .Add (.slice (.loc 1) (.call (.val (.bi .len)) [.slice (.loc 0) (.val (.none)) (.val (.int 13)) (.val (.none))]) (.val (.none)) (.val (.none)))), .asg (.tup [.name 3, .name 4, .name 5]) (.tup [.bin (.item (.loc 2) (.val (.int 0))) .Mod (.val (.int 4)), .bin (.val (.int 1)) .Add (.bin (.item (.loc 2) (.val (.int 1))) .Mod (.val (.int 3))), .val (.str [])]), .forE fl16t (.bin (.bin (.bin (.val (.str [40])) .Mult (.loc 3)) .Add (.bin (.val (.str [41])) .Mult (.bin (.loc 3) .Add (.loc 4)))) .Add (.bin (.val (.str [120])) .Mult (.bin (.item (.loc 2) (.val (.int 2))) .Mod (.val (.int 2))))) fl16, .asg (.name 9) (.tup [.val (.str [108, 97, 116, 101, 114]), .tup [.val (.str [97, 108, 116]), .tup [.val (.str [98, 97, 108])], .tup [.val (.str [99, 104, 97, 114, 115]), .val (.str [])]], .call (.val (.cls 1)) [.val (.str [118, 97, 114]), .val (.none), .val (.str [80])]]), .asg (.name 10) (.tup [.val (.str [114, 112, 111, 115]), .val (.int 0)]), .for_ fl15t (.call (.val (.bi .range)) [.loc 4]) fl15, .asg (.tup [.name 11, .name 12]) (.tup [.call (.val (.fn 11)) [.loc 10], .list []]), .for_ fl14t (.call (.val (.bi .range)) [.call (.val (.bi .len)) [.loc 5]]) fl14, .ret (.bop .And [.cmp (.call (.val (.bi .len)) [.loc 12]) [.Eq] [.loc 4], .cmp (.comp cl12 cl12t (.bin (.slice (.loc 12) (.val (.int 1)) (.val (.none)) (.val (.none))) .Add (.slice (.loc 12) (.val (.none)) (.val (.int 1)) (.val (.none)))) []  3) [.Eq] [.comp cl1 cl1t (.loc 12) []  3]])]
noncomputable def tab1 : List (Nat × Nat × List S0) := [(2, 3, b0), (1, 0, b1), (1, 2, b2), (1, 0, b3), (2, 0, b4), (2, 3, b5), (2, 1, b6), (2, 3, b7), (2, 2, b8), (3, 1, b9), (1, 3, b10), (1, 1, b11), (4, 0, b12), (7, 0, b13), (2, 0, b14), (3, 0, b15), (3, 2, b16), (1, 0, b17), (3, 1, b18), (3, 3, b19), (3, 3, b20), (3, 1, b21), (3, 2, b22), (1, 2, b23), (4, 3, b24), (4, 0, b25), (3, 0, b26), (1, 0, b27), (3, 1, b28), (3, 0, b29), (3, 0, b30), (3, 0, b31), (2, 0, b32), (2, 1, b33), (2, 2, b34), (4, 0, b35), (3, 0, b36), (4, 1, b37), (1, 15, bl1)]
noncomputable def fldL : List (Nat × Nat) := [(0, 9), (1, 24), (1, 25), (1, 26), (2, 9), (2, 10), (2, 11), (2, 12), (2, 13), (2, 14), (3, 15), (3, 16), (3, 17), (4, 18), (4, 19), (4, 20), (4, 21), (4, 22), (4, 23)]
noncomputable def initL : List Nat := [3, 12, 13, 15, 25]
noncomputable def methL : List (Nat × Nat × Nat) := [(0, 27, 4), (0, 28, 5), (0, 29, 6), (0, 30, 7), (0, 31, 8), (0, 32, 9), (2, 33, 14), (3, 34, 16), (3, 35, 17), (3, 36, 18), (3, 37, 19), (3, 38, 20), (3, 39, 21), (3, 40, 22), (4, 42, 26), (4, 43, 27)]
noncomputable def fldOf (c a : Nat) : Bool := fldL.any fun p => p.1 == c && p.2 == a
noncomputable def initOf (c : Nat) : Option Nat := initL[c]?
noncomputable def methOf (c m : Nat) : Option Nat := (methL.find? fun p => p.1 == c && p.2.1 == m).map (·.2.2)
noncomputable def P1 : P0 := ⟨fun k => tab1[k]?, initOf, methOf, fldOf⟩
structure Std (P : P0) : Prop where
  com : P.body = fun k => tab1[k]?
  fld : P.fld = fldOf
  init : P.init = initOf
  meth : P.meth = methOf
theorem std1 : Std P1 := ⟨rfl, rfl, rfl, rfl⟩
section
variable {P : P0} (S : Std P)
include S
theorem Std.at {k : Nat} {b : Nat × Nat × List S0} (h : tab1[k]? = some b) : P.body k = some b := by rw [S.com]; exact h
theorem Std.b0 : P.body 0 = some (2, 3, b0) := S.at rfl
theorem Std.b1 : P.body 1 = some (1, 0, b1) := S.at rfl
theorem Std.b2 : P.body 2 = some (1, 2, b2) := S.at rfl
theorem Std.b3 : P.body 3 = some (1, 0, b3) := S.at rfl
theorem Std.b4 : P.body 4 = some (2, 0, b4) := S.at rfl
theorem Std.b5 : P.body 5 = some (2, 3, b5) := S.at rfl
theorem Std.b6 : P.body 6 = some (2, 1, b6) := S.at rfl
theorem Std.b7 : P.body 7 = some (2, 3, b7) := S.at rfl
theorem Std.b8 : P.body 8 = some (2, 2, b8) := S.at rfl
theorem Std.b9 : P.body 9 = some (3, 1, b9) := S.at rfl
theorem Std.b10 : P.body 10 = some (1, 3, b10) := S.at rfl
theorem Std.b11 : P.body 11 = some (1, 1, b11) := S.at rfl
theorem Std.b12 : P.body 12 = some (4, 0, b12) := S.at rfl
theorem Std.b13 : P.body 13 = some (7, 0, b13) := S.at rfl
theorem Std.b14 : P.body 14 = some (2, 0, b14) := S.at rfl
theorem Std.b15 : P.body 15 = some (3, 0, b15) := S.at rfl
theorem Std.b16 : P.body 16 = some (3, 2, b16) := S.at rfl
theorem Std.b17 : P.body 17 = some (1, 0, b17) := S.at rfl
theorem Std.b18 : P.body 18 = some (3, 1, b18) := S.at rfl
theorem Std.b19 : P.body 19 = some (3, 3, b19) := S.at rfl
theorem Std.b20 : P.body 20 = some (3, 3, b20) := S.at rfl
theorem Std.b21 : P.body 21 = some (3, 1, b21) := S.at rfl
theorem Std.b22 : P.body 22 = some (3, 2, b22) := S.at rfl
theorem Std.b23 : P.body 23 = some (1, 2, b23) := S.at rfl
theorem Std.b24 : P.body 24 = some (4, 3, b24) := S.at rfl
theorem Std.b25 : P.body 25 = some (4, 0, b25) := S.at rfl
theorem Std.b26 : P.body 26 = some (3, 0, b26) := S.at rfl
theorem Std.b27 : P.body 27 = some (1, 0, b27) := S.at rfl
theorem Std.b28 : P.body 28 = some (3, 1, b28) := S.at rfl
theorem Std.b29 : P.body 29 = some (3, 0, b29) := S.at rfl
theorem Std.b30 : P.body 30 = some (3, 0, b30) := S.at rfl
theorem Std.b31 : P.body 31 = some (3, 0, b31) := S.at rfl
theorem Std.b32 : P.body 32 = some (2, 0, b32) := S.at rfl
theorem Std.b33 : P.body 33 = some (2, 1, b33) := S.at rfl
theorem Std.b34 : P.body 34 = some (2, 2, b34) := S.at rfl
theorem Std.b35 : P.body 35 = some (4, 0, b35) := S.at rfl
theorem Std.b36 : P.body 36 = some (3, 0, b36) := S.at rfl
theorem Std.b37 : P.body 37 = some (4, 1, b37) := S.at rfl
theorem Std.b38 : P.body 38 = some (1, 15, bl1) := S.at rfl
end
end Mine
end -- Bod
section -- Sem
namespace Mine
open PySem
/-! what a function's end gives -/
noncomputable def SO.fin : SO → Out AV
  | .ok (.ret v) _ H => .ok v H
  | .ok .next _ H => .ok .none H
  | .ok .cont _ _ => .bad
  | .bad => .bad
theorem runFn_eq {P : P0} {call : Nat → List AV → AH → Out AV} {N k np ns : Nat} {b : List S0} {args : List AV} {H : AH} (hb : P.body k = some (np, ns, b)) (hl : args.length = np) :
    runFn P call N k args H = (evSs P call N b (args.map some ++ List.replicate ns none) H).fin := by
  unfold runFn
  rw [hb]
  dsimp only
  rw [if_pos hl]
  cases evSs P call N b (args.map some ++ List.replicate ns none) H with
  | ok f l H => cases f <;> rfl
  | bad => rfl
theorem callD_eq {P : P0} {N d k np ns : Nat} {b : List S0} {args : List AV} {H : AH} (hb : P.body k = some (np, ns, b)) (hl : args.length = np) :
    callD P N (d + 1) k args H = (evSs P (callD P N d) N b (args.map some ++ List.replicate ns none) H).fin := runFn_eq hb hl

/-! the evaluator, one step at a time: what is to be done with an outcome is named -/
noncomputable def ofO (v : Option AV) (H : AH) : Out AV := match v with | some v => .ok v H | none => .bad
noncomputable def ofB (v : Option Bool) (H : AH) : Out AV := match v with | some v => .ok (.bool v) H | none => .bad
noncomputable def locK (x : Option (Option AV)) (H : AH) : Out AV := match x with | some (some v) => .ok v H | _ => .bad
section
variable (P : P0) (call : Nat → List AV → AH → Out AV) (N : Nat)
noncomputable def consK2 (v : AV) (x : Out (List AV)) : Out (List AV) := x.bind fun vs H => .ok (v :: vs) H
noncomputable def consK (r : List E0) (l : Loc) (x : Out AV) : Out (List AV) := x.bind fun v H => consK2 v (evEs P call N r l H)
noncomputable def tupK (x : Out (List AV)) : Out AV := x.bind fun vs H => .ok (.tup vs) H
noncomputable def listK (x : Out (List AV)) : Out AV := x.bind fun vs H => .ok (.ref H.length) (H ++ [.list vs])
noncomputable def attrK (a : Nat) (x : Out AV) : Out AV := x.bind fun o H => ofO (attrV P.fld H o a) H
noncomputable def itemK2 (o : AV) (x : Out AV) : Out AV := x.bind fun i H => ofO (itemV H o i) H
noncomputable def itemK (i : E0) (l : Loc) (x : Out AV) : Out AV := x.bind fun o H => itemK2 o (evE P call N i l H)
noncomputable def sliceK4 (o lo hi : AV) (x : Out AV) : Out AV := x.bind fun st H => sliceV H o lo hi st
noncomputable def sliceK3 (st : E0) (l : Loc) (o lo : AV) (x : Out AV) : Out AV := x.bind fun hi H => sliceK4 o lo hi (evE P call N st l H)
noncomputable def sliceK2 (hi st : E0) (l : Loc) (o : AV) (x : Out AV) : Out AV := x.bind fun lo H => sliceK3 P call N st l o lo (evE P call N hi l H)
noncomputable def sliceK (lo hi st : E0) (l : Loc) (x : Out AV) : Out AV := x.bind fun o H => sliceK2 P call N hi st l o (evE P call N lo l H)
noncomputable def binK2 (op : Operator) (a : AV) (x : Out AV) : Out AV := x.bind fun b H => binV H op a b
noncomputable def binK (op : Operator) (y : E0) (l : Loc) (x : Out AV) : Out AV := x.bind fun a H => binK2 op a (evE P call N y l H)
noncomputable def negK (x : Out AV) : Out AV := x.bind fun v H => match v with | .int i => .ok (.int (-i)) H | _ => .bad
noncomputable def notK (x : Out AV) : Out AV := x.bind fun v H => match truthV v with | some b => .ok (.bool (!b)) H | none => .bad
noncomputable def cmpK2 (op : CmpOp) (a : AV) (x : Out AV) : Out AV := x.bind fun b H => ofB (cmpV H op a b) H
noncomputable def cmpK (op : CmpOp) (r : E0) (l : Loc) (x : Out AV) : Out AV := x.bind fun a H => cmpK2 op a (evE P call N r l H)
noncomputable def bopK (op : BoolOp) (es : List E0) (l : Loc) (H : AH) : Out AV := bopGo op H (evFs P call N es l)
noncomputable def bopK2 (op : BoolOp) (r : List E0) (l : Loc) (x : Out AV) : Out AV := x.bind fun v H => match op, truthV v with
    | .And, some false => .ok v H
    | .Or, some true => .ok v H
    | _, some _ => bopGo op H (evFs P call N r l)
    | _, none => .bad
noncomputable def iteK (a b : E0) (l : Loc) (x : Out AV) : Out AV := x.bind fun v H => match truthV v with
    | some true => evE P call N a l H
    | some false => evE P call N b l H
    | none => .bad
noncomputable def callK2 (f : AV) (x : Out (List AV)) : Out AV := x.bind fun vs H => callV P call f vs H
noncomputable def callK (args : List E0) (l : Loc) (x : Out AV) : Out AV := x.bind fun f H => if isFn P f = true then callK2 P call f (evEs P call N args l H) else .bad
noncomputable def methK3 (hd : Hd) (o : AV) (m : Nat) (x : Out (List AV)) : Out AV := x.bind fun vs H => methV call hd o m vs H
noncomputable def methK2 (args : List E0) (l : Loc) (m : Nat) (o : AV) (H : AH) (h : Option Hd) : Out AV := match h with
    | some hd => methK3 call hd o m (evEs P call N args l H)
    | none => .bad
noncomputable def methK (args : List E0) (l : Loc) (m : Nat) (x : Out AV) : Out AV := x.bind fun o H => methK2 P call N args l m o H (headV P H o m)
noncomputable def compG (elt : E0) (tg : T0) (ifs : List E0) (n : Nat) (it : It) (l : Loc) (H : AH) (acc : List AV) : Out (List AV) := compGo (tgV tg) (fun l H => evIfs P call N ifs l H) (fun l H => evE P call N elt l H) n it l H acc
noncomputable def compK2 (elt : E0) (tg : T0) (ifs : List E0) (n : Nat) (H : AH) (i : Option It) : Out AV := match i with
    | some i => listK (compG P call N elt tg ifs N i (List.replicate n none) H [])
    | none => .bad
noncomputable def compK (elt : E0) (tg : T0) (ifs : List E0) (n : Nat) (x : Out AV) : Out AV := x.bind fun v H => compK2 P call N elt tg ifs n H (iterOf H v)
/-- statements -/
noncomputable def seqK (r : List S0) (x : SO) : SO := x.andThen fun l H => evSs P call N r l H
noncomputable def exprK (l : Loc) (x : Out AV) : SO := x.thenS l fun v H => if plainV v = true then .ok .next l H else .bad
noncomputable def soK (l : Loc) (x : Out Loc) : SO := x.so l
noncomputable def asgK (t : T0) (l : Loc) (x : Out AV) : SO := x.thenS l fun v H => soK l (asT P call N t v l H)
noncomputable def setK (x : Option Loc) (H : AH) : Out Loc := match x with | some l => .ok l H | none => .bad
noncomputable def putK (x : Option AH) (l : Loc) : Out Loc := match x with | some H => .ok l H | none => .bad
noncomputable def attrTK (a : Nat) (v : AV) (l : Loc) (x : Out AV) : Out Loc := x.bind fun o H => putK (putA P.fld H o a v) l
noncomputable def itemTK2 (o v : AV) (l : Loc) (x : Out AV) : Out Loc := x.bind fun k H => putK (putI H o k v) l
noncomputable def itemTK (i : E0) (v : AV) (l : Loc) (x : Out AV) : Out Loc := x.bind fun o H => itemTK2 o v l (evE P call N i l H)
noncomputable def tupTK (ts : List T0) (vs : List AV) (x : Out Loc) : Out Loc := x.bind fun l H => asTs P call N ts vs l H
noncomputable def setS (x : Option Loc) (H : AH) : SO := match x with | some l => .ok .next l H | none => .bad
noncomputable def putS (x : Option AH) (l : Loc) : SO := match x with | some H => .ok .next l H | none => .bad
noncomputable def augNK2 (i : Nat) (l : Loc) (x : Out AV) : SO := x.thenS l fun r H => setS (setLoc l i r) H
noncomputable def augNK (i : Nat) (op : Operator) (old : AV) (l : Loc) (x : Out AV) : SO := x.thenS l fun v H => augNK2 i l (augV H op old v)
noncomputable def augN0 (i : Nat) (op : Operator) (e : E0) (l : Loc) (H : AH) (x : Option (Option AV)) : SO := match x with
    | some (some old) => augNK i op old l (evE P call N e l H)
    | _ => .bad
noncomputable def augAK3 (o : AV) (a : Nat) (l : Loc) (x : Out AV) : SO := x.thenS l fun r H => putS (putA P.fld H o a r) l
noncomputable def augAK2 (o : AV) (a : Nat) (op : Operator) (old : AV) (l : Loc) (x : Out AV) : SO := x.thenS l fun v H => augAK3 P o a l (augV H op old v)
noncomputable def augAK1 (o : AV) (a : Nat) (op : Operator) (e : E0) (l : Loc) (H : AH) (x : Option AV) : SO := match x with
    | some old => augAK2 P o a op old l (evE P call N e l H)
    | none => .bad
noncomputable def augAK (a : Nat) (op : Operator) (e : E0) (l : Loc) (x : Out AV) : SO := x.thenS l fun o H => augAK1 P call N o a op e l H (attrV P.fld H o a)
noncomputable def retK (l : Loc) (x : Out AV) : SO := x.thenS l fun v H => .ok (.ret v) l H
noncomputable def ifK (a b : List S0) (l : Loc) (x : Out AV) : SO := x.thenS l fun v H => match truthV v with
    | some true => evSs P call N a l H
    | some false => evSs P call N b l H
    | none => .bad
noncomputable def whG (c : E0) (b : List S0) (n : Nat) (l : Loc) (H : AH) : SO := whileGo (fun l H => evE P call N c l H) (fun l H => evSs P call N b l H) n l H
noncomputable def foG (t : T0) (b : List S0) (n : Nat) (i : It) (l : Loc) (H : AH) : SO := forGo (tgV t) (fun l H => evSs P call N b l H) n i l H
noncomputable def foK2 (t : T0) (b : List S0) (l : Loc) (H : AH) (i : Option It) : SO := match i with | some i => foG P call N t b N i l H | none => .bad
noncomputable def foK (t : T0) (b : List S0) (l : Loc) (x : Out AV) : SO := x.thenS l fun v H => foK2 P call N t b l H (iterOf H v)
noncomputable def feK (t : T0) (b : List S0) (l : Loc) (x : Out AV) : SO := x.thenS l fun v H => match v with
    | .str x => foG P call N t b N (.enm 0 x) l H
    | _ => .bad
noncomputable def whK2 (c : E0) (b : List S0) (n : Nat) (x : SO) : SO := x.loop (whG P call N c b n)
noncomputable def whK (c : E0) (b : List S0) (n : Nat) (l : Loc) (x : Out AV) : SO := match x with
    | .ok (.bool true) H1 => whK2 P call N c b n (evSs P call N b l H1)
    | .ok (.bool false) H1 => .ok .next l H1
    | _ => .bad
noncomputable def foK4 (t : T0) (b : List S0) (n : Nat) (it : It) (x : SO) : SO := x.loop (foG P call N t b n it)
noncomputable def foK3 (t : T0) (b : List S0) (n : Nat) (H : AH) (it : It) (x : Option Loc) : SO := match x with
      | none => .bad
      | some l1 => foK4 P call N t b n it (evSs P call N b l1 H)

section
variable {P call N} {l : Loc} {H : AH}
theorem q_val {v : AV} : evE P call N (.val v) l H = .ok v H := rfl
theorem q_loc {i : Nat} : evE P call N (.loc i) l H = locK (l[i]?) H := rfl
theorem q_loc1 {v : AV} : locK (some (some v)) H = .ok v H := rfl
theorem q_tup {es : List E0} : evE P call N (.tup es) l H = tupK (evEs P call N es l H) := rfl
theorem q_tup1 {vs : List AV} : tupK (.ok vs H) = .ok (.tup vs) H := rfl
theorem q_list {es : List E0} : evE P call N (.list es) l H = listK (evEs P call N es l H) := rfl
theorem q_list1 {vs : List AV} : listK (.ok vs H) = .ok (.ref H.length) (H ++ [.list vs]) := rfl
theorem q_nil : evEs P call N [] l H = .ok [] H := rfl
theorem q_cons {e : E0} {r : List E0} : evEs P call N (e :: r) l H = consK P call N r l (evE P call N e l H) := rfl
theorem q_cons1 {r : List E0} {v : AV} : consK P call N r l (.ok v H) = consK2 v (evEs P call N r l H) := rfl
theorem q_cons2 {v : AV} {vs : List AV} : consK2 v (.ok vs H) = .ok (v :: vs) H := rfl
theorem q_attr {o : E0} {a : Nat} : evE P call N (.attr o a) l H = attrK P a (evE P call N o l H) := by
  show ((evE P call N o l H).bind fun v H => match attrV P.fld H v a with | some v => .ok v H | none => .bad) = _
  rfl
theorem q_attr1 {o : AV} {a : Nat} : attrK P a (.ok o H) = ofO (attrV P.fld H o a) H := rfl
theorem q_item {o i : E0} : evE P call N (.item o i) l H = itemK P call N i l (evE P call N o l H) := rfl
theorem q_item1 {i : E0} {o : AV} : itemK P call N i l (.ok o H) = itemK2 o (evE P call N i l H) := rfl
theorem q_item2 {o i : AV} : itemK2 o (.ok i H) = ofO (itemV H o i) H := rfl
theorem q_ofO {v : AV} : ofO (some v) H = .ok v H := rfl
theorem q_ofB {v : Bool} : ofB (some v) H = .ok (.bool v) H := rfl
theorem q_slice {o lo hi st : E0} : evE P call N (.slice o lo hi st) l H = sliceK P call N lo hi st l (evE P call N o l H) := rfl
theorem q_slice1 {lo hi st : E0} {o : AV} : sliceK P call N lo hi st l (.ok o H) = sliceK2 P call N hi st l o (evE P call N lo l H) := rfl
theorem q_slice2 {hi st : E0} {o lo : AV} : sliceK2 P call N hi st l o (.ok lo H) = sliceK3 P call N st l o lo (evE P call N hi l H) := rfl
theorem q_slice3 {st : E0} {o lo hi : AV} : sliceK3 P call N st l o lo (.ok hi H) = sliceK4 o lo hi (evE P call N st l H) := rfl
theorem q_slice4 {o lo hi st : AV} : sliceK4 o lo hi (.ok st H) = sliceV H o lo hi st := rfl
theorem q_bin {x y : E0} {op : Operator} : evE P call N (.bin x op y) l H = binK P call N op y l (evE P call N x l H) := rfl
theorem q_bin1 {y : E0} {op : Operator} {a : AV} : binK P call N op y l (.ok a H) = binK2 op a (evE P call N y l H) := rfl
theorem q_bin2 {op : Operator} {a b : AV} : binK2 op a (.ok b H) = binV H op a b := rfl
theorem q_neg {x : E0} : evE P call N (.neg x) l H = negK (evE P call N x l H) := rfl
theorem q_neg1 {i : Int} : negK (.ok (.int i) H) = .ok (.int (-i)) H := rfl
theorem q_not {x : E0} : evE P call N (.not x) l H = notK (evE P call N x l H) := rfl
theorem q_not1 {b : Bool} : notK (.ok (.bool b) H) = .ok (.bool (!b)) H := rfl
theorem q_cmp {x r : E0} {op : CmpOp} : evE P call N (.cmp x [op] [r]) l H = cmpK P call N op r l (evE P call N x l H) := rfl
theorem q_cmp1 {r : E0} {op : CmpOp} {a : AV} : cmpK P call N op r l (.ok a H) = cmpK2 op a (evE P call N r l H) := rfl
theorem q_cmp2 {op : CmpOp} {a b : AV} : cmpK2 op a (.ok b H) = ofB (cmpV H op a b) H := rfl
theorem q_bop {op : BoolOp} {es : List E0} : evE P call N (.bop op es) l H = bopK P call N op es l H := rfl
theorem q_bop1 {op : BoolOp} {x : E0} : bopK P call N op [x] l H = evE P call N x l H := rfl
theorem q_bop2 {op : BoolOp} {x y : E0} {r : List E0} : bopK P call N op (x :: y :: r) l H = bopK2 P call N op (y :: r) l (evE P call N x l H) := rfl
theorem q_and {r : List E0} {b : Bool} : bopK2 P call N .And r l (.ok (.bool b) H) = if b = true then bopK P call N .And r l H else .ok (.bool false) H := by cases b <;> rfl
theorem q_or {r : List E0} {b : Bool} : bopK2 P call N .Or r l (.ok (.bool b) H) = if b = true then .ok (.bool true) H else bopK P call N .Or r l H := by cases b <;> rfl
theorem q_ite {c a b : E0} : evE P call N (.ite c a b) l H = iteK P call N a b l (evE P call N c l H) := rfl
theorem q_ite1 {a b : E0} {x : Bool} : iteK P call N a b l (.ok (.bool x) H) = if x = true then evE P call N a l H else evE P call N b l H := by cases x <;> rfl
theorem q_call {f : E0} {args : List E0} : evE P call N (.call f args) l H = callK P call N args l (evE P call N f l H) := rfl
theorem q_call1 {args : List E0} {f : AV} : callK P call N args l (.ok f H) = if isFn P f = true then callK2 P call f (evEs P call N args l H) else .bad := rfl
theorem q_call2 {f : AV} {vs : List AV} : callK2 P call f (.ok vs H) = callV P call f vs H := rfl
theorem q_fn {k : Nat} {vs : List AV} : callV P call (.fn k) vs H = call k vs H := rfl
theorem q_bi {b : Bi} {vs : List AV} : callV P call (.bi b) vs H = biV H b vs := rfl
theorem q_isbi {b : Bi} : isFn P (.bi b) = true := rfl
theorem q_meth {o : E0} {m : Nat} {args : List E0} : evE P call N (.meth o m args) l H = methK P call N args l m (evE P call N o l H) := by
  show ((evE P call N o l H).bind fun o H => match headV P H o m with | some hd => (evEs P call N args l H).bind fun vs H => methV call hd o m vs H | none => .bad) = _
  unfold methK
  congr 1
theorem q_meth1 {m : Nat} {args : List E0} {o : AV} : methK P call N args l m (.ok o H) = methK2 P call N args l m o H (headV P H o m) := rfl
theorem q_meth2 {m : Nat} {args : List E0} {o : AV} {hd : Hd} : methK2 P call N args l m o H (some hd) = methK3 call hd o m (evEs P call N args l H) := rfl
theorem q_meth3 {m : Nat} {o : AV} {hd : Hd} {vs : List AV} : methK3 call hd o m (.ok vs H) = methV call hd o m vs H := rfl
theorem q_methf {m k : Nat} {o : AV} {vs : List AV} : methV call (.fn k) o m vs H = call k (o :: vs) H := rfl
theorem q_methb {m : Nat} {o : AV} {vs : List AV} : methV call .bim o m vs H = bimV H o m vs := rfl
theorem q_comp {elt it : E0} {tg : T0} {ifs : List E0} {n : Nat} : evE P call N (.comp elt tg it ifs n) l H = compK P call N elt tg ifs n (evE P call N it l H) := by
  show ((evE P call N it l H).bind fun v H => match iterOf H v with
    | some i => (compGo (tgV tg) (fun l H => evIfs P call N ifs l H) (fun l H => evE P call N elt l H) N i (List.replicate n none) H []).bind fun xs H => .ok (AV.ref H.length) (H ++ [.list xs])
    | none => .bad) = _
  unfold compK
  congr 1
theorem q_comp1 {elt : E0} {tg : T0} {ifs : List E0} {n : Nat} {v : AV} : compK P call N elt tg ifs n (.ok v H) = compK2 P call N elt tg ifs n H (iterOf H v) := rfl
theorem q_comp2 {elt : E0} {tg : T0} {ifs : List E0} {n : Nat} {i : It} : compK2 P call N elt tg ifs n H (some i) = listK (compG P call N elt tg ifs N i (List.replicate n none) H []) := rfl
theorem q_dict : evE P call N (.dict [] []) l H = .ok (.ref H.length) (H ++ [.dict]) := rfl

theorem q_snil : evSs P call N [] l H = .ok .next l H := rfl
theorem q_scons {t : S0} {r : List S0} : evSs P call N (t :: r) l H = seqK P call N r (evS P call N t l H) := rfl
theorem q_seq {r : List S0} : seqK P call N r (.ok .next l H) = evSs P call N r l H := rfl
theorem q_seqr {r : List S0} {v : AV} : seqK P call N r (.ok (.ret v) l H) = .ok (.ret v) l H := rfl
theorem q_seqc {r : List S0} : seqK P call N r (.ok .cont l H) = .ok .cont l H := rfl
theorem q_expr {e : E0} : evS P call N (.expr e) l H = exprK l (evE P call N e l H) := rfl
theorem q_expr1 {v : AV} : exprK l (.ok v H) = if plainV v = true then .ok .next l H else .bad := rfl
theorem q_asg {t : T0} {e : E0} : evS P call N (.asg t e) l H = asgK P call N t l (evE P call N e l H) := rfl
theorem q_asg1 {t : T0} {v : AV} : asgK P call N t l (.ok v H) = soK l (asT P call N t v l H) := rfl
theorem q_so {l' : Loc} : soK l (.ok l' H) = .ok .next l' H := rfl
theorem q_tn {i : Nat} {v : AV} : asT P call N (.name i) v l H = setK (setLoc l i v) H := rfl
theorem q_set {l' : Loc} : setK (some l') H = .ok l' H := rfl
theorem q_sets {l' : Loc} : setS (some l') H = .ok .next l' H := rfl
theorem q_ta {o : E0} {a : Nat} {v : AV} : asT P call N (.attr o a) v l H = attrTK P a v l (evE P call N o l H) := rfl
theorem q_ta1 {a : Nat} {v o : AV} : attrTK P a v l (.ok o H) = putK (putA P.fld H o a v) l := rfl
theorem q_put {H' : AH} : putK (some H') l = .ok l H' := rfl
theorem q_puts {H' : AH} : putS (some H') l = .ok .next l H' := rfl
theorem q_ti {o i : E0} {v : AV} : asT P call N (.item o i) v l H = itemTK P call N i v l (evE P call N o l H) := rfl
theorem q_ti1 {i : E0} {v o : AV} : itemTK P call N i v l (.ok o H) = itemTK2 o v l (evE P call N i l H) := rfl
theorem q_ti2 {v o k : AV} : itemTK2 o v l (.ok k H) = putK (putI H o k v) l := rfl
theorem q_tt {ts : List T0} {vs : List AV} : asT P call N (.tup ts) (.tup vs) l H = if ts.length = vs.length then asTs P call N ts vs l H else .bad := rfl
theorem q_tnil : asTs P call N [] [] l H = .ok l H := rfl
theorem q_tcons {t : T0} {ts : List T0} {v : AV} {vs : List AV} : asTs P call N (t :: ts) (v :: vs) l H = tupTK P call N ts vs (asT P call N t v l H) := rfl
theorem q_tcons1 {ts : List T0} {vs : List AV} : tupTK P call N ts vs (.ok l H) = asTs P call N ts vs l H := rfl
theorem q_augN {i : Nat} {op : Operator} {e : E0} : evS P call N (.augN i op e) l H = augN0 P call N i op e l H (l[i]?) := rfl
theorem q_augN0 {i : Nat} {op : Operator} {e : E0} {old : AV} : augN0 P call N i op e l H (some (some old)) = augNK i op old l (evE P call N e l H) := rfl
theorem q_augN1 {i : Nat} {op : Operator} {old v : AV} : augNK i op old l (.ok v H) = augNK2 i l (augV H op old v) := rfl
theorem q_augN2 {i : Nat} {r : AV} : augNK2 i l (.ok r H) = setS (setLoc l i r) H := rfl
theorem q_augA {o e : E0} {a : Nat} {op : Operator} : evS P call N (.augA o a op e) l H = augAK P call N a op e l (evE P call N o l H) := rfl
theorem q_augA1 {e : E0} {a : Nat} {op : Operator} {o : AV} : augAK P call N a op e l (.ok o H) = augAK1 P call N o a op e l H (attrV P.fld H o a) := rfl
theorem q_augA2 {e : E0} {a : Nat} {op : Operator} {o old : AV} : augAK1 P call N o a op e l H (some old) = augAK2 P o a op old l (evE P call N e l H) := rfl
theorem q_augA3 {a : Nat} {op : Operator} {o old v : AV} : augAK2 P o a op old l (.ok v H) = augAK3 P o a l (augV H op old v) := rfl
theorem q_augA4 {a : Nat} {o r : AV} : augAK3 P o a l (.ok r H) = putS (putA P.fld H o a r) l := rfl
theorem q_ret {e : E0} : evS P call N (.ret e) l H = retK l (evE P call N e l H) := rfl
theorem q_ret1 {v : AV} : retK l (.ok v H) = .ok (.ret v) l H := rfl
theorem q_if {c : E0} {a b : List S0} : evS P call N (.ite c a b) l H = ifK P call N a b l (evE P call N c l H) := rfl
theorem q_if1 {a b : List S0} {x : Bool} : ifK P call N a b l (.ok (.bool x) H) = if x = true then evSs P call N a l H else evSs P call N b l H := by cases x <;> rfl
theorem q_while {c : E0} {b : List S0} : evS P call N (.while_ c b) l H = whG P call N c b N l H := rfl
theorem q_wh {c : E0} {b : List S0} {n : Nat} : whG P call N c b (n + 1) l H = whK P call N c b n l (evE P call N c l H) := by
  show (match evE P call N c l H with
    | .ok (.bool true) H1 => (evSs P call N b l H1).loop (whG P call N c b n)
    | .ok (.bool false) H1 => SO.ok .next l H1
    | _ => .bad) = _
  cases evE P call N c l H with
  | ok v H1 => cases v <;> rfl
  | bad => rfl
theorem q_wh1 {c : E0} {b : List S0} {n : Nat} {x : Bool} : whK P call N c b n l (.ok (.bool x) H) = if x = true then whK2 P call N c b n (evSs P call N b l H) else .ok .next l H := by cases x <;> rfl
theorem q_wh2 {c : E0} {b : List S0} {n : Nat} : whK2 P call N c b n (.ok .next l H) = whG P call N c b n l H := rfl
theorem q_wh3 {c : E0} {b : List S0} {n : Nat} {v : AV} : whK2 P call N c b n (.ok (.ret v) l H) = .ok (.ret v) l H := rfl
theorem q_wh4 {c : E0} {b : List S0} {n : Nat} : whK2 P call N c b n (.ok .cont l H) = whG P call N c b n l H := rfl
theorem q_for {t : T0} {it : E0} {b : List S0} : evS P call N (.for_ t it b) l H = foK P call N t b l (evE P call N it l H) := by
  show ((evE P call N it l H).thenS l fun v H => match iterOf H v with
    | some i => forGo (tgV t) (fun l H => evSs P call N b l H) N i l H
    | none => .bad) = _
  unfold foK
  congr 1
theorem q_for1 {t : T0} {b : List S0} {v : AV} : foK P call N t b l (.ok v H) = foK2 P call N t b l H (iterOf H v) := rfl
theorem q_for2 {t : T0} {b : List S0} {i : It} : foK2 P call N t b l H (some i) = foG P call N t b N i l H := rfl
theorem q_forE {t : T0} {a : E0} {b : List S0} : evS P call N (.forE t a b) l H = feK P call N t b l (evE P call N a l H) := by
  show ((evE P call N a l H).thenS l fun v H => match v with
    | .str x => forGo (tgV t) (fun l H => evSs P call N b l H) N (.enm 0 x) l H
    | _ => .bad) = _
  unfold feK
  congr 1
theorem q_forE1 {t : T0} {b : List S0} {x : List Nat} : feK P call N t b l (.ok (.str x) H) = foG P call N t b N (.enm 0 x) l H := rfl
theorem fo_eq {t : T0} {b : List S0} {n : Nat} {i : It} {r : Option (AV × It)} (h : stepIt H i = some r) : foG P call N t b (n + 1) i l H = match (generalizing := false) r with
    | none => SO.ok .next l H
    | some p => foK3 P call N t b n H p.2 (tgV t p.1 l) := by
  show (match stepIt H i with
    | none => SO.bad
    | some none => .ok .next l H
    | some (some (v, it')) => match tgV t v l with
      | none => .bad
      | some l1 => (evSs P call N b l1 H).loop (foG P call N t b n it')) = _
  rw [h]
  cases r with
  | none => rfl
  | some p => rfl
theorem q_fo0 {t : T0} {b : List S0} {n : Nat} {i : It} (h : stepIt H i = some none) : foG P call N t b (n + 1) i l H = .ok .next l H := fo_eq h
theorem q_fo1 {t : T0} {b : List S0} {n : Nat} {i i' : It} {v : AV} (h : stepIt H i = some (some (v, i'))) : foG P call N t b (n + 1) i l H = foK3 P call N t b n H i' (tgV t v l) := fo_eq h
theorem q_fo2 {t : T0} {b : List S0} {n : Nat} {i : It} {l1 : Loc} : foK3 P call N t b n H i (some l1) = foK4 P call N t b n i (evSs P call N b l1 H) := rfl
theorem q_fo3 {t : T0} {b : List S0} {n : Nat} {i : It} : foK4 P call N t b n i (.ok .next l H) = foG P call N t b n i l H := rfl
theorem q_fo4 {t : T0} {b : List S0} {n : Nat} {i : It} : foK4 P call N t b n i (.ok .cont l H) = foG P call N t b n i l H := rfl
theorem q_fo5 {t : T0} {b : List S0} {n : Nat} {i : It} {v : AV} : foK4 P call N t b n i (.ok (.ret v) l H) = .ok (.ret v) l H := rfl
theorem q_cont : evS P call N .cont l H = .ok .cont l H := rfl
theorem q_fin1 {v : AV} : (SO.ok (.ret v) l H).fin = .ok v H := rfl
theorem q_fin2 : (SO.ok .next l H).fin = .ok .none H := rfl
end
end
end Mine
end -- Sem
section -- SpA
namespace Mine
open PySem
/-! the balanced beginning -/
noncomputable def balLv (c : Nat) (lv : Int) : Int := if c = 40 then lv + 1 else if c = 41 then lv - 1 else lv
noncomputable def balGo : List Nat → Int → Nat → Option Nat
  | [], _, _ => none
  | c :: r, lv, a => if balLv c lv < 0 then none else if balLv c lv = 0 then some (a + 1) else balGo r (balLv c lv) (a + 1)
noncomputable def optI : Option Nat → AV
  | none => .none
  | some n => .int n
section
variable {P : P0} {call : Nat → List AV → AH → Out AV} {N : Nat} {d : Nat} {H : AH}
theorem str_at {s : List Nat} {a : Nat} {c : Nat} {r : List Nat} (h : s.drop a = c :: r) : s[a]? = some c ∧ a < s.length ∧ s.drop (a + 1) = r := by
  have hlt : a < s.length := by
    rcases Nat.lt_or_ge a s.length with q | q
    · exact q
    · rw [List.drop_eq_nil_of_le q] at h; cases h
  rw [List.drop_eq_getElem_cons hlt] at h
  injection h with h1 h2
  exact ⟨by rw [← h1]; exact List.getElem?_eq_getElem hlt, hlt, h2⟩
theorem sp_w33c {s : List Nat} {a : Nat} {lv : Int} : evE P call N w33c [some (.str s), some (.int a), some (.int lv)] H = .ok (.bool (decide (a < s.length))) H := by
  simp only [w33c, q_val, q_loc, q_loc1, q_tup, q_tup1, q_list, q_list1, q_nil, q_cons, q_cons1, q_cons2, q_attr, q_attr1, q_item, q_item1, q_item2, q_ofO, q_ofB, q_slice, q_slice1, q_slice2, q_slice3, q_slice4, q_bin, q_bin1, q_bin2, q_neg, q_neg1, q_not, q_not1, q_cmp, q_cmp1, q_cmp2, q_bop, q_bop1, q_bop2, q_and, q_or, q_ite, q_ite1, q_call, q_call1, q_call2, q_fn, q_bi, q_isbi, q_meth, q_meth1, q_meth2, q_meth3, q_methf, q_methb, q_comp, q_comp1, q_comp2, q_dict, q_snil, q_scons, q_seq, q_seqr, q_seqc, q_expr, q_expr1, q_asg, q_asg1, q_so, q_tn, q_set, q_sets, q_ta, q_ta1, q_put, q_puts, q_ti, q_ti1, q_ti2, q_tt, q_tnil, q_tcons, q_tcons1, q_augN, q_augN0, q_augN1, q_augN2, q_augA, q_augA1, q_augA2, q_augA3, q_augA4, q_ret, q_ret1, q_if, q_if1, q_wh1, q_wh2, q_wh3, q_wh4, q_for1, q_for2, q_forE, q_forE1, q_fo2, q_fo3, q_fo4, q_fo5, q_cont, q_fin1, q_fin2, eq_self, Int.toNat_zero, Int.toNat_one, Int.reduceToNat, List.cons.injEq, and_true, true_and, false_and, and_false, Nat.reduceEqDiff, Int.reduceEq, Int.reduceLT, Int.reduceLE, Int.reduceNeg, Int.lt_irrefl, Nat.lt_irrefl, not_true_eq_false, not_false_eq_true, and_self, List.getElem?_cons_zero, List.getElem?_cons_succ, List.set_cons_zero, List.set_cons_succ, List.length_cons, List.length_nil, List.map_cons, List.map_nil, List.replicate, List.cons_append, List.nil_append, Nat.reduceAdd, Nat.reduceLT, Nat.reduceLeDiff, reduceIte, plainV, setLoc, Bool.not_true, Bool.not_false, if_true, if_false, Bool.false_eq_true, decide_true, decide_false, Nat.zero_lt_succ, reduceCtorEq, decide_eq_true_eq, cmpV, isV, aeq, biV, lenV, isiV, binV, addV, catV, augV, itemV, itemN, natOf, Option.bind_some, sliceV, skOf, partN, stK, SK.of, SK.back, SK.ap, Option.bind_some, bimV, liV, popV, extV, joinV, iterOf, stepIt, tgV, tgVs, lookL, setL, truthV, Option.map_some, Option.map_none, Option.bind_some, Int.ofNat_lt]
theorem sp_w33b {s : List Nat} {a c : Nat} {lv : Int} (h : s[a]? = some c) : evSs P call N w33 [some (.str s), some (.int a), some (.int lv)] H =
    if balLv c lv < 0 then .ok (.ret .none) [some (.str s), some (.int (a + 1 : Nat)), some (.int (balLv c lv))] H
    else if balLv c lv = 0 then .ok (.ret (.int (a + 1 : Nat))) [some (.str s), some (.int (a + 1 : Nat)), some (.int (balLv c lv))] H
    else .ok .next [some (.str s), some (.int (a + 1 : Nat)), some (.int (balLv c lv))] H := by
  have e2 : (0 : Int) ≤ (a : Int) := by omega
  have e3 : ((a + 1 : Nat) : Int) = (a : Int) + 1 := by omega
  unfold balLv
  by_cases c1 : c = 40
  · subst c1
    simp only [w33, q_val, q_loc, q_loc1, q_tup, q_tup1, q_list, q_list1, q_nil, q_cons, q_cons1, q_cons2, q_attr, q_attr1, q_item, q_item1, q_item2, q_ofO, q_ofB, q_slice, q_slice1, q_slice2, q_slice3, q_slice4, q_bin, q_bin1, q_bin2, q_neg, q_neg1, q_not, q_not1, q_cmp, q_cmp1, q_cmp2, q_bop, q_bop1, q_bop2, q_and, q_or, q_ite, q_ite1, q_call, q_call1, q_call2, q_fn, q_bi, q_isbi, q_meth, q_meth1, q_meth2, q_meth3, q_methf, q_methb, q_comp, q_comp1, q_comp2, q_dict, q_snil, q_scons, q_seq, q_seqr, q_seqc, q_expr, q_expr1, q_asg, q_asg1, q_so, q_tn, q_set, q_sets, q_ta, q_ta1, q_put, q_puts, q_ti, q_ti1, q_ti2, q_tt, q_tnil, q_tcons, q_tcons1, q_augN, q_augN0, q_augN1, q_augN2, q_augA, q_augA1, q_augA2, q_augA3, q_augA4, q_ret, q_ret1, q_if, q_if1, q_wh1, q_wh2, q_wh3, q_wh4, q_for1, q_for2, q_forE, q_forE1, q_fo2, q_fo3, q_fo4, q_fo5, q_cont, q_fin1, q_fin2, eq_self, Int.toNat_zero, Int.toNat_one, Int.reduceToNat, List.cons.injEq, and_true, true_and, false_and, and_false, Nat.reduceEqDiff, Int.reduceEq, Int.reduceLT, Int.reduceLE, Int.reduceNeg, Int.lt_irrefl, Nat.lt_irrefl, not_true_eq_false, not_false_eq_true, and_self, List.getElem?_cons_zero, List.getElem?_cons_succ, List.set_cons_zero, List.set_cons_succ, List.length_cons, List.length_nil, List.map_cons, List.map_nil, List.replicate, List.cons_append, List.nil_append, Nat.reduceAdd, Nat.reduceLT, Nat.reduceLeDiff, reduceIte, plainV, setLoc, Bool.not_true, Bool.not_false, if_true, if_false, Bool.false_eq_true, decide_true, decide_false, Nat.zero_lt_succ, reduceCtorEq, decide_eq_true_eq, cmpV, isV, aeq, biV, lenV, isiV, binV, addV, catV, augV, itemV, itemN, natOf, Option.bind_some, sliceV, skOf, partN, stK, SK.of, SK.back, SK.ap, Option.bind_some, bimV, liV, popV, extV, joinV, iterOf, stepIt, tgV, tgVs, lookL, setL, truthV, Option.map_some, Option.map_none, Option.bind_some, Int.toNat_natCast, e2, e3, h]
    by_cases c2 : lv + 1 < 0
    · simp only [c2, q_val, q_loc, q_loc1, q_tup, q_tup1, q_list, q_list1, q_nil, q_cons, q_cons1, q_cons2, q_attr, q_attr1, q_item, q_item1, q_item2, q_ofO, q_ofB, q_slice, q_slice1, q_slice2, q_slice3, q_slice4, q_bin, q_bin1, q_bin2, q_neg, q_neg1, q_not, q_not1, q_cmp, q_cmp1, q_cmp2, q_bop, q_bop1, q_bop2, q_and, q_or, q_ite, q_ite1, q_call, q_call1, q_call2, q_fn, q_bi, q_isbi, q_meth, q_meth1, q_meth2, q_meth3, q_methf, q_methb, q_comp, q_comp1, q_comp2, q_dict, q_snil, q_scons, q_seq, q_seqr, q_seqc, q_expr, q_expr1, q_asg, q_asg1, q_so, q_tn, q_set, q_sets, q_ta, q_ta1, q_put, q_puts, q_ti, q_ti1, q_ti2, q_tt, q_tnil, q_tcons, q_tcons1, q_augN, q_augN0, q_augN1, q_augN2, q_augA, q_augA1, q_augA2, q_augA3, q_augA4, q_ret, q_ret1, q_if, q_if1, q_wh1, q_wh2, q_wh3, q_wh4, q_for1, q_for2, q_forE, q_forE1, q_fo2, q_fo3, q_fo4, q_fo5, q_cont, q_fin1, q_fin2, eq_self, Int.toNat_zero, Int.toNat_one, Int.reduceToNat, List.cons.injEq, and_true, true_and, false_and, and_false, Nat.reduceEqDiff, Int.reduceEq, Int.reduceLT, Int.reduceLE, Int.reduceNeg, Int.lt_irrefl, Nat.lt_irrefl, not_true_eq_false, not_false_eq_true, and_self, List.getElem?_cons_zero, List.getElem?_cons_succ, List.set_cons_zero, List.set_cons_succ, List.length_cons, List.length_nil, List.map_cons, List.map_nil, List.replicate, List.cons_append, List.nil_append, Nat.reduceAdd, Nat.reduceLT, Nat.reduceLeDiff, reduceIte, plainV, setLoc, Bool.not_true, Bool.not_false, if_true, if_false, Bool.false_eq_true, decide_true, decide_false, Nat.zero_lt_succ, reduceCtorEq, decide_eq_true_eq, cmpV, isV, aeq, biV, lenV, isiV, binV, addV, catV, augV, itemV, itemN, natOf, Option.bind_some, sliceV, skOf, partN, stK, SK.of, SK.back, SK.ap, Option.bind_some, bimV, liV, popV, extV, joinV, iterOf, stepIt, tgV, tgVs, lookL, setL, truthV, Option.map_some, Option.map_none, Option.bind_some]
    · by_cases c3 : lv + 1 = 0 <;> simp only [c2, c3, q_val, q_loc, q_loc1, q_tup, q_tup1, q_list, q_list1, q_nil, q_cons, q_cons1, q_cons2, q_attr, q_attr1, q_item, q_item1, q_item2, q_ofO, q_ofB, q_slice, q_slice1, q_slice2, q_slice3, q_slice4, q_bin, q_bin1, q_bin2, q_neg, q_neg1, q_not, q_not1, q_cmp, q_cmp1, q_cmp2, q_bop, q_bop1, q_bop2, q_and, q_or, q_ite, q_ite1, q_call, q_call1, q_call2, q_fn, q_bi, q_isbi, q_meth, q_meth1, q_meth2, q_meth3, q_methf, q_methb, q_comp, q_comp1, q_comp2, q_dict, q_snil, q_scons, q_seq, q_seqr, q_seqc, q_expr, q_expr1, q_asg, q_asg1, q_so, q_tn, q_set, q_sets, q_ta, q_ta1, q_put, q_puts, q_ti, q_ti1, q_ti2, q_tt, q_tnil, q_tcons, q_tcons1, q_augN, q_augN0, q_augN1, q_augN2, q_augA, q_augA1, q_augA2, q_augA3, q_augA4, q_ret, q_ret1, q_if, q_if1, q_wh1, q_wh2, q_wh3, q_wh4, q_for1, q_for2, q_forE, q_forE1, q_fo2, q_fo3, q_fo4, q_fo5, q_cont, q_fin1, q_fin2, eq_self, Int.toNat_zero, Int.toNat_one, Int.reduceToNat, List.cons.injEq, and_true, true_and, false_and, and_false, Nat.reduceEqDiff, Int.reduceEq, Int.reduceLT, Int.reduceLE, Int.reduceNeg, Int.lt_irrefl, Nat.lt_irrefl, not_true_eq_false, not_false_eq_true, and_self, List.getElem?_cons_zero, List.getElem?_cons_succ, List.set_cons_zero, List.set_cons_succ, List.length_cons, List.length_nil, List.map_cons, List.map_nil, List.replicate, List.cons_append, List.nil_append, Nat.reduceAdd, Nat.reduceLT, Nat.reduceLeDiff, reduceIte, plainV, setLoc, Bool.not_true, Bool.not_false, if_true, if_false, Bool.false_eq_true, decide_true, decide_false, Nat.zero_lt_succ, reduceCtorEq, decide_eq_true_eq, cmpV, isV, aeq, biV, lenV, isiV, binV, addV, catV, augV, itemV, itemN, natOf, Option.bind_some, sliceV, skOf, partN, stK, SK.of, SK.back, SK.ap, Option.bind_some, bimV, liV, popV, extV, joinV, iterOf, stepIt, tgV, tgVs, lookL, setL, truthV, Option.map_some, Option.map_none, Option.bind_some]
  · by_cases c4 : c = 41
    · subst c4
      simp only [w33, q_val, q_loc, q_loc1, q_tup, q_tup1, q_list, q_list1, q_nil, q_cons, q_cons1, q_cons2, q_attr, q_attr1, q_item, q_item1, q_item2, q_ofO, q_ofB, q_slice, q_slice1, q_slice2, q_slice3, q_slice4, q_bin, q_bin1, q_bin2, q_neg, q_neg1, q_not, q_not1, q_cmp, q_cmp1, q_cmp2, q_bop, q_bop1, q_bop2, q_and, q_or, q_ite, q_ite1, q_call, q_call1, q_call2, q_fn, q_bi, q_isbi, q_meth, q_meth1, q_meth2, q_meth3, q_methf, q_methb, q_comp, q_comp1, q_comp2, q_dict, q_snil, q_scons, q_seq, q_seqr, q_seqc, q_expr, q_expr1, q_asg, q_asg1, q_so, q_tn, q_set, q_sets, q_ta, q_ta1, q_put, q_puts, q_ti, q_ti1, q_ti2, q_tt, q_tnil, q_tcons, q_tcons1, q_augN, q_augN0, q_augN1, q_augN2, q_augA, q_augA1, q_augA2, q_augA3, q_augA4, q_ret, q_ret1, q_if, q_if1, q_wh1, q_wh2, q_wh3, q_wh4, q_for1, q_for2, q_forE, q_forE1, q_fo2, q_fo3, q_fo4, q_fo5, q_cont, q_fin1, q_fin2, eq_self, Int.toNat_zero, Int.toNat_one, Int.reduceToNat, List.cons.injEq, and_true, true_and, false_and, and_false, Nat.reduceEqDiff, Int.reduceEq, Int.reduceLT, Int.reduceLE, Int.reduceNeg, Int.lt_irrefl, Nat.lt_irrefl, not_true_eq_false, not_false_eq_true, and_self, List.getElem?_cons_zero, List.getElem?_cons_succ, List.set_cons_zero, List.set_cons_succ, List.length_cons, List.length_nil, List.map_cons, List.map_nil, List.replicate, List.cons_append, List.nil_append, Nat.reduceAdd, Nat.reduceLT, Nat.reduceLeDiff, reduceIte, plainV, setLoc, Bool.not_true, Bool.not_false, if_true, if_false, Bool.false_eq_true, decide_true, decide_false, Nat.zero_lt_succ, reduceCtorEq, decide_eq_true_eq, cmpV, isV, aeq, biV, lenV, isiV, binV, addV, catV, augV, itemV, itemN, natOf, Option.bind_some, sliceV, skOf, partN, stK, SK.of, SK.back, SK.ap, Option.bind_some, bimV, liV, popV, extV, joinV, iterOf, stepIt, tgV, tgVs, lookL, setL, truthV, Option.map_some, Option.map_none, Option.bind_some, Int.toNat_natCast, e2, e3, h, c1, List.cons.injEq, and_true, false_and]
      by_cases c2 : lv - 1 < 0
      · simp only [c2, q_val, q_loc, q_loc1, q_tup, q_tup1, q_list, q_list1, q_nil, q_cons, q_cons1, q_cons2, q_attr, q_attr1, q_item, q_item1, q_item2, q_ofO, q_ofB, q_slice, q_slice1, q_slice2, q_slice3, q_slice4, q_bin, q_bin1, q_bin2, q_neg, q_neg1, q_not, q_not1, q_cmp, q_cmp1, q_cmp2, q_bop, q_bop1, q_bop2, q_and, q_or, q_ite, q_ite1, q_call, q_call1, q_call2, q_fn, q_bi, q_isbi, q_meth, q_meth1, q_meth2, q_meth3, q_methf, q_methb, q_comp, q_comp1, q_comp2, q_dict, q_snil, q_scons, q_seq, q_seqr, q_seqc, q_expr, q_expr1, q_asg, q_asg1, q_so, q_tn, q_set, q_sets, q_ta, q_ta1, q_put, q_puts, q_ti, q_ti1, q_ti2, q_tt, q_tnil, q_tcons, q_tcons1, q_augN, q_augN0, q_augN1, q_augN2, q_augA, q_augA1, q_augA2, q_augA3, q_augA4, q_ret, q_ret1, q_if, q_if1, q_wh1, q_wh2, q_wh3, q_wh4, q_for1, q_for2, q_forE, q_forE1, q_fo2, q_fo3, q_fo4, q_fo5, q_cont, q_fin1, q_fin2, eq_self, Int.toNat_zero, Int.toNat_one, Int.reduceToNat, List.cons.injEq, and_true, true_and, false_and, and_false, Nat.reduceEqDiff, Int.reduceEq, Int.reduceLT, Int.reduceLE, Int.reduceNeg, Int.lt_irrefl, Nat.lt_irrefl, not_true_eq_false, not_false_eq_true, and_self, List.getElem?_cons_zero, List.getElem?_cons_succ, List.set_cons_zero, List.set_cons_succ, List.length_cons, List.length_nil, List.map_cons, List.map_nil, List.replicate, List.cons_append, List.nil_append, Nat.reduceAdd, Nat.reduceLT, Nat.reduceLeDiff, reduceIte, plainV, setLoc, Bool.not_true, Bool.not_false, if_true, if_false, Bool.false_eq_true, decide_true, decide_false, Nat.zero_lt_succ, reduceCtorEq, decide_eq_true_eq, cmpV, isV, aeq, biV, lenV, isiV, binV, addV, catV, augV, itemV, itemN, natOf, Option.bind_some, sliceV, skOf, partN, stK, SK.of, SK.back, SK.ap, Option.bind_some, bimV, liV, popV, extV, joinV, iterOf, stepIt, tgV, tgVs, lookL, setL, truthV, Option.map_some, Option.map_none, Option.bind_some]
      · by_cases c3 : lv - 1 = 0 <;> simp only [c2, c3, q_val, q_loc, q_loc1, q_tup, q_tup1, q_list, q_list1, q_nil, q_cons, q_cons1, q_cons2, q_attr, q_attr1, q_item, q_item1, q_item2, q_ofO, q_ofB, q_slice, q_slice1, q_slice2, q_slice3, q_slice4, q_bin, q_bin1, q_bin2, q_neg, q_neg1, q_not, q_not1, q_cmp, q_cmp1, q_cmp2, q_bop, q_bop1, q_bop2, q_and, q_or, q_ite, q_ite1, q_call, q_call1, q_call2, q_fn, q_bi, q_isbi, q_meth, q_meth1, q_meth2, q_meth3, q_methf, q_methb, q_comp, q_comp1, q_comp2, q_dict, q_snil, q_scons, q_seq, q_seqr, q_seqc, q_expr, q_expr1, q_asg, q_asg1, q_so, q_tn, q_set, q_sets, q_ta, q_ta1, q_put, q_puts, q_ti, q_ti1, q_ti2, q_tt, q_tnil, q_tcons, q_tcons1, q_augN, q_augN0, q_augN1, q_augN2, q_augA, q_augA1, q_augA2, q_augA3, q_augA4, q_ret, q_ret1, q_if, q_if1, q_wh1, q_wh2, q_wh3, q_wh4, q_for1, q_for2, q_forE, q_forE1, q_fo2, q_fo3, q_fo4, q_fo5, q_cont, q_fin1, q_fin2, eq_self, Int.toNat_zero, Int.toNat_one, Int.reduceToNat, List.cons.injEq, and_true, true_and, false_and, and_false, Nat.reduceEqDiff, Int.reduceEq, Int.reduceLT, Int.reduceLE, Int.reduceNeg, Int.lt_irrefl, Nat.lt_irrefl, not_true_eq_false, not_false_eq_true, and_self, List.getElem?_cons_zero, List.getElem?_cons_succ, List.set_cons_zero, List.set_cons_succ, List.length_cons, List.length_nil, List.map_cons, List.map_nil, List.replicate, List.cons_append, List.nil_append, Nat.reduceAdd, Nat.reduceLT, Nat.reduceLeDiff, reduceIte, plainV, setLoc, Bool.not_true, Bool.not_false, if_true, if_false, Bool.false_eq_true, decide_true, decide_false, Nat.zero_lt_succ, reduceCtorEq, decide_eq_true_eq, cmpV, isV, aeq, biV, lenV, isiV, binV, addV, catV, augV, itemV, itemN, natOf, Option.bind_some, sliceV, skOf, partN, stK, SK.of, SK.back, SK.ap, Option.bind_some, bimV, liV, popV, extV, joinV, iterOf, stepIt, tgV, tgVs, lookL, setL, truthV, Option.map_some, Option.map_none, Option.bind_some]
    · simp only [w33, q_val, q_loc, q_loc1, q_tup, q_tup1, q_list, q_list1, q_nil, q_cons, q_cons1, q_cons2, q_attr, q_attr1, q_item, q_item1, q_item2, q_ofO, q_ofB, q_slice, q_slice1, q_slice2, q_slice3, q_slice4, q_bin, q_bin1, q_bin2, q_neg, q_neg1, q_not, q_not1, q_cmp, q_cmp1, q_cmp2, q_bop, q_bop1, q_bop2, q_and, q_or, q_ite, q_ite1, q_call, q_call1, q_call2, q_fn, q_bi, q_isbi, q_meth, q_meth1, q_meth2, q_meth3, q_methf, q_methb, q_comp, q_comp1, q_comp2, q_dict, q_snil, q_scons, q_seq, q_seqr, q_seqc, q_expr, q_expr1, q_asg, q_asg1, q_so, q_tn, q_set, q_sets, q_ta, q_ta1, q_put, q_puts, q_ti, q_ti1, q_ti2, q_tt, q_tnil, q_tcons, q_tcons1, q_augN, q_augN0, q_augN1, q_augN2, q_augA, q_augA1, q_augA2, q_augA3, q_augA4, q_ret, q_ret1, q_if, q_if1, q_wh1, q_wh2, q_wh3, q_wh4, q_for1, q_for2, q_forE, q_forE1, q_fo2, q_fo3, q_fo4, q_fo5, q_cont, q_fin1, q_fin2, eq_self, Int.toNat_zero, Int.toNat_one, Int.reduceToNat, List.cons.injEq, and_true, true_and, false_and, and_false, Nat.reduceEqDiff, Int.reduceEq, Int.reduceLT, Int.reduceLE, Int.reduceNeg, Int.lt_irrefl, Nat.lt_irrefl, not_true_eq_false, not_false_eq_true, and_self, List.getElem?_cons_zero, List.getElem?_cons_succ, List.set_cons_zero, List.set_cons_succ, List.length_cons, List.length_nil, List.map_cons, List.map_nil, List.replicate, List.cons_append, List.nil_append, Nat.reduceAdd, Nat.reduceLT, Nat.reduceLeDiff, reduceIte, plainV, setLoc, Bool.not_true, Bool.not_false, if_true, if_false, Bool.false_eq_true, decide_true, decide_false, Nat.zero_lt_succ, reduceCtorEq, decide_eq_true_eq, cmpV, isV, aeq, biV, lenV, isiV, binV, addV, catV, augV, itemV, itemN, natOf, Option.bind_some, sliceV, skOf, partN, stK, SK.of, SK.back, SK.ap, Option.bind_some, bimV, liV, popV, extV, joinV, iterOf, stepIt, tgV, tgVs, lookL, setL, truthV, Option.map_some, Option.map_none, Option.bind_some, Int.toNat_natCast, e2, e3, h, c1, c4, List.cons.injEq, and_true, false_and]
      by_cases c2 : lv < 0
      · simp only [c2, q_val, q_loc, q_loc1, q_tup, q_tup1, q_list, q_list1, q_nil, q_cons, q_cons1, q_cons2, q_attr, q_attr1, q_item, q_item1, q_item2, q_ofO, q_ofB, q_slice, q_slice1, q_slice2, q_slice3, q_slice4, q_bin, q_bin1, q_bin2, q_neg, q_neg1, q_not, q_not1, q_cmp, q_cmp1, q_cmp2, q_bop, q_bop1, q_bop2, q_and, q_or, q_ite, q_ite1, q_call, q_call1, q_call2, q_fn, q_bi, q_isbi, q_meth, q_meth1, q_meth2, q_meth3, q_methf, q_methb, q_comp, q_comp1, q_comp2, q_dict, q_snil, q_scons, q_seq, q_seqr, q_seqc, q_expr, q_expr1, q_asg, q_asg1, q_so, q_tn, q_set, q_sets, q_ta, q_ta1, q_put, q_puts, q_ti, q_ti1, q_ti2, q_tt, q_tnil, q_tcons, q_tcons1, q_augN, q_augN0, q_augN1, q_augN2, q_augA, q_augA1, q_augA2, q_augA3, q_augA4, q_ret, q_ret1, q_if, q_if1, q_wh1, q_wh2, q_wh3, q_wh4, q_for1, q_for2, q_forE, q_forE1, q_fo2, q_fo3, q_fo4, q_fo5, q_cont, q_fin1, q_fin2, eq_self, Int.toNat_zero, Int.toNat_one, Int.reduceToNat, List.cons.injEq, and_true, true_and, false_and, and_false, Nat.reduceEqDiff, Int.reduceEq, Int.reduceLT, Int.reduceLE, Int.reduceNeg, Int.lt_irrefl, Nat.lt_irrefl, not_true_eq_false, not_false_eq_true, and_self, List.getElem?_cons_zero, List.getElem?_cons_succ, List.set_cons_zero, List.set_cons_succ, List.length_cons, List.length_nil, List.map_cons, List.map_nil, List.replicate, List.cons_append, List.nil_append, Nat.reduceAdd, Nat.reduceLT, Nat.reduceLeDiff, reduceIte, plainV, setLoc, Bool.not_true, Bool.not_false, if_true, if_false, Bool.false_eq_true, decide_true, decide_false, Nat.zero_lt_succ, reduceCtorEq, decide_eq_true_eq, cmpV, isV, aeq, biV, lenV, isiV, binV, addV, catV, augV, itemV, itemN, natOf, Option.bind_some, sliceV, skOf, partN, stK, SK.of, SK.back, SK.ap, Option.bind_some, bimV, liV, popV, extV, joinV, iterOf, stepIt, tgV, tgVs, lookL, setL, truthV, Option.map_some, Option.map_none, Option.bind_some]
      · by_cases c3 : lv = 0 <;> simp only [c2, c3, q_val, q_loc, q_loc1, q_tup, q_tup1, q_list, q_list1, q_nil, q_cons, q_cons1, q_cons2, q_attr, q_attr1, q_item, q_item1, q_item2, q_ofO, q_ofB, q_slice, q_slice1, q_slice2, q_slice3, q_slice4, q_bin, q_bin1, q_bin2, q_neg, q_neg1, q_not, q_not1, q_cmp, q_cmp1, q_cmp2, q_bop, q_bop1, q_bop2, q_and, q_or, q_ite, q_ite1, q_call, q_call1, q_call2, q_fn, q_bi, q_isbi, q_meth, q_meth1, q_meth2, q_meth3, q_methf, q_methb, q_comp, q_comp1, q_comp2, q_dict, q_snil, q_scons, q_seq, q_seqr, q_seqc, q_expr, q_expr1, q_asg, q_asg1, q_so, q_tn, q_set, q_sets, q_ta, q_ta1, q_put, q_puts, q_ti, q_ti1, q_ti2, q_tt, q_tnil, q_tcons, q_tcons1, q_augN, q_augN0, q_augN1, q_augN2, q_augA, q_augA1, q_augA2, q_augA3, q_augA4, q_ret, q_ret1, q_if, q_if1, q_wh1, q_wh2, q_wh3, q_wh4, q_for1, q_for2, q_forE, q_forE1, q_fo2, q_fo3, q_fo4, q_fo5, q_cont, q_fin1, q_fin2, eq_self, Int.toNat_zero, Int.toNat_one, Int.reduceToNat, List.cons.injEq, and_true, true_and, false_and, and_false, Nat.reduceEqDiff, Int.reduceEq, Int.reduceLT, Int.reduceLE, Int.reduceNeg, Int.lt_irrefl, Nat.lt_irrefl, not_true_eq_false, not_false_eq_true, and_self, List.getElem?_cons_zero, List.getElem?_cons_succ, List.set_cons_zero, List.set_cons_succ, List.length_cons, List.length_nil, List.map_cons, List.map_nil, List.replicate, List.cons_append, List.nil_append, Nat.reduceAdd, Nat.reduceLT, Nat.reduceLeDiff, reduceIte, plainV, setLoc, Bool.not_true, Bool.not_false, if_true, if_false, Bool.false_eq_true, decide_true, decide_false, Nat.zero_lt_succ, reduceCtorEq, decide_eq_true_eq, cmpV, isV, aeq, biV, lenV, isiV, binV, addV, catV, augV, itemV, itemN, natOf, Option.bind_some, sliceV, skOf, partN, stK, SK.of, SK.back, SK.ap, Option.bind_some, bimV, liV, popV, extV, joinV, iterOf, stepIt, tgV, tgVs, lookL, setL, truthV, Option.map_some, Option.map_none, Option.bind_some]
theorem sp_w33 {s : List Nat} : ∀ (r : List Nat) (n a : Nat) (lv : Int), r.length < n → s.drop a = r → a ≤ s.length →
    (seqK P call N [.ret (.val .none)] (whG P call N w33c w33 n [some (.str s), some (.int a), some (.int lv)] H)).fin = .ok (optI (balGo r lv a)) H
  | r, 0, _, _, h, _, _ => absurd h (Nat.not_lt_zero _)
  | [], n + 1, a, lv, _, hd, ha => by
    have hz : a = s.length := Nat.le_antisymm ha (by simpa using hd)
    rw [q_wh, sp_w33c]
    simp only [hz, Nat.lt_irrefl, q_val, q_loc, q_loc1, q_tup, q_tup1, q_list, q_list1, q_nil, q_cons, q_cons1, q_cons2, q_attr, q_attr1, q_item, q_item1, q_item2, q_ofO, q_ofB, q_slice, q_slice1, q_slice2, q_slice3, q_slice4, q_bin, q_bin1, q_bin2, q_neg, q_neg1, q_not, q_not1, q_cmp, q_cmp1, q_cmp2, q_bop, q_bop1, q_bop2, q_and, q_or, q_ite, q_ite1, q_call, q_call1, q_call2, q_fn, q_bi, q_isbi, q_meth, q_meth1, q_meth2, q_meth3, q_methf, q_methb, q_comp, q_comp1, q_comp2, q_dict, q_snil, q_scons, q_seq, q_seqr, q_seqc, q_expr, q_expr1, q_asg, q_asg1, q_so, q_tn, q_set, q_sets, q_ta, q_ta1, q_put, q_puts, q_ti, q_ti1, q_ti2, q_tt, q_tnil, q_tcons, q_tcons1, q_augN, q_augN0, q_augN1, q_augN2, q_augA, q_augA1, q_augA2, q_augA3, q_augA4, q_ret, q_ret1, q_if, q_if1, q_wh1, q_wh2, q_wh3, q_wh4, q_for1, q_for2, q_forE, q_forE1, q_fo2, q_fo3, q_fo4, q_fo5, q_cont, q_fin1, q_fin2, eq_self, Int.toNat_zero, Int.toNat_one, Int.reduceToNat, List.cons.injEq, and_true, true_and, false_and, and_false, Nat.reduceEqDiff, Int.reduceEq, Int.reduceLT, Int.reduceLE, Int.reduceNeg, Int.lt_irrefl, Nat.lt_irrefl, not_true_eq_false, not_false_eq_true, and_self, List.getElem?_cons_zero, List.getElem?_cons_succ, List.set_cons_zero, List.set_cons_succ, List.length_cons, List.length_nil, List.map_cons, List.map_nil, List.replicate, List.cons_append, List.nil_append, Nat.reduceAdd, Nat.reduceLT, Nat.reduceLeDiff, reduceIte, plainV, setLoc, Bool.not_true, Bool.not_false, if_true, if_false, Bool.false_eq_true, decide_true, decide_false, Nat.zero_lt_succ, reduceCtorEq, decide_eq_true_eq]
    rfl
  | c :: r, n + 1, a, lv, h, hd, ha => by
    obtain ⟨h1, h2, h3⟩ := str_at hd
    have ih := sp_w33 (s := s) r n (a + 1) (balLv c lv) (by simpa using h) h3 h2
    rw [q_wh, sp_w33c]
    simp only [h2, q_val, q_loc, q_loc1, q_tup, q_tup1, q_list, q_list1, q_nil, q_cons, q_cons1, q_cons2, q_attr, q_attr1, q_item, q_item1, q_item2, q_ofO, q_ofB, q_slice, q_slice1, q_slice2, q_slice3, q_slice4, q_bin, q_bin1, q_bin2, q_neg, q_neg1, q_not, q_not1, q_cmp, q_cmp1, q_cmp2, q_bop, q_bop1, q_bop2, q_and, q_or, q_ite, q_ite1, q_call, q_call1, q_call2, q_fn, q_bi, q_isbi, q_meth, q_meth1, q_meth2, q_meth3, q_methf, q_methb, q_comp, q_comp1, q_comp2, q_dict, q_snil, q_scons, q_seq, q_seqr, q_seqc, q_expr, q_expr1, q_asg, q_asg1, q_so, q_tn, q_set, q_sets, q_ta, q_ta1, q_put, q_puts, q_ti, q_ti1, q_ti2, q_tt, q_tnil, q_tcons, q_tcons1, q_augN, q_augN0, q_augN1, q_augN2, q_augA, q_augA1, q_augA2, q_augA3, q_augA4, q_ret, q_ret1, q_if, q_if1, q_wh1, q_wh2, q_wh3, q_wh4, q_for1, q_for2, q_forE, q_forE1, q_fo2, q_fo3, q_fo4, q_fo5, q_cont, q_fin1, q_fin2, eq_self, Int.toNat_zero, Int.toNat_one, Int.reduceToNat, List.cons.injEq, and_true, true_and, false_and, and_false, Nat.reduceEqDiff, Int.reduceEq, Int.reduceLT, Int.reduceLE, Int.reduceNeg, Int.lt_irrefl, Nat.lt_irrefl, not_true_eq_false, not_false_eq_true, and_self, List.getElem?_cons_zero, List.getElem?_cons_succ, List.set_cons_zero, List.set_cons_succ, List.length_cons, List.length_nil, List.map_cons, List.map_nil, List.replicate, List.cons_append, List.nil_append, Nat.reduceAdd, Nat.reduceLT, Nat.reduceLeDiff, reduceIte, plainV, setLoc, Bool.not_true, Bool.not_false, if_true, if_false, Bool.false_eq_true, decide_true, decide_false, Nat.zero_lt_succ, reduceCtorEq, decide_eq_true_eq]
    rw [sp_w33b h1]
    unfold balGo
    by_cases c2 : balLv c lv < 0
    · simp only [c2, q_val, q_loc, q_loc1, q_tup, q_tup1, q_list, q_list1, q_nil, q_cons, q_cons1, q_cons2, q_attr, q_attr1, q_item, q_item1, q_item2, q_ofO, q_ofB, q_slice, q_slice1, q_slice2, q_slice3, q_slice4, q_bin, q_bin1, q_bin2, q_neg, q_neg1, q_not, q_not1, q_cmp, q_cmp1, q_cmp2, q_bop, q_bop1, q_bop2, q_and, q_or, q_ite, q_ite1, q_call, q_call1, q_call2, q_fn, q_bi, q_isbi, q_meth, q_meth1, q_meth2, q_meth3, q_methf, q_methb, q_comp, q_comp1, q_comp2, q_dict, q_snil, q_scons, q_seq, q_seqr, q_seqc, q_expr, q_expr1, q_asg, q_asg1, q_so, q_tn, q_set, q_sets, q_ta, q_ta1, q_put, q_puts, q_ti, q_ti1, q_ti2, q_tt, q_tnil, q_tcons, q_tcons1, q_augN, q_augN0, q_augN1, q_augN2, q_augA, q_augA1, q_augA2, q_augA3, q_augA4, q_ret, q_ret1, q_if, q_if1, q_wh1, q_wh2, q_wh3, q_wh4, q_for1, q_for2, q_forE, q_forE1, q_fo2, q_fo3, q_fo4, q_fo5, q_cont, q_fin1, q_fin2, eq_self, Int.toNat_zero, Int.toNat_one, Int.reduceToNat, List.cons.injEq, and_true, true_and, false_and, and_false, Nat.reduceEqDiff, Int.reduceEq, Int.reduceLT, Int.reduceLE, Int.reduceNeg, Int.lt_irrefl, Nat.lt_irrefl, not_true_eq_false, not_false_eq_true, and_self, List.getElem?_cons_zero, List.getElem?_cons_succ, List.set_cons_zero, List.set_cons_succ, List.length_cons, List.length_nil, List.map_cons, List.map_nil, List.replicate, List.cons_append, List.nil_append, Nat.reduceAdd, Nat.reduceLT, Nat.reduceLeDiff, reduceIte, plainV, setLoc, Bool.not_true, Bool.not_false, if_true, if_false, Bool.false_eq_true, decide_true, decide_false, Nat.zero_lt_succ, reduceCtorEq, decide_eq_true_eq]; rfl
    · by_cases c3 : balLv c lv = 0
      · simp only [c2, c3, q_val, q_loc, q_loc1, q_tup, q_tup1, q_list, q_list1, q_nil, q_cons, q_cons1, q_cons2, q_attr, q_attr1, q_item, q_item1, q_item2, q_ofO, q_ofB, q_slice, q_slice1, q_slice2, q_slice3, q_slice4, q_bin, q_bin1, q_bin2, q_neg, q_neg1, q_not, q_not1, q_cmp, q_cmp1, q_cmp2, q_bop, q_bop1, q_bop2, q_and, q_or, q_ite, q_ite1, q_call, q_call1, q_call2, q_fn, q_bi, q_isbi, q_meth, q_meth1, q_meth2, q_meth3, q_methf, q_methb, q_comp, q_comp1, q_comp2, q_dict, q_snil, q_scons, q_seq, q_seqr, q_seqc, q_expr, q_expr1, q_asg, q_asg1, q_so, q_tn, q_set, q_sets, q_ta, q_ta1, q_put, q_puts, q_ti, q_ti1, q_ti2, q_tt, q_tnil, q_tcons, q_tcons1, q_augN, q_augN0, q_augN1, q_augN2, q_augA, q_augA1, q_augA2, q_augA3, q_augA4, q_ret, q_ret1, q_if, q_if1, q_wh1, q_wh2, q_wh3, q_wh4, q_for1, q_for2, q_forE, q_forE1, q_fo2, q_fo3, q_fo4, q_fo5, q_cont, q_fin1, q_fin2, eq_self, Int.toNat_zero, Int.toNat_one, Int.reduceToNat, List.cons.injEq, and_true, true_and, false_and, and_false, Nat.reduceEqDiff, Int.reduceEq, Int.reduceLT, Int.reduceLE, Int.reduceNeg, Int.lt_irrefl, Nat.lt_irrefl, not_true_eq_false, not_false_eq_true, and_self, List.getElem?_cons_zero, List.getElem?_cons_succ, List.set_cons_zero, List.set_cons_succ, List.length_cons, List.length_nil, List.map_cons, List.map_nil, List.replicate, List.cons_append, List.nil_append, Nat.reduceAdd, Nat.reduceLT, Nat.reduceLeDiff, reduceIte, plainV, setLoc, Bool.not_true, Bool.not_false, if_true, if_false, Bool.false_eq_true, decide_true, decide_false, Nat.zero_lt_succ, reduceCtorEq, decide_eq_true_eq]; rfl
      · simp only [c2, c3, q_val, q_loc, q_loc1, q_tup, q_tup1, q_list, q_list1, q_nil, q_cons, q_cons1, q_cons2, q_attr, q_attr1, q_item, q_item1, q_item2, q_ofO, q_ofB, q_slice, q_slice1, q_slice2, q_slice3, q_slice4, q_bin, q_bin1, q_bin2, q_neg, q_neg1, q_not, q_not1, q_cmp, q_cmp1, q_cmp2, q_bop, q_bop1, q_bop2, q_and, q_or, q_ite, q_ite1, q_call, q_call1, q_call2, q_fn, q_bi, q_isbi, q_meth, q_meth1, q_meth2, q_meth3, q_methf, q_methb, q_comp, q_comp1, q_comp2, q_dict, q_snil, q_scons, q_seq, q_seqr, q_seqc, q_expr, q_expr1, q_asg, q_asg1, q_so, q_tn, q_set, q_sets, q_ta, q_ta1, q_put, q_puts, q_ti, q_ti1, q_ti2, q_tt, q_tnil, q_tcons, q_tcons1, q_augN, q_augN0, q_augN1, q_augN2, q_augA, q_augA1, q_augA2, q_augA3, q_augA4, q_ret, q_ret1, q_if, q_if1, q_wh1, q_wh2, q_wh3, q_wh4, q_for1, q_for2, q_forE, q_forE1, q_fo2, q_fo3, q_fo4, q_fo5, q_cont, q_fin1, q_fin2, eq_self, Int.toNat_zero, Int.toNat_one, Int.reduceToNat, List.cons.injEq, and_true, true_and, false_and, and_false, Nat.reduceEqDiff, Int.reduceEq, Int.reduceLT, Int.reduceLE, Int.reduceNeg, Int.lt_irrefl, Nat.lt_irrefl, not_true_eq_false, not_false_eq_true, and_self, List.getElem?_cons_zero, List.getElem?_cons_succ, List.set_cons_zero, List.set_cons_succ, List.length_cons, List.length_nil, List.map_cons, List.map_nil, List.replicate, List.cons_append, List.nil_append, Nat.reduceAdd, Nat.reduceLT, Nat.reduceLeDiff, reduceIte, plainV, setLoc, Bool.not_true, Bool.not_false, if_true, if_false, Bool.false_eq_true, decide_true, decide_false, Nat.zero_lt_succ, reduceCtorEq, decide_eq_true_eq]; exact ih
theorem lev (h : 1 ≤ d) : ∃ e, d = e + 1 ∧ d - 1 = e := ⟨d - 1, by omega, rfl⟩
theorem sp33 (S : Std P) {s : List Nat} {a : Nat} (hd : 1 ≤ d) (hN : s.length < N) (ha : a ≤ s.length) : callD P N d 33 [.str s, .int a] H = .ok (optI (balGo (s.drop a) 0 a)) H := by
  obtain ⟨e, rfl, _⟩ := lev hd
  rw [callD_eq S.b33 rfl]
  simp only [b33, q_while, q_val, q_loc, q_loc1, q_tup, q_tup1, q_list, q_list1, q_nil, q_cons, q_cons1, q_cons2, q_attr, q_attr1, q_item, q_item1, q_item2, q_ofO, q_ofB, q_slice, q_slice1, q_slice2, q_slice3, q_slice4, q_bin, q_bin1, q_bin2, q_neg, q_neg1, q_not, q_not1, q_cmp, q_cmp1, q_cmp2, q_bop, q_bop1, q_bop2, q_and, q_or, q_ite, q_ite1, q_call, q_call1, q_call2, q_fn, q_bi, q_isbi, q_meth, q_meth1, q_meth2, q_meth3, q_methf, q_methb, q_comp, q_comp1, q_comp2, q_dict, q_snil, q_scons, q_seq, q_seqr, q_seqc, q_expr, q_expr1, q_asg, q_asg1, q_so, q_tn, q_set, q_sets, q_ta, q_ta1, q_put, q_puts, q_ti, q_ti1, q_ti2, q_tt, q_tnil, q_tcons, q_tcons1, q_augN, q_augN0, q_augN1, q_augN2, q_augA, q_augA1, q_augA2, q_augA3, q_augA4, q_ret, q_ret1, q_if, q_if1, q_wh1, q_wh2, q_wh3, q_wh4, q_for1, q_for2, q_forE, q_forE1, q_fo2, q_fo3, q_fo4, q_fo5, q_cont, q_fin1, q_fin2, eq_self, Int.toNat_zero, Int.toNat_one, Int.reduceToNat, List.cons.injEq, and_true, true_and, false_and, and_false, Nat.reduceEqDiff, Int.reduceEq, Int.reduceLT, Int.reduceLE, Int.reduceNeg, Int.lt_irrefl, Nat.lt_irrefl, not_true_eq_false, not_false_eq_true, and_self, List.getElem?_cons_zero, List.getElem?_cons_succ, List.set_cons_zero, List.set_cons_succ, List.length_cons, List.length_nil, List.map_cons, List.map_nil, List.replicate, List.cons_append, List.nil_append, Nat.reduceAdd, Nat.reduceLT, Nat.reduceLeDiff, reduceIte, plainV, setLoc, Bool.not_true, Bool.not_false, if_true, if_false, Bool.false_eq_true, decide_true, decide_false, Nat.zero_lt_succ, reduceCtorEq, decide_eq_true_eq]
  exact sp_w33 _ N a 0 (by rw [List.length_drop]; omega) rfl ha
end
end Mine
end -- SpA
section -- SpB
namespace Mine
open PySem
theorem getEnd {α : Type} {G : List α} {x : α} : (G ++ [x])[G.length]? = some x := by simp
theorem setEnd {α : Type} {G : List α} {x y : α} : (G ++ [x]).set G.length y = G ++ [y] := by
  rw [List.set_append_right _ _ (Nat.le_refl _)]; simp
theorem natCast_lt {a b : Nat} : ((a : Int) < (b : Int)) = (a < b) := by simp [Int.ofNat_lt]
theorem natCast_le {a b : Nat} : ((a : Int) ≤ (b : Int)) = (a ≤ b) := by simp [Int.ofNat_le]
theorem natCast_eq {a b : Nat} : ((a : Int) = (b : Int)) = (a = b) := propext Int.ofNat_inj
theorem nat_pos {a : Nat} : ((0 : Int) ≤ (a : Int)) = True := by simp
noncomputable def vI (n : Nat) : AV := .int n
noncomputable def balEnds (s : List Nat) : Nat → Option Nat → List Nat
  | 0, _ => []
  | _, none => []
  | n + 1, some e => e :: balEnds s n (balGo (s.drop e) 0 e)
noncomputable def ballEnds (s : List Nat) (a : Nat) : List Nat := balEnds s (s.length + 1) (balGo (s.drop a) 0 a)
theorem balGo_gt : ∀ (r : List Nat) (lv : Int) (a e : Nat), balGo r lv a = some e → a < e ∧ e ≤ a + r.length
  | [], _, _, _, h => by simp only [balGo] at h; cases h
  | c :: r, lv, a, e, h => by
    simp only [balGo] at h
    split at h
    · cases h
    · split at h
      · cases h
        simp only [List.length_cons]; omega
      · have := balGo_gt r _ _ _ h
        simp only [List.length_cons]; omega
theorem balEnds_len (s : List Nat) : ∀ (n : Nat) (o : Option Nat), (balEnds s n o).length ≤ n
  | 0, _ => Nat.le_refl _
  | n + 1, none => Nat.zero_le _
  | n + 1, some e => by
    simp only [balEnds, List.length_cons]
    have := balEnds_len s n (balGo (s.drop e) 0 e)
    omega
section
variable {P : P0} {N : Nat} {d : Nat} {H : AH}
theorem sp_w34 (S : Std P) (hd : 1 ≤ d) {s : List Nat} {a : Nat} (hN : s.length < N) (hb : N ≤ 1000000) : ∀ (n m : Nat) (o : Option Nat) (acc : List Nat), (∀ e, o = some e → e ≤ s.length ∧ s.length < e + m) → m < n → acc.length + m ≤ 1000000 →
    (seqK P (callD P N d) N [.ret (.loc 2)] (whG P (callD P N d) N w34c w34 n [some (.str s), some (.int a), some (.ref H.length), some (optI o)] (H ++ [.list (acc.map vI)]))).fin = .ok (.ref H.length) (H ++ [.list ((acc ++ balEnds s m o).map vI)])
  | 0, _, _, _, _, h, _ => absurd h (Nat.not_lt_zero _)
  | n + 1, m, none, acc, _, h, _ => by
    have e : balEnds s m none = [] := by cases m <;> rfl
    rw [q_wh, e, List.append_nil]
    simp only [w34c, q_val, q_loc, q_loc1, q_tup, q_tup1, q_list, q_list1, q_nil, q_cons, q_cons1, q_cons2, q_attr, q_attr1, q_item, q_item1, q_item2, q_ofO, q_ofB, q_slice, q_slice1, q_slice2, q_slice3, q_slice4, q_bin, q_bin1, q_bin2, q_neg, q_neg1, q_not, q_not1, q_cmp, q_cmp1, q_cmp2, q_bop, q_bop1, q_bop2, q_and, q_or, q_ite, q_ite1, q_call, q_call1, q_call2, q_fn, q_bi, q_isbi, q_meth, q_meth1, q_meth2, q_meth3, q_methf, q_methb, q_comp, q_comp1, q_comp2, q_dict, q_snil, q_scons, q_seq, q_seqr, q_seqc, q_expr, q_expr1, q_asg, q_asg1, q_so, q_tn, q_set, q_sets, q_ta, q_ta1, q_put, q_puts, q_ti, q_ti1, q_ti2, q_tt, q_tnil, q_tcons, q_tcons1, q_augN, q_augN0, q_augN1, q_augN2, q_augA, q_augA1, q_augA2, q_augA3, q_augA4, q_ret, q_ret1, q_if, q_if1, q_wh1, q_wh2, q_wh3, q_wh4, q_for1, q_for2, q_forE, q_forE1, q_fo2, q_fo3, q_fo4, q_fo5, q_cont, q_fin1, q_fin2, eq_self, Int.toNat_zero, Int.toNat_one, Int.reduceToNat, List.cons.injEq, and_true, true_and, false_and, and_false, Nat.reduceEqDiff, Int.reduceEq, Int.reduceLT, Int.reduceLE, Int.reduceNeg, Int.lt_irrefl, Nat.lt_irrefl, not_true_eq_false, not_false_eq_true, and_self, List.getElem?_cons_zero, List.getElem?_cons_succ, List.set_cons_zero, List.set_cons_succ, List.length_cons, List.length_nil, List.map_cons, List.map_nil, List.replicate, List.cons_append, List.nil_append, Nat.reduceAdd, Nat.reduceLT, Nat.reduceLeDiff, reduceIte, plainV, setLoc, Bool.not_true, Bool.not_false, if_true, if_false, Bool.false_eq_true, decide_true, decide_false, Nat.zero_lt_succ, reduceCtorEq, decide_eq_true_eq, cmpV, isV, aeq, biV, lenV, isiV, binV, addV, catV, augV, itemV, itemN, natOf, Option.bind_some, sliceV, skOf, partN, stK, SK.of, SK.back, SK.ap, Option.bind_some, bimV, liV, popV, extV, joinV, iterOf, stepIt, tgV, tgVs, lookL, setL, truthV, Option.map_some, Option.map_none, Option.bind_some, optI]
  | n + 1, 0, some e, acc, ho, h, _ => by
    have := ho e rfl
    omega
  | n + 1, m + 1, some e, acc, ho, h, hc => by
    have ho1 := ho e rfl
    have hc2 : acc.length < big := by have : big = 16777216 := rfl; omega
    have ih := sp_w34 S hd (s := s) (a := a) hN hb n m (balGo (s.drop e) 0 e) (acc ++ [e]) (fun e' he' => by
      have := balGo_gt _ _ _ _ he'
      rw [List.length_drop] at this
      omega) (by omega) (by simp; omega)
    rw [q_wh]
    simp only [w34c, q_val, q_loc, q_loc1, q_tup, q_tup1, q_list, q_list1, q_nil, q_cons, q_cons1, q_cons2, q_attr, q_attr1, q_item, q_item1, q_item2, q_ofO, q_ofB, q_slice, q_slice1, q_slice2, q_slice3, q_slice4, q_bin, q_bin1, q_bin2, q_neg, q_neg1, q_not, q_not1, q_cmp, q_cmp1, q_cmp2, q_bop, q_bop1, q_bop2, q_and, q_or, q_ite, q_ite1, q_call, q_call1, q_call2, q_fn, q_bi, q_isbi, q_meth, q_meth1, q_meth2, q_meth3, q_methf, q_methb, q_comp, q_comp1, q_comp2, q_dict, q_snil, q_scons, q_seq, q_seqr, q_seqc, q_expr, q_expr1, q_asg, q_asg1, q_so, q_tn, q_set, q_sets, q_ta, q_ta1, q_put, q_puts, q_ti, q_ti1, q_ti2, q_tt, q_tnil, q_tcons, q_tcons1, q_augN, q_augN0, q_augN1, q_augN2, q_augA, q_augA1, q_augA2, q_augA3, q_augA4, q_ret, q_ret1, q_if, q_if1, q_wh1, q_wh2, q_wh3, q_wh4, q_for1, q_for2, q_forE, q_forE1, q_fo2, q_fo3, q_fo4, q_fo5, q_cont, q_fin1, q_fin2, eq_self, Int.toNat_zero, Int.toNat_one, Int.reduceToNat, List.cons.injEq, and_true, true_and, false_and, and_false, Nat.reduceEqDiff, Int.reduceEq, Int.reduceLT, Int.reduceLE, Int.reduceNeg, Int.lt_irrefl, Nat.lt_irrefl, not_true_eq_false, not_false_eq_true, and_self, List.getElem?_cons_zero, List.getElem?_cons_succ, List.set_cons_zero, List.set_cons_succ, List.length_cons, List.length_nil, List.map_cons, List.map_nil, List.replicate, List.cons_append, List.nil_append, Nat.reduceAdd, Nat.reduceLT, Nat.reduceLeDiff, reduceIte, plainV, setLoc, Bool.not_true, Bool.not_false, if_true, if_false, Bool.false_eq_true, decide_true, decide_false, Nat.zero_lt_succ, reduceCtorEq, decide_eq_true_eq, cmpV, isV, aeq, biV, lenV, isiV, binV, addV, catV, augV, itemV, itemN, natOf, Option.bind_some, sliceV, skOf, partN, stK, SK.of, SK.back, SK.ap, Option.bind_some, bimV, liV, popV, extV, joinV, iterOf, stepIt, tgV, tgVs, lookL, setL, truthV, Option.map_some, Option.map_none, Option.bind_some, optI]
    rw [← w34c]
    have hb : evSs P (callD P N d) N w34 [some (.str s), some (.int a), some (.ref H.length), some (.int e)] (H ++ [.list (acc.map vI)]) =
        .ok .next [some (.str s), some (.int a), some (.ref H.length), some (optI (balGo (s.drop e) 0 e))] (H ++ [.list ((acc ++ [e]).map vI)]) := by
      have hi : isFn P (.fn 33) = true := by simp only [isFn, S.b33]; rfl
      simp only [w34, q_val, q_loc, q_loc1, q_tup, q_tup1, q_list, q_list1, q_nil, q_cons, q_cons1, q_cons2, q_attr, q_attr1, q_item, q_item1, q_item2, q_ofO, q_ofB, q_slice, q_slice1, q_slice2, q_slice3, q_slice4, q_bin, q_bin1, q_bin2, q_neg, q_neg1, q_not, q_not1, q_cmp, q_cmp1, q_cmp2, q_bop, q_bop1, q_bop2, q_and, q_or, q_ite, q_ite1, q_call, q_call1, q_call2, q_fn, q_bi, q_isbi, q_meth, q_meth1, q_meth2, q_meth3, q_methf, q_methb, q_comp, q_comp1, q_comp2, q_dict, q_snil, q_scons, q_seq, q_seqr, q_seqc, q_expr, q_expr1, q_asg, q_asg1, q_so, q_tn, q_set, q_sets, q_ta, q_ta1, q_put, q_puts, q_ti, q_ti1, q_ti2, q_tt, q_tnil, q_tcons, q_tcons1, q_augN, q_augN0, q_augN1, q_augN2, q_augA, q_augA1, q_augA2, q_augA3, q_augA4, q_ret, q_ret1, q_if, q_if1, q_wh1, q_wh2, q_wh3, q_wh4, q_for1, q_for2, q_forE, q_forE1, q_fo2, q_fo3, q_fo4, q_fo5, q_cont, q_fin1, q_fin2, eq_self, Int.toNat_zero, Int.toNat_one, Int.reduceToNat, List.cons.injEq, and_true, true_and, false_and, and_false, Nat.reduceEqDiff, Int.reduceEq, Int.reduceLT, Int.reduceLE, Int.reduceNeg, Int.lt_irrefl, Nat.lt_irrefl, not_true_eq_false, not_false_eq_true, and_self, List.getElem?_cons_zero, List.getElem?_cons_succ, List.set_cons_zero, List.set_cons_succ, List.length_cons, List.length_nil, List.map_cons, List.map_nil, List.replicate, List.cons_append, List.nil_append, Nat.reduceAdd, Nat.reduceLT, Nat.reduceLeDiff, reduceIte, plainV, setLoc, Bool.not_true, Bool.not_false, if_true, if_false, Bool.false_eq_true, decide_true, decide_false, Nat.zero_lt_succ, reduceCtorEq, decide_eq_true_eq, getEnd, setEnd, headV, bimV, liV, popV, extV, joinV, List.length_map, hc2, hi, sp33 S hd hN ho1.1, List.map_append, vI]
    rw [hb]
    simp only [q_val, q_loc, q_loc1, q_tup, q_tup1, q_list, q_list1, q_nil, q_cons, q_cons1, q_cons2, q_attr, q_attr1, q_item, q_item1, q_item2, q_ofO, q_ofB, q_slice, q_slice1, q_slice2, q_slice3, q_slice4, q_bin, q_bin1, q_bin2, q_neg, q_neg1, q_not, q_not1, q_cmp, q_cmp1, q_cmp2, q_bop, q_bop1, q_bop2, q_and, q_or, q_ite, q_ite1, q_call, q_call1, q_call2, q_fn, q_bi, q_isbi, q_meth, q_meth1, q_meth2, q_meth3, q_methf, q_methb, q_comp, q_comp1, q_comp2, q_dict, q_snil, q_scons, q_seq, q_seqr, q_seqc, q_expr, q_expr1, q_asg, q_asg1, q_so, q_tn, q_set, q_sets, q_ta, q_ta1, q_put, q_puts, q_ti, q_ti1, q_ti2, q_tt, q_tnil, q_tcons, q_tcons1, q_augN, q_augN0, q_augN1, q_augN2, q_augA, q_augA1, q_augA2, q_augA3, q_augA4, q_ret, q_ret1, q_if, q_if1, q_wh1, q_wh2, q_wh3, q_wh4, q_for1, q_for2, q_forE, q_forE1, q_fo2, q_fo3, q_fo4, q_fo5, q_cont, q_fin1, q_fin2, eq_self, Int.toNat_zero, Int.toNat_one, Int.reduceToNat, List.cons.injEq, and_true, true_and, false_and, and_false, Nat.reduceEqDiff, Int.reduceEq, Int.reduceLT, Int.reduceLE, Int.reduceNeg, Int.lt_irrefl, Nat.lt_irrefl, not_true_eq_false, not_false_eq_true, and_self, List.getElem?_cons_zero, List.getElem?_cons_succ, List.set_cons_zero, List.set_cons_succ, List.length_cons, List.length_nil, List.map_cons, List.map_nil, List.replicate, List.cons_append, List.nil_append, Nat.reduceAdd, Nat.reduceLT, Nat.reduceLeDiff, reduceIte, plainV, setLoc, Bool.not_true, Bool.not_false, if_true, if_false, Bool.false_eq_true, decide_true, decide_false, Nat.zero_lt_succ, reduceCtorEq, decide_eq_true_eq]
    rw [ih]
    simp only [balEnds, List.append_assoc, List.singleton_append]
theorem sp34 (S : Std P) {s : List Nat} {a : Nat} (hd : 2 ≤ d) (hN : s.length + 2 < N) (hb : N ≤ 1000000) (ha : a ≤ s.length) : callD P N d 34 [.str s, .int a] H = .ok (.ref H.length) (H ++ [.list ((ballEnds s a).map vI)]) := by
  obtain ⟨e, rfl, _⟩ := lev (by omega : 1 ≤ d)
  rw [callD_eq S.b34 rfl]
  have hi : isFn P (.fn 33) = true := by simp only [isFn, S.b33]; rfl
  simp only [b34, q_while, q_val, q_loc, q_loc1, q_tup, q_tup1, q_list, q_list1, q_nil, q_cons, q_cons1, q_cons2, q_attr, q_attr1, q_item, q_item1, q_item2, q_ofO, q_ofB, q_slice, q_slice1, q_slice2, q_slice3, q_slice4, q_bin, q_bin1, q_bin2, q_neg, q_neg1, q_not, q_not1, q_cmp, q_cmp1, q_cmp2, q_bop, q_bop1, q_bop2, q_and, q_or, q_ite, q_ite1, q_call, q_call1, q_call2, q_fn, q_bi, q_isbi, q_meth, q_meth1, q_meth2, q_meth3, q_methf, q_methb, q_comp, q_comp1, q_comp2, q_dict, q_snil, q_scons, q_seq, q_seqr, q_seqc, q_expr, q_expr1, q_asg, q_asg1, q_so, q_tn, q_set, q_sets, q_ta, q_ta1, q_put, q_puts, q_ti, q_ti1, q_ti2, q_tt, q_tnil, q_tcons, q_tcons1, q_augN, q_augN0, q_augN1, q_augN2, q_augA, q_augA1, q_augA2, q_augA3, q_augA4, q_ret, q_ret1, q_if, q_if1, q_wh1, q_wh2, q_wh3, q_wh4, q_for1, q_for2, q_forE, q_forE1, q_fo2, q_fo3, q_fo4, q_fo5, q_cont, q_fin1, q_fin2, eq_self, Int.toNat_zero, Int.toNat_one, Int.reduceToNat, List.cons.injEq, and_true, true_and, false_and, and_false, Nat.reduceEqDiff, Int.reduceEq, Int.reduceLT, Int.reduceLE, Int.reduceNeg, Int.lt_irrefl, Nat.lt_irrefl, not_true_eq_false, not_false_eq_true, and_self, List.getElem?_cons_zero, List.getElem?_cons_succ, List.set_cons_zero, List.set_cons_succ, List.length_cons, List.length_nil, List.map_cons, List.map_nil, List.replicate, List.cons_append, List.nil_append, Nat.reduceAdd, Nat.reduceLT, Nat.reduceLeDiff, reduceIte, plainV, setLoc, Bool.not_true, Bool.not_false, if_true, if_false, Bool.false_eq_true, decide_true, decide_false, Nat.zero_lt_succ, reduceCtorEq, decide_eq_true_eq, hi, sp33 S (d := e) (by omega) (by omega : s.length < N) ha]
  have := sp_w34 (d := e) (H := H) S (by omega) (s := s) (a := a) (by omega) hb N (s.length + 1) (balGo (s.drop a) 0 a) [] (fun e he => by
      have := balGo_gt _ _ _ _ he
      rw [List.length_drop] at this
      omega) (by omega) (by simp; omega)
  exact this
end
end Mine
end -- SpB
section -- SpC
namespace Mine
open PySem
/-! the objects -/
structure Wy where
  o : AV
  pc : Nat
  at_ : Nat
  named : AV
  marks : AV
  calls : AV
noncomputable def wyF (o pc at_ named marks calls : AV) : AObj := .inst 2 [(9, o), (10, pc), (11, at_), (12, named), (13, marks), (14, calls)]
noncomputable def wyObj (w : Wy) : AObj := wyF w.o (.int w.pc) (.int w.at_) w.named w.marks w.calls
noncomputable def mtObj (s : List Nat) (ihost ih : Nat) : AObj := .inst 3 [(15, .str s), (16, .ref ihost), (17, .ref ih)]
noncomputable def hoObj (iv : Nat) (lim : Int) (ir : Nat) (st : Int) (il : Nat) : AObj := .inst 4 [(18, .ref iv), (19, .int lim), (20, .ref ir), (21, .int 64), (22, .int st), (23, .ref il)]
noncomputable def nrObj (k o key : AV) : AObj := .inst 1 [(24, k), (25, o), (26, key)]
section
variable {P : P0} {N : Nat} {d : Nat} {H : AH} {i : Nat} {w : Wy}
theorem att {c a : Nat} {fs : List (Nat × AV)} {v : AV} (S : Std P) (h : H[i]? = some (.inst c fs)) (hf : fldOf c a = true) (hl : lookL a fs = some v) : attrV P.fld H (.ref i) a = some v := by
  simp only [attrV, h, S.fld, hf, hl, if_true]
theorem putt {c a : Nat} {fs : List (Nat × AV)} {v : AV} (S : Std P) (h : H[i]? = some (.inst c fs)) (hf : fldOf c a = true) : putA P.fld H (.ref i) a v = some (H.set i (.inst c (setL a v fs))) := by
  simp only [putA, h, S.fld, hf, if_true]
theorem hdd {c m k : Nat} {fs : List (Nat × AV)} (S : Std P) (h : H[i]? = some (.inst c fs)) (hm : methOf c m = some k) (hl : lookL m fs = none) : headV P H (.ref i) m = some (.fn k) := by
  simp only [headV, h, S.meth, hm, hl]
theorem hdl {m : Nat} {l : List AV} (h : H[i]? = some (.list l)) (hm : m < 5) : headV P H (.ref i) m = some .bim := by
  simp only [headV, h, hm, if_true]
theorem w_o (S : Std P) (h : H[i]? = some (wyObj w)) : attrV P.fld H (.ref i) 9 = some w.o := att S h rfl rfl
theorem w_pc (S : Std P) (h : H[i]? = some (wyObj w)) : attrV P.fld H (.ref i) 10 = some (.int w.pc) := att S h rfl rfl
theorem w_at (S : Std P) (h : H[i]? = some (wyObj w)) : attrV P.fld H (.ref i) 11 = some (.int w.at_) := att S h rfl rfl
theorem w_named (S : Std P) (h : H[i]? = some (wyObj w)) : attrV P.fld H (.ref i) 12 = some w.named := att S h rfl rfl
theorem w_marks (S : Std P) (h : H[i]? = some (wyObj w)) : attrV P.fld H (.ref i) 13 = some w.marks := att S h rfl rfl
theorem w_calls (S : Std P) (h : H[i]? = some (wyObj w)) : attrV P.fld H (.ref i) 14 = some w.calls := att S h rfl rfl
theorem p_pc (S : Std P) (h : H[i]? = some (wyObj w)) {n : Nat} {z : Int} (hz : z = n) : putA P.fld H (.ref i) 10 (.int z) = some (H.set i (wyObj { w with pc := n })) := hz ▸ putt S h rfl
theorem p_at (S : Std P) (h : H[i]? = some (wyObj w)) {n : Nat} {z : Int} (hz : z = n) : putA P.fld H (.ref i) 11 (.int z) = some (H.set i (wyObj { w with at_ := n })) := hz ▸ putt S h rfl
theorem p_named (S : Std P) (h : H[i]? = some (wyObj w)) {v : AV} : putA P.fld H (.ref i) 12 v = some (H.set i (wyObj { w with named := v })) := putt S h rfl
theorem p_marks (S : Std P) (h : H[i]? = some (wyObj w)) {v : AV} : putA P.fld H (.ref i) 13 v = some (H.set i (wyObj { w with marks := v })) := putt S h rfl
theorem w_cop (S : Std P) (h : H[i]? = some (wyObj w)) : headV P H (.ref i) 33 = some (.fn 14) := hdd S h rfl rfl
variable {s : List Nat} {ihost ih : Nat}
theorem m_s (S : Std P) (h : H[i]? = some (mtObj s ihost ih)) : attrV P.fld H (.ref i) 15 = some (.str s) := att S h rfl rfl
theorem m_host (S : Std P) (h : H[i]? = some (mtObj s ihost ih)) : attrV P.fld H (.ref i) 16 = some (.ref ihost) := att S h rfl rfl
theorem m_hist (S : Std P) (h : H[i]? = some (mtObj s ihost ih)) : attrV P.fld H (.ref i) 17 = some (.ref ih) := att S h rfl rfl
theorem m_m {m k : Nat} (S : Std P) (h : H[i]? = some (mtObj s ihost ih)) (hm : methOf 3 m = some k) (h1 : m ≠ 15) (h2 : m ≠ 16) (h3 : m ≠ 17) : headV P H (.ref i) m = some (.fn k) := hdd S h hm (by simp only [lookL, if_neg h1, if_neg h2, if_neg h3])
theorem isf {k np ns : Nat} {b : List S0} (h : P.body k = some (np, ns, b)) : isFn P (.fn k) = true := by simp only [isFn, h]; rfl

/-! a new way -/
theorem sp13 (S : Std P) (hd : 1 ≤ d) {v1 v2 v3 v4 v5 v6 : AV} : callD P N d 13 [.ref H.length, v1, v2, v3, v4, v5, v6] (H ++ [.inst 2 []]) = .ok .none (H ++ [wyF v1 v2 v3 v4 v5 v6]) := by
  obtain ⟨e, rfl, _⟩ := lev hd
  rw [callD_eq S.b13 rfl]
  have p1 := fun {a : Nat} {v : AV} {fs : List (Nat × AV)} (hf : fldOf 2 a = true) => putt (P := P) (H := H ++ [.inst 2 fs]) (v := v) S getEnd hf
  simp only [b13, q_val, q_loc, q_loc1, q_tup, q_tup1, q_list, q_list1, q_nil, q_cons, q_cons1, q_cons2, q_attr, q_attr1, q_item, q_item1, q_item2, q_ofO, q_ofB, q_slice, q_slice1, q_slice2, q_slice3, q_slice4, q_bin, q_bin1, q_bin2, q_neg, q_neg1, q_not, q_not1, q_cmp, q_cmp1, q_cmp2, q_bop, q_bop1, q_bop2, q_and, q_or, q_ite, q_ite1, q_call, q_call1, q_call2, q_fn, q_bi, q_isbi, q_meth, q_meth1, q_meth2, q_meth3, q_methf, q_methb, q_comp, q_comp1, q_comp2, q_dict, q_snil, q_scons, q_seq, q_seqr, q_seqc, q_expr, q_expr1, q_asg, q_asg1, q_so, q_tn, q_set, q_sets, q_ta, q_ta1, q_put, q_puts, q_ti, q_ti1, q_ti2, q_tt, q_tnil, q_tcons, q_tcons1, q_augN, q_augN0, q_augN1, q_augN2, q_augA, q_augA1, q_augA2, q_augA3, q_augA4, q_ret, q_ret1, q_if, q_if1, q_wh1, q_wh2, q_wh3, q_wh4, q_for1, q_for2, q_forE, q_forE1, q_fo2, q_fo3, q_fo4, q_fo5, q_cont, q_fin1, q_fin2, eq_self, Int.toNat_zero, Int.toNat_one, Int.reduceToNat, List.cons.injEq, and_true, true_and, false_and, and_false, Nat.reduceEqDiff, Int.reduceEq, Int.reduceLT, Int.reduceLE, Int.reduceNeg, Int.lt_irrefl, Nat.lt_irrefl, not_true_eq_false, not_false_eq_true, and_self, List.getElem?_cons_zero, List.getElem?_cons_succ, List.set_cons_zero, List.set_cons_succ, List.length_cons, List.length_nil, List.map_cons, List.map_nil, List.replicate, List.cons_append, List.nil_append, Nat.reduceAdd, Nat.reduceLT, Nat.reduceLeDiff, reduceIte, plainV, setLoc, Bool.not_true, Bool.not_false, if_true, if_false, Bool.false_eq_true, decide_true, decide_false, Nat.zero_lt_succ, reduceCtorEq, decide_eq_true_eq, p1 (a := 9) rfl, p1 (a := 10) rfl, p1 (a := 11) rfl, p1 (a := 12) rfl, p1 (a := 13) rfl, p1 (a := 14) rfl, setEnd, setL, Nat.reduceEqDiff, wyF]
theorem callC {call : Nat → List AV → AH → Out AV} {c k : Nat} {args : List AV} {H' : AH} (S : Std P) (h : initOf c = some k) (e : call k (.ref H.length :: args) (H ++ [.inst c []]) = .ok .none H') : callV P call (.cls c) args H = .ok (.ref H.length) H' := by
  show (match P.init c with
    | some k => (call k (.ref H.length :: args) (H ++ [AObj.inst c []])).bind fun v H' => match v with | .none => .ok (AV.ref H.length) H' | _ => .bad
    | none => .bad) = _
  rw [S.init, h]
  dsimp only
  rw [e]
  rfl
theorem new2 (S : Std P) (hd : 1 ≤ d) {v1 v2 v3 v4 v5 v6 : AV} : callV P (callD P N d) (.cls 2) [v1, v2, v3, v4, v5, v6] H = .ok (.ref H.length) (H ++ [wyF v1 v2 v3 v4 v5 v6]) := by
  exact callC S rfl (sp13 S hd)
theorem isc {c k : Nat} (S : Std P) (h : initOf c = some k) : isFn P (.cls c) = true := by simp only [isFn, S.init, h]; rfl
theorem sp14 (S : Std P) (hd : 2 ≤ d) {n : Nat} (h : H[i]? = some (wyObj w)) : callD P N d 14 [.ref i, .int n] H = .ok (.ref H.length) (H ++ [wyObj { w with pc := n }]) := by
  obtain ⟨e, rfl, _⟩ := lev (by omega : 1 ≤ d)
  rw [callD_eq S.b14 rfl]
  simp only [b14, q_val, q_loc, q_loc1, q_tup, q_tup1, q_list, q_list1, q_nil, q_cons, q_cons1, q_cons2, q_attr, q_attr1, q_item, q_item1, q_item2, q_ofO, q_ofB, q_slice, q_slice1, q_slice2, q_slice3, q_slice4, q_bin, q_bin1, q_bin2, q_neg, q_neg1, q_not, q_not1, q_cmp, q_cmp1, q_cmp2, q_bop, q_bop1, q_bop2, q_and, q_or, q_ite, q_ite1, q_call, q_call1, q_call2, q_fn, q_bi, q_isbi, q_meth, q_meth1, q_meth2, q_meth3, q_methf, q_methb, q_comp, q_comp1, q_comp2, q_dict, q_snil, q_scons, q_seq, q_seqr, q_seqc, q_expr, q_expr1, q_asg, q_asg1, q_so, q_tn, q_set, q_sets, q_ta, q_ta1, q_put, q_puts, q_ti, q_ti1, q_ti2, q_tt, q_tnil, q_tcons, q_tcons1, q_augN, q_augN0, q_augN1, q_augN2, q_augA, q_augA1, q_augA2, q_augA3, q_augA4, q_ret, q_ret1, q_if, q_if1, q_wh1, q_wh2, q_wh3, q_wh4, q_for1, q_for2, q_forE, q_forE1, q_fo2, q_fo3, q_fo4, q_fo5, q_cont, q_fin1, q_fin2, eq_self, Int.toNat_zero, Int.toNat_one, Int.reduceToNat, List.cons.injEq, and_true, true_and, false_and, and_false, Nat.reduceEqDiff, Int.reduceEq, Int.reduceLT, Int.reduceLE, Int.reduceNeg, Int.lt_irrefl, Nat.lt_irrefl, not_true_eq_false, not_false_eq_true, and_self, List.getElem?_cons_zero, List.getElem?_cons_succ, List.set_cons_zero, List.set_cons_succ, List.length_cons, List.length_nil, List.map_cons, List.map_nil, List.replicate, List.cons_append, List.nil_append, Nat.reduceAdd, Nat.reduceLT, Nat.reduceLeDiff, reduceIte, plainV, setLoc, Bool.not_true, Bool.not_false, if_true, if_false, Bool.false_eq_true, decide_true, decide_false, Nat.zero_lt_succ, reduceCtorEq, decide_eq_true_eq, isc S (c := 2) rfl, w_o S h, w_at S h, w_named S h, w_marks S h, w_calls S h, new2 S (d := e) (by omega)]
  rfl
/-- the last way that waits -/
theorem sp17 (S : Std P) (hd : 1 ≤ d) {rs : List Nat} (h : H[i]? = some (mtObj s ihost ih)) (hh : H[ih]? = some (.list (rs.map AV.ref))) :
    callD P N d 17 [.ref i] H = match rs.getLast? with | none => .ok .none H | some r => .ok (.ref r) (H.set ih (.list (rs.dropLast.map AV.ref))) := by
  obtain ⟨e, rfl, _⟩ := lev hd
  rw [callD_eq S.b17 rfl]
  simp only [b17, q_val, q_loc, q_loc1, q_tup, q_tup1, q_list, q_list1, q_nil, q_cons, q_cons1, q_cons2, q_attr, q_attr1, q_item, q_item1, q_item2, q_ofO, q_ofB, q_slice, q_slice1, q_slice2, q_slice3, q_slice4, q_bin, q_bin1, q_bin2, q_neg, q_neg1, q_not, q_not1, q_cmp, q_cmp1, q_cmp2, q_bop, q_bop1, q_bop2, q_and, q_or, q_ite, q_ite1, q_call, q_call1, q_call2, q_fn, q_bi, q_isbi, q_meth, q_meth1, q_meth2, q_meth3, q_methf, q_methb, q_comp, q_comp1, q_comp2, q_dict, q_snil, q_scons, q_seq, q_seqr, q_seqc, q_expr, q_expr1, q_asg, q_asg1, q_so, q_tn, q_set, q_sets, q_ta, q_ta1, q_put, q_puts, q_ti, q_ti1, q_ti2, q_tt, q_tnil, q_tcons, q_tcons1, q_augN, q_augN0, q_augN1, q_augN2, q_augA, q_augA1, q_augA2, q_augA3, q_augA4, q_ret, q_ret1, q_if, q_if1, q_wh1, q_wh2, q_wh3, q_wh4, q_for1, q_for2, q_forE, q_forE1, q_fo2, q_fo3, q_fo4, q_fo5, q_cont, q_fin1, q_fin2, eq_self, Int.toNat_zero, Int.toNat_one, Int.reduceToNat, List.cons.injEq, and_true, true_and, false_and, and_false, Nat.reduceEqDiff, Int.reduceEq, Int.reduceLT, Int.reduceLE, Int.reduceNeg, Int.lt_irrefl, Nat.lt_irrefl, not_true_eq_false, not_false_eq_true, and_self, List.getElem?_cons_zero, List.getElem?_cons_succ, List.set_cons_zero, List.set_cons_succ, List.length_cons, List.length_nil, List.map_cons, List.map_nil, List.replicate, List.cons_append, List.nil_append, Nat.reduceAdd, Nat.reduceLT, Nat.reduceLeDiff, reduceIte, plainV, setLoc, Bool.not_true, Bool.not_false, if_true, if_false, Bool.false_eq_true, decide_true, decide_false, Nat.zero_lt_succ, reduceCtorEq, decide_eq_true_eq, cmpV, isV, aeq, biV, lenV, isiV, binV, addV, catV, augV, itemV, itemN, natOf, Option.bind_some, sliceV, skOf, partN, stK, SK.of, SK.back, SK.ap, Option.bind_some, bimV, liV, popV, extV, joinV, iterOf, stepIt, tgV, tgVs, lookL, setL, truthV, Option.map_some, Option.map_none, Option.bind_some, m_hist S h, hdl hh, hh]
  rcases List.eq_nil_or_concat rs with rfl | ⟨r, x, rfl⟩
  · rfl
  · have e1 : (0 : Int) < ((List.map AV.ref (r.concat x)).length : Int) := by simp
    have e2 : (List.map AV.ref (r.concat x)).getLast? = some (.ref x) := by simp
    have e3 : (r.concat x).getLast? = some x := by simp
    have e4 : (List.map AV.ref (r.concat x)).dropLast = (r.concat x).dropLast.map AV.ref := by simp
    simp only [q_val, q_loc, q_loc1, q_tup, q_tup1, q_list, q_list1, q_nil, q_cons, q_cons1, q_cons2, q_attr, q_attr1, q_item, q_item1, q_item2, q_ofO, q_ofB, q_slice, q_slice1, q_slice2, q_slice3, q_slice4, q_bin, q_bin1, q_bin2, q_neg, q_neg1, q_not, q_not1, q_cmp, q_cmp1, q_cmp2, q_bop, q_bop1, q_bop2, q_and, q_or, q_ite, q_ite1, q_call, q_call1, q_call2, q_fn, q_bi, q_isbi, q_meth, q_meth1, q_meth2, q_meth3, q_methf, q_methb, q_comp, q_comp1, q_comp2, q_dict, q_snil, q_scons, q_seq, q_seqr, q_seqc, q_expr, q_expr1, q_asg, q_asg1, q_so, q_tn, q_set, q_sets, q_ta, q_ta1, q_put, q_puts, q_ti, q_ti1, q_ti2, q_tt, q_tnil, q_tcons, q_tcons1, q_augN, q_augN0, q_augN1, q_augN2, q_augA, q_augA1, q_augA2, q_augA3, q_augA4, q_ret, q_ret1, q_if, q_if1, q_wh1, q_wh2, q_wh3, q_wh4, q_for1, q_for2, q_forE, q_forE1, q_fo2, q_fo3, q_fo4, q_fo5, q_cont, q_fin1, q_fin2, eq_self, Int.toNat_zero, Int.toNat_one, Int.reduceToNat, List.cons.injEq, and_true, true_and, false_and, and_false, Nat.reduceEqDiff, Int.reduceEq, Int.reduceLT, Int.reduceLE, Int.reduceNeg, Int.lt_irrefl, Nat.lt_irrefl, not_true_eq_false, not_false_eq_true, and_self, List.getElem?_cons_zero, List.getElem?_cons_succ, List.set_cons_zero, List.set_cons_succ, List.length_cons, List.length_nil, List.map_cons, List.map_nil, List.replicate, List.cons_append, List.nil_append, Nat.reduceAdd, Nat.reduceLT, Nat.reduceLeDiff, reduceIte, plainV, setLoc, Bool.not_true, Bool.not_false, if_true, if_false, Bool.false_eq_true, decide_true, decide_false, Nat.zero_lt_succ, reduceCtorEq, decide_eq_true_eq, e1, e2, e3, e4]
end
end Mine
end -- SpC
section -- SpD
namespace Mine
open PySem
theorem keepA {α : Type} {H : List α} {i : Nat} {x y : α} (h : H[i]? = some x) : (H ++ [y])[i]? = some x := by
  rw [List.getElem?_append_left (List.getElem?_eq_some_iff.mp h).1]; exact h
theorem keepS {α : Type} {H : List α} {i j : Nat} {x y : α} (h : H[i]? = some x) (hn : j ≠ i) : (H.set j y)[i]? = some x := by
  rw [List.getElem?_set_ne hn]; exact h
theorem setS' {α : Type} {H : List α} {i : Nat} {x y : α} (h : H[i]? = some x) : (H.set i y)[i]? = some y := by
  rw [List.getElem?_set_self (List.getElem?_eq_some_iff.mp h).1]
theorem iS {n : Nat} : ((n : Int) + 1) = ((n + 1 : Nat) : Int) := by omega
noncomputable abbrev kOne : List Nat := [111, 110, 101]
noncomputable abbrev kWays : List Nat := [119, 97, 121, 115]
noncomputable abbrev kSplit : List Nat := [115, 112, 108, 105, 116]
noncomputable abbrev kJump : List Nat := [106, 117, 109, 112]
noncomputable abbrev kMark : List Nat := [109, 97, 114, 107]
noncomputable abbrev kName : List Nat := [110, 97, 109, 101]
noncomputable abbrev kDone : List Nat := [100, 111, 110, 101]
noncomputable abbrev kChars : List Nat := [99, 104, 97, 114, 115]
noncomputable abbrev kRpos : List Nat := [114, 112, 111, 115]
noncomputable abbrev kBal : List Nat := [98, 97, 108]
section
variable {P : P0} {N : Nat} {d : Nat} {H : AH} {im iw ih ihost : Nat} {s : List Nat} {w : Wy} {rs : List Nat}
theorem dn_jump (S : Std P) (hd : 1 ≤ d) {k : Nat} (hw : H[iw]? = some (wyObj w)) :
    callD P N d 18 [.ref im, .tup [.str kJump, .int k], .ref iw] H = .ok (.bool true) (H.set iw (wyObj { w with pc := k })) := by
  obtain ⟨e, rfl, _⟩ := lev hd
  rw [callD_eq S.b18 rfl]
  simp only [b18, kOne, kWays, kSplit, kJump, kMark, kName, kDone, kChars, kRpos, kBal, q_val, q_loc, q_loc1, q_tup, q_tup1, q_list, q_list1, q_nil, q_cons, q_cons1, q_cons2, q_attr, q_attr1, q_item, q_item1, q_item2, q_ofO, q_ofB, q_slice, q_slice1, q_slice2, q_slice3, q_slice4, q_bin, q_bin1, q_bin2, q_neg, q_neg1, q_not, q_not1, q_cmp, q_cmp1, q_cmp2, q_bop, q_bop1, q_bop2, q_and, q_or, q_ite, q_ite1, q_call, q_call1, q_call2, q_fn, q_bi, q_isbi, q_meth, q_meth1, q_meth2, q_meth3, q_methf, q_methb, q_comp, q_comp1, q_comp2, q_dict, q_snil, q_scons, q_seq, q_seqr, q_seqc, q_expr, q_expr1, q_asg, q_asg1, q_so, q_tn, q_set, q_sets, q_ta, q_ta1, q_put, q_puts, q_ti, q_ti1, q_ti2, q_tt, q_tnil, q_tcons, q_tcons1, q_augN, q_augN0, q_augN1, q_augN2, q_augA, q_augA1, q_augA2, q_augA3, q_augA4, q_ret, q_ret1, q_if, q_if1, q_wh1, q_wh2, q_wh3, q_wh4, q_for1, q_for2, q_forE, q_forE1, q_fo2, q_fo3, q_fo4, q_fo5, q_cont, q_fin1, q_fin2, eq_self, Int.toNat_zero, Int.toNat_one, Int.reduceToNat, List.cons.injEq, and_true, true_and, false_and, and_false, Nat.reduceEqDiff, Int.reduceEq, Int.reduceLT, Int.reduceLE, Int.reduceNeg, Int.lt_irrefl, Nat.lt_irrefl, not_true_eq_false, not_false_eq_true, and_self, List.getElem?_cons_zero, List.getElem?_cons_succ, List.set_cons_zero, List.set_cons_succ, List.length_cons, List.length_nil, List.map_cons, List.map_nil, List.replicate, List.cons_append, List.nil_append, Nat.reduceAdd, Nat.reduceLT, Nat.reduceLeDiff, reduceIte, plainV, setLoc, Bool.not_true, Bool.not_false, if_true, if_false, Bool.false_eq_true, decide_true, decide_false, Nat.zero_lt_succ, reduceCtorEq, decide_eq_true_eq, cmpV, isV, aeq, biV, lenV, isiV, binV, addV, catV, augV, itemV, itemN, natOf, Option.bind_some, sliceV, skOf, partN, stK, SK.of, SK.back, SK.ap, Option.bind_some, bimV, liV, popV, extV, joinV, iterOf, stepIt, tgV, tgVs, lookL, setL, truthV, Option.map_some, Option.map_none, Option.bind_some, p_pc S hw (n := k) rfl]
theorem dn_split (S : Std P) (hd : 3 ≤ d) {k : Nat} (hm : H[im]? = some (mtObj s ihost ih)) (hh : H[ih]? = some (.list (rs.map AV.ref))) (hw : H[iw]? = some (wyObj w)) (hl : rs.length < big) (n1 : ih ≠ iw) (n2 : ih ≠ im) :
    callD P N d 18 [.ref im, .tup [.str kSplit, .int k], .ref iw] H = .ok (.bool true) (((H ++ [wyObj { w with pc := k }]).set ih (.list ((rs ++ [H.length]).map AV.ref))).set iw (wyObj { w with pc := w.pc + 1 })) := by
  obtain ⟨e, rfl, _⟩ := lev (by omega : 1 ≤ d)
  rw [callD_eq S.b18 rfl]
  have hw2 := keepS (y := .list ((rs.map AV.ref) ++ [.ref H.length])) (keepA (y := wyObj { w with pc := k }) hw) n1
  have hh1 := keepA (y := wyObj { w with pc := k }) hh
  simp only [b18, kOne, kWays, kSplit, kJump, kMark, kName, kDone, kChars, kRpos, kBal, q_val, q_loc, q_loc1, q_tup, q_tup1, q_list, q_list1, q_nil, q_cons, q_cons1, q_cons2, q_attr, q_attr1, q_item, q_item1, q_item2, q_ofO, q_ofB, q_slice, q_slice1, q_slice2, q_slice3, q_slice4, q_bin, q_bin1, q_bin2, q_neg, q_neg1, q_not, q_not1, q_cmp, q_cmp1, q_cmp2, q_bop, q_bop1, q_bop2, q_and, q_or, q_ite, q_ite1, q_call, q_call1, q_call2, q_fn, q_bi, q_isbi, q_meth, q_meth1, q_meth2, q_meth3, q_methf, q_methb, q_comp, q_comp1, q_comp2, q_dict, q_snil, q_scons, q_seq, q_seqr, q_seqc, q_expr, q_expr1, q_asg, q_asg1, q_so, q_tn, q_set, q_sets, q_ta, q_ta1, q_put, q_puts, q_ti, q_ti1, q_ti2, q_tt, q_tnil, q_tcons, q_tcons1, q_augN, q_augN0, q_augN1, q_augN2, q_augA, q_augA1, q_augA2, q_augA3, q_augA4, q_ret, q_ret1, q_if, q_if1, q_wh1, q_wh2, q_wh3, q_wh4, q_for1, q_for2, q_forE, q_forE1, q_fo2, q_fo3, q_fo4, q_fo5, q_cont, q_fin1, q_fin2, eq_self, Int.toNat_zero, Int.toNat_one, Int.reduceToNat, List.cons.injEq, and_true, true_and, false_and, and_false, Nat.reduceEqDiff, Int.reduceEq, Int.reduceLT, Int.reduceLE, Int.reduceNeg, Int.lt_irrefl, Nat.lt_irrefl, not_true_eq_false, not_false_eq_true, and_self, List.getElem?_cons_zero, List.getElem?_cons_succ, List.set_cons_zero, List.set_cons_succ, List.length_cons, List.length_nil, List.map_cons, List.map_nil, List.replicate, List.cons_append, List.nil_append, Nat.reduceAdd, Nat.reduceLT, Nat.reduceLeDiff, reduceIte, plainV, setLoc, Bool.not_true, Bool.not_false, if_true, if_false, Bool.false_eq_true, decide_true, decide_false, Nat.zero_lt_succ, reduceCtorEq, decide_eq_true_eq, cmpV, isV, aeq, biV, lenV, isiV, binV, addV, catV, augV, itemV, itemN, natOf, Option.bind_some, sliceV, skOf, partN, stK, SK.of, SK.back, SK.ap, Option.bind_some, bimV, liV, popV, extV, joinV, iterOf, stepIt, tgV, tgVs, lookL, setL, truthV, Option.map_some, Option.map_none, Option.bind_some, m_hist S hm, hdl hh, w_cop S hw, sp14 S (d := e) (by omega) hw, hh1, List.length_map, hl, w_pc S hw2, p_pc S hw2 iS, List.map_append]
theorem dn_mark (S : Std P) (hd : 1 ≤ d) (hw : H[iw]? = some (wyObj w)) :
    callD P N d 18 [.ref im, .tup [.str kMark], .ref iw] H = .ok (.bool true) (H.set iw (wyObj { w with marks := .tup [w.marks, .int w.at_], pc := w.pc + 1 })) := by
  obtain ⟨e, rfl, _⟩ := lev (by omega : 1 ≤ d)
  rw [callD_eq S.b18 rfl]
  have hw2 := setS' (y := wyObj { w with marks := .tup [w.marks, .int w.at_] }) hw
  simp only [b18, kOne, kWays, kSplit, kJump, kMark, kName, kDone, kChars, kRpos, kBal, q_val, q_loc, q_loc1, q_tup, q_tup1, q_list, q_list1, q_nil, q_cons, q_cons1, q_cons2, q_attr, q_attr1, q_item, q_item1, q_item2, q_ofO, q_ofB, q_slice, q_slice1, q_slice2, q_slice3, q_slice4, q_bin, q_bin1, q_bin2, q_neg, q_neg1, q_not, q_not1, q_cmp, q_cmp1, q_cmp2, q_bop, q_bop1, q_bop2, q_and, q_or, q_ite, q_ite1, q_call, q_call1, q_call2, q_fn, q_bi, q_isbi, q_meth, q_meth1, q_meth2, q_meth3, q_methf, q_methb, q_comp, q_comp1, q_comp2, q_dict, q_snil, q_scons, q_seq, q_seqr, q_seqc, q_expr, q_expr1, q_asg, q_asg1, q_so, q_tn, q_set, q_sets, q_ta, q_ta1, q_put, q_puts, q_ti, q_ti1, q_ti2, q_tt, q_tnil, q_tcons, q_tcons1, q_augN, q_augN0, q_augN1, q_augN2, q_augA, q_augA1, q_augA2, q_augA3, q_augA4, q_ret, q_ret1, q_if, q_if1, q_wh1, q_wh2, q_wh3, q_wh4, q_for1, q_for2, q_forE, q_forE1, q_fo2, q_fo3, q_fo4, q_fo5, q_cont, q_fin1, q_fin2, eq_self, Int.toNat_zero, Int.toNat_one, Int.reduceToNat, List.cons.injEq, and_true, true_and, false_and, and_false, Nat.reduceEqDiff, Int.reduceEq, Int.reduceLT, Int.reduceLE, Int.reduceNeg, Int.lt_irrefl, Nat.lt_irrefl, not_true_eq_false, not_false_eq_true, and_self, List.getElem?_cons_zero, List.getElem?_cons_succ, List.set_cons_zero, List.set_cons_succ, List.length_cons, List.length_nil, List.map_cons, List.map_nil, List.replicate, List.cons_append, List.nil_append, Nat.reduceAdd, Nat.reduceLT, Nat.reduceLeDiff, reduceIte, plainV, setLoc, Bool.not_true, Bool.not_false, if_true, if_false, Bool.false_eq_true, decide_true, decide_false, Nat.zero_lt_succ, reduceCtorEq, decide_eq_true_eq, cmpV, isV, aeq, biV, lenV, isiV, binV, addV, catV, augV, itemV, itemN, natOf, Option.bind_some, sliceV, skOf, partN, stK, SK.of, SK.back, SK.ap, Option.bind_some, bimV, liV, popV, extV, joinV, iterOf, stepIt, tgV, tgVs, lookL, setL, truthV, Option.map_some, Option.map_none, Option.bind_some, w_marks S hw, w_at S hw, p_marks S hw, w_pc S hw2, p_pc S hw2 iS, List.set_set]
theorem in3 : (strsOf [.str [110, 97, 109, 101], .str [115, 101, 116], .str [103, 97, 105, 110]]).map (fun ss => ss.any fun x => x == [110, 97, 109, 101]) = some true := rfl
theorem in3w : (strsOf [.str [110, 97, 109, 101], .str [115, 101, 116], .str [103, 97, 105, 110]]).map (fun ss => ss.any fun x => x == [119, 97, 121, 115]) = some false := rfl
/-- what is met between two places -/
noncomputable def cutS (s : List Nat) (a b : Nat) : List Nat := (s.take b).drop a
theorem sp20n (S : Std P) (hd : 1 ≤ d) {r : AV} {m : AV} {b : Nat} (hm : H[im]? = some (mtObj s ihost ih)) (hw : H[iw]? = some (wyObj w)) (hk : w.marks = .tup [m, .int b]) (hn : im ≠ iw) :
    callD P N d 20 [.ref im, .tup [.str kName, r], .ref iw] H = .ok (.bool true) (H.set iw (wyObj { w with marks := m, named := .tup [w.named, .tup [r, .str (cutS s b w.at_)]] })) := by
  obtain ⟨e, rfl, _⟩ := lev (by omega : 1 ≤ d)
  rw [callD_eq S.b20 rfl]
  have hw2 := setS' (y := wyObj { w with marks := m }) hw
  have hm2 := keepS (y := wyObj { w with marks := m }) hm (Ne.symm hn)
  simp only [b20, kOne, kWays, kSplit, kJump, kMark, kName, kDone, kChars, kRpos, kBal, q_val, q_loc, q_loc1, q_tup, q_tup1, q_list, q_list1, q_nil, q_cons, q_cons1, q_cons2, q_attr, q_attr1, q_item, q_item1, q_item2, q_ofO, q_ofB, q_slice, q_slice1, q_slice2, q_slice3, q_slice4, q_bin, q_bin1, q_bin2, q_neg, q_neg1, q_not, q_not1, q_cmp, q_cmp1, q_cmp2, q_bop, q_bop1, q_bop2, q_and, q_or, q_ite, q_ite1, q_call, q_call1, q_call2, q_fn, q_bi, q_isbi, q_meth, q_meth1, q_meth2, q_meth3, q_methf, q_methb, q_comp, q_comp1, q_comp2, q_dict, q_snil, q_scons, q_seq, q_seqr, q_seqc, q_expr, q_expr1, q_asg, q_asg1, q_so, q_tn, q_set, q_sets, q_ta, q_ta1, q_put, q_puts, q_ti, q_ti1, q_ti2, q_tt, q_tnil, q_tcons, q_tcons1, q_augN, q_augN0, q_augN1, q_augN2, q_augA, q_augA1, q_augA2, q_augA3, q_augA4, q_ret, q_ret1, q_if, q_if1, q_wh1, q_wh2, q_wh3, q_wh4, q_for1, q_for2, q_forE, q_forE1, q_fo2, q_fo3, q_fo4, q_fo5, q_cont, q_fin1, q_fin2, eq_self, Int.toNat_zero, Int.toNat_one, Int.reduceToNat, List.cons.injEq, and_true, true_and, false_and, and_false, Nat.reduceEqDiff, Int.reduceEq, Int.reduceLT, Int.reduceLE, Int.reduceNeg, Int.lt_irrefl, Nat.lt_irrefl, not_true_eq_false, not_false_eq_true, and_self, List.getElem?_cons_zero, List.getElem?_cons_succ, List.set_cons_zero, List.set_cons_succ, List.length_cons, List.length_nil, List.map_cons, List.map_nil, List.replicate, List.cons_append, List.nil_append, Nat.reduceAdd, Nat.reduceLT, Nat.reduceLeDiff, reduceIte, plainV, setLoc, Bool.not_true, Bool.not_false, if_true, if_false, Bool.false_eq_true, decide_true, decide_false, Nat.zero_lt_succ, reduceCtorEq, decide_eq_true_eq, cmpV, isV, aeq, biV, lenV, isiV, binV, addV, catV, augV, itemV, itemN, natOf, Option.bind_some, sliceV, skOf, partN, stK, SK.of, SK.back, SK.ap, Option.bind_some, bimV, liV, popV, extV, joinV, iterOf, stepIt, tgV, tgVs, lookL, setL, truthV, Option.map_some, Option.map_none, Option.bind_some, w_marks S hw, hk, p_marks S hw, m_s S hm2, w_at S hw2, nat_pos, Int.toNat_natCast, w_named S hw2, p_named S hw2, List.set_set, cutS]
theorem dn_name (S : Std P) (hd : 2 ≤ d) {r : AV} {m : AV} {b : Nat} (hm : H[im]? = some (mtObj s ihost ih)) (hw : H[iw]? = some (wyObj w)) (hk : w.marks = .tup [m, .int b]) (hn : im ≠ iw) :
    callD P N d 18 [.ref im, .tup [.str kName, r], .ref iw] H = .ok (.bool true) (H.set iw (wyObj { w with marks := m, named := .tup [w.named, .tup [r, .str (cutS s b w.at_)]], pc := w.pc + 1 })) := by
  obtain ⟨e, rfl, _⟩ := lev (by omega : 1 ≤ d)
  rw [callD_eq S.b18 rfl]
  have hw2 := setS' (y := wyObj { w with marks := m, named := .tup [w.named, .tup [r, .str (cutS s b w.at_)]] }) hw
  have hh := m_m (m := 38) (k := 20) S hm rfl (by decide) (by decide) (by decide)
  have hc := sp20n (N := N) (d := e) (r := r) S (by omega) hm hw hk hn
  simp only [kName] at hc
  simp only [b18, kOne, kWays, kSplit, kJump, kMark, kName, kDone, kChars, kRpos, kBal, q_val, q_loc, q_loc1, q_tup, q_tup1, q_list, q_list1, q_nil, q_cons, q_cons1, q_cons2, q_attr, q_attr1, q_item, q_item1, q_item2, q_ofO, q_ofB, q_slice, q_slice1, q_slice2, q_slice3, q_slice4, q_bin, q_bin1, q_bin2, q_neg, q_neg1, q_not, q_not1, q_cmp, q_cmp1, q_cmp2, q_bop, q_bop1, q_bop2, q_and, q_or, q_ite, q_ite1, q_call, q_call1, q_call2, q_fn, q_bi, q_isbi, q_meth, q_meth1, q_meth2, q_meth3, q_methf, q_methb, q_comp, q_comp1, q_comp2, q_dict, q_snil, q_scons, q_seq, q_seqr, q_seqc, q_expr, q_expr1, q_asg, q_asg1, q_so, q_tn, q_set, q_sets, q_ta, q_ta1, q_put, q_puts, q_ti, q_ti1, q_ti2, q_tt, q_tnil, q_tcons, q_tcons1, q_augN, q_augN0, q_augN1, q_augN2, q_augA, q_augA1, q_augA2, q_augA3, q_augA4, q_ret, q_ret1, q_if, q_if1, q_wh1, q_wh2, q_wh3, q_wh4, q_for1, q_for2, q_forE, q_forE1, q_fo2, q_fo3, q_fo4, q_fo5, q_cont, q_fin1, q_fin2, eq_self, Int.toNat_zero, Int.toNat_one, Int.reduceToNat, List.cons.injEq, and_true, true_and, false_and, and_false, Nat.reduceEqDiff, Int.reduceEq, Int.reduceLT, Int.reduceLE, Int.reduceNeg, Int.lt_irrefl, Nat.lt_irrefl, not_true_eq_false, not_false_eq_true, and_self, List.getElem?_cons_zero, List.getElem?_cons_succ, List.set_cons_zero, List.set_cons_succ, List.length_cons, List.length_nil, List.map_cons, List.map_nil, List.replicate, List.cons_append, List.nil_append, Nat.reduceAdd, Nat.reduceLT, Nat.reduceLeDiff, reduceIte, plainV, setLoc, Bool.not_true, Bool.not_false, if_true, if_false, Bool.false_eq_true, decide_true, decide_false, Nat.zero_lt_succ, reduceCtorEq, decide_eq_true_eq, cmpV, isV, aeq, biV, lenV, isiV, binV, addV, catV, augV, itemV, itemN, natOf, Option.bind_some, sliceV, skOf, partN, stK, SK.of, SK.back, SK.ap, Option.bind_some, bimV, liV, popV, extV, joinV, iterOf, stepIt, tgV, tgVs, lookL, setL, truthV, Option.map_some, Option.map_none, Option.bind_some, in3, hh, hc, w_pc S hw2, p_pc S hw2 iS, List.set_set]

/-! one sign run, or a place -/
noncomputable def charsEnd (s t : List Nat) (a : Nat) : Option Nat := if cutS s a (a + t.length) = t then some (a + t.length) else none
noncomputable def rposEnd (s : List Nat) (k a : Nat) : Option Nat := if s.length = a + k then some a else none
theorem iA {a b : Nat} : ((a : Int) + (b : Int)) = ((a + b : Nat) : Int) := by omega
theorem sp28 (S : Std P) (hd : 1 ≤ d) {t : List Nat} {a : Nat} : callD P N d 28 [.str s, .int a, .str t] H = .ok (optI (charsEnd s t a)) H := by
  obtain ⟨e, rfl, _⟩ := lev (by omega : 1 ≤ d)
  rw [callD_eq S.b28 rfl]
  simp only [b28, q_val, q_loc, q_loc1, q_tup, q_tup1, q_list, q_list1, q_nil, q_cons, q_cons1, q_cons2, q_attr, q_attr1, q_item, q_item1, q_item2, q_ofO, q_ofB, q_slice, q_slice1, q_slice2, q_slice3, q_slice4, q_bin, q_bin1, q_bin2, q_neg, q_neg1, q_not, q_not1, q_cmp, q_cmp1, q_cmp2, q_bop, q_bop1, q_bop2, q_and, q_or, q_ite, q_ite1, q_call, q_call1, q_call2, q_fn, q_bi, q_isbi, q_meth, q_meth1, q_meth2, q_meth3, q_methf, q_methb, q_comp, q_comp1, q_comp2, q_dict, q_snil, q_scons, q_seq, q_seqr, q_seqc, q_expr, q_expr1, q_asg, q_asg1, q_so, q_tn, q_set, q_sets, q_ta, q_ta1, q_put, q_puts, q_ti, q_ti1, q_ti2, q_tt, q_tnil, q_tcons, q_tcons1, q_augN, q_augN0, q_augN1, q_augN2, q_augA, q_augA1, q_augA2, q_augA3, q_augA4, q_ret, q_ret1, q_if, q_if1, q_wh1, q_wh2, q_wh3, q_wh4, q_for1, q_for2, q_forE, q_forE1, q_fo2, q_fo3, q_fo4, q_fo5, q_cont, q_fin1, q_fin2, eq_self, Int.toNat_zero, Int.toNat_one, Int.reduceToNat, List.cons.injEq, and_true, true_and, false_and, and_false, Nat.reduceEqDiff, Int.reduceEq, Int.reduceLT, Int.reduceLE, Int.reduceNeg, Int.lt_irrefl, Nat.lt_irrefl, not_true_eq_false, not_false_eq_true, and_self, List.getElem?_cons_zero, List.getElem?_cons_succ, List.set_cons_zero, List.set_cons_succ, List.length_cons, List.length_nil, List.map_cons, List.map_nil, List.replicate, List.cons_append, List.nil_append, Nat.reduceAdd, Nat.reduceLT, Nat.reduceLeDiff, reduceIte, plainV, setLoc, Bool.not_true, Bool.not_false, if_true, if_false, Bool.false_eq_true, decide_true, decide_false, Nat.zero_lt_succ, reduceCtorEq, decide_eq_true_eq, cmpV, isV, aeq, biV, lenV, isiV, binV, addV, catV, augV, itemV, itemN, natOf, Option.bind_some, sliceV, skOf, partN, stK, SK.of, SK.back, SK.ap, Option.bind_some, bimV, liV, popV, extV, joinV, iterOf, stepIt, tgV, tgVs, lookL, setL, truthV, Option.map_some, Option.map_none, Option.bind_some, iA, nat_pos, Int.toNat_natCast, charsEnd, cutS]
  by_cases h : List.drop a (List.take (a + t.length) s) = t
  · simp only [h, q_val, q_loc, q_loc1, q_tup, q_tup1, q_list, q_list1, q_nil, q_cons, q_cons1, q_cons2, q_attr, q_attr1, q_item, q_item1, q_item2, q_ofO, q_ofB, q_slice, q_slice1, q_slice2, q_slice3, q_slice4, q_bin, q_bin1, q_bin2, q_neg, q_neg1, q_not, q_not1, q_cmp, q_cmp1, q_cmp2, q_bop, q_bop1, q_bop2, q_and, q_or, q_ite, q_ite1, q_call, q_call1, q_call2, q_fn, q_bi, q_isbi, q_meth, q_meth1, q_meth2, q_meth3, q_methf, q_methb, q_comp, q_comp1, q_comp2, q_dict, q_snil, q_scons, q_seq, q_seqr, q_seqc, q_expr, q_expr1, q_asg, q_asg1, q_so, q_tn, q_set, q_sets, q_ta, q_ta1, q_put, q_puts, q_ti, q_ti1, q_ti2, q_tt, q_tnil, q_tcons, q_tcons1, q_augN, q_augN0, q_augN1, q_augN2, q_augA, q_augA1, q_augA2, q_augA3, q_augA4, q_ret, q_ret1, q_if, q_if1, q_wh1, q_wh2, q_wh3, q_wh4, q_for1, q_for2, q_forE, q_forE1, q_fo2, q_fo3, q_fo4, q_fo5, q_cont, q_fin1, q_fin2, eq_self, Int.toNat_zero, Int.toNat_one, Int.reduceToNat, List.cons.injEq, and_true, true_and, false_and, and_false, Nat.reduceEqDiff, Int.reduceEq, Int.reduceLT, Int.reduceLE, Int.reduceNeg, Int.lt_irrefl, Nat.lt_irrefl, not_true_eq_false, not_false_eq_true, and_self, List.getElem?_cons_zero, List.getElem?_cons_succ, List.set_cons_zero, List.set_cons_succ, List.length_cons, List.length_nil, List.map_cons, List.map_nil, List.replicate, List.cons_append, List.nil_append, Nat.reduceAdd, Nat.reduceLT, Nat.reduceLeDiff, reduceIte, plainV, setLoc, Bool.not_true, Bool.not_false, if_true, if_false, Bool.false_eq_true, decide_true, decide_false, Nat.zero_lt_succ, reduceCtorEq, decide_eq_true_eq, optI]
  · simp only [h, q_val, q_loc, q_loc1, q_tup, q_tup1, q_list, q_list1, q_nil, q_cons, q_cons1, q_cons2, q_attr, q_attr1, q_item, q_item1, q_item2, q_ofO, q_ofB, q_slice, q_slice1, q_slice2, q_slice3, q_slice4, q_bin, q_bin1, q_bin2, q_neg, q_neg1, q_not, q_not1, q_cmp, q_cmp1, q_cmp2, q_bop, q_bop1, q_bop2, q_and, q_or, q_ite, q_ite1, q_call, q_call1, q_call2, q_fn, q_bi, q_isbi, q_meth, q_meth1, q_meth2, q_meth3, q_methf, q_methb, q_comp, q_comp1, q_comp2, q_dict, q_snil, q_scons, q_seq, q_seqr, q_seqc, q_expr, q_expr1, q_asg, q_asg1, q_so, q_tn, q_set, q_sets, q_ta, q_ta1, q_put, q_puts, q_ti, q_ti1, q_ti2, q_tt, q_tnil, q_tcons, q_tcons1, q_augN, q_augN0, q_augN1, q_augN2, q_augA, q_augA1, q_augA2, q_augA3, q_augA4, q_ret, q_ret1, q_if, q_if1, q_wh1, q_wh2, q_wh3, q_wh4, q_for1, q_for2, q_forE, q_forE1, q_fo2, q_fo3, q_fo4, q_fo5, q_cont, q_fin1, q_fin2, eq_self, Int.toNat_zero, Int.toNat_one, Int.reduceToNat, List.cons.injEq, and_true, true_and, false_and, and_false, Nat.reduceEqDiff, Int.reduceEq, Int.reduceLT, Int.reduceLE, Int.reduceNeg, Int.lt_irrefl, Nat.lt_irrefl, not_true_eq_false, not_false_eq_true, and_self, List.getElem?_cons_zero, List.getElem?_cons_succ, List.set_cons_zero, List.set_cons_succ, List.length_cons, List.length_nil, List.map_cons, List.map_nil, List.replicate, List.cons_append, List.nil_append, Nat.reduceAdd, Nat.reduceLT, Nat.reduceLeDiff, reduceIte, plainV, setLoc, Bool.not_true, Bool.not_false, if_true, if_false, Bool.false_eq_true, decide_true, decide_false, Nat.zero_lt_succ, reduceCtorEq, decide_eq_true_eq, optI]
theorem sp30 (S : Std P) (hd : 1 ≤ d) {k a : Nat} : callD P N d 30 [.str s, .int a, .int k] H = .ok (optI (rposEnd s k a)) H := by
  obtain ⟨e, rfl, _⟩ := lev (by omega : 1 ≤ d)
  rw [callD_eq S.b30 rfl]
  have e1 : (((s.length : Int) - (a : Int)) = (k : Int)) = (s.length = a + k) := by simp only [eq_iff_iff]; omega
  simp only [b30, q_val, q_loc, q_loc1, q_tup, q_tup1, q_list, q_list1, q_nil, q_cons, q_cons1, q_cons2, q_attr, q_attr1, q_item, q_item1, q_item2, q_ofO, q_ofB, q_slice, q_slice1, q_slice2, q_slice3, q_slice4, q_bin, q_bin1, q_bin2, q_neg, q_neg1, q_not, q_not1, q_cmp, q_cmp1, q_cmp2, q_bop, q_bop1, q_bop2, q_and, q_or, q_ite, q_ite1, q_call, q_call1, q_call2, q_fn, q_bi, q_isbi, q_meth, q_meth1, q_meth2, q_meth3, q_methf, q_methb, q_comp, q_comp1, q_comp2, q_dict, q_snil, q_scons, q_seq, q_seqr, q_seqc, q_expr, q_expr1, q_asg, q_asg1, q_so, q_tn, q_set, q_sets, q_ta, q_ta1, q_put, q_puts, q_ti, q_ti1, q_ti2, q_tt, q_tnil, q_tcons, q_tcons1, q_augN, q_augN0, q_augN1, q_augN2, q_augA, q_augA1, q_augA2, q_augA3, q_augA4, q_ret, q_ret1, q_if, q_if1, q_wh1, q_wh2, q_wh3, q_wh4, q_for1, q_for2, q_forE, q_forE1, q_fo2, q_fo3, q_fo4, q_fo5, q_cont, q_fin1, q_fin2, eq_self, Int.toNat_zero, Int.toNat_one, Int.reduceToNat, List.cons.injEq, and_true, true_and, false_and, and_false, Nat.reduceEqDiff, Int.reduceEq, Int.reduceLT, Int.reduceLE, Int.reduceNeg, Int.lt_irrefl, Nat.lt_irrefl, not_true_eq_false, not_false_eq_true, and_self, List.getElem?_cons_zero, List.getElem?_cons_succ, List.set_cons_zero, List.set_cons_succ, List.length_cons, List.length_nil, List.map_cons, List.map_nil, List.replicate, List.cons_append, List.nil_append, Nat.reduceAdd, Nat.reduceLT, Nat.reduceLeDiff, reduceIte, plainV, setLoc, Bool.not_true, Bool.not_false, if_true, if_false, Bool.false_eq_true, decide_true, decide_false, Nat.zero_lt_succ, reduceCtorEq, decide_eq_true_eq, cmpV, isV, aeq, biV, lenV, isiV, binV, addV, catV, augV, itemV, itemN, natOf, Option.bind_some, sliceV, skOf, partN, stK, SK.of, SK.back, SK.ap, Option.bind_some, bimV, liV, popV, extV, joinV, iterOf, stepIt, tgV, tgVs, lookL, setL, truthV, Option.map_some, Option.map_none, Option.bind_some, e1, rposEnd]
  by_cases h : s.length = a + k
  · simp only [h, q_val, q_loc, q_loc1, q_tup, q_tup1, q_list, q_list1, q_nil, q_cons, q_cons1, q_cons2, q_attr, q_attr1, q_item, q_item1, q_item2, q_ofO, q_ofB, q_slice, q_slice1, q_slice2, q_slice3, q_slice4, q_bin, q_bin1, q_bin2, q_neg, q_neg1, q_not, q_not1, q_cmp, q_cmp1, q_cmp2, q_bop, q_bop1, q_bop2, q_and, q_or, q_ite, q_ite1, q_call, q_call1, q_call2, q_fn, q_bi, q_isbi, q_meth, q_meth1, q_meth2, q_meth3, q_methf, q_methb, q_comp, q_comp1, q_comp2, q_dict, q_snil, q_scons, q_seq, q_seqr, q_seqc, q_expr, q_expr1, q_asg, q_asg1, q_so, q_tn, q_set, q_sets, q_ta, q_ta1, q_put, q_puts, q_ti, q_ti1, q_ti2, q_tt, q_tnil, q_tcons, q_tcons1, q_augN, q_augN0, q_augN1, q_augN2, q_augA, q_augA1, q_augA2, q_augA3, q_augA4, q_ret, q_ret1, q_if, q_if1, q_wh1, q_wh2, q_wh3, q_wh4, q_for1, q_for2, q_forE, q_forE1, q_fo2, q_fo3, q_fo4, q_fo5, q_cont, q_fin1, q_fin2, eq_self, Int.toNat_zero, Int.toNat_one, Int.reduceToNat, List.cons.injEq, and_true, true_and, false_and, and_false, Nat.reduceEqDiff, Int.reduceEq, Int.reduceLT, Int.reduceLE, Int.reduceNeg, Int.lt_irrefl, Nat.lt_irrefl, not_true_eq_false, not_false_eq_true, and_self, List.getElem?_cons_zero, List.getElem?_cons_succ, List.set_cons_zero, List.set_cons_succ, List.length_cons, List.length_nil, List.map_cons, List.map_nil, List.replicate, List.cons_append, List.nil_append, Nat.reduceAdd, Nat.reduceLT, Nat.reduceLeDiff, reduceIte, plainV, setLoc, Bool.not_true, Bool.not_false, if_true, if_false, Bool.false_eq_true, decide_true, decide_false, Nat.zero_lt_succ, reduceCtorEq, decide_eq_true_eq, optI]
  · simp only [h, q_val, q_loc, q_loc1, q_tup, q_tup1, q_list, q_list1, q_nil, q_cons, q_cons1, q_cons2, q_attr, q_attr1, q_item, q_item1, q_item2, q_ofO, q_ofB, q_slice, q_slice1, q_slice2, q_slice3, q_slice4, q_bin, q_bin1, q_bin2, q_neg, q_neg1, q_not, q_not1, q_cmp, q_cmp1, q_cmp2, q_bop, q_bop1, q_bop2, q_and, q_or, q_ite, q_ite1, q_call, q_call1, q_call2, q_fn, q_bi, q_isbi, q_meth, q_meth1, q_meth2, q_meth3, q_methf, q_methb, q_comp, q_comp1, q_comp2, q_dict, q_snil, q_scons, q_seq, q_seqr, q_seqc, q_expr, q_expr1, q_asg, q_asg1, q_so, q_tn, q_set, q_sets, q_ta, q_ta1, q_put, q_puts, q_ti, q_ti1, q_ti2, q_tt, q_tnil, q_tcons, q_tcons1, q_augN, q_augN0, q_augN1, q_augN2, q_augA, q_augA1, q_augA2, q_augA3, q_augA4, q_ret, q_ret1, q_if, q_if1, q_wh1, q_wh2, q_wh3, q_wh4, q_for1, q_for2, q_forE, q_forE1, q_fo2, q_fo3, q_fo4, q_fo5, q_cont, q_fin1, q_fin2, eq_self, Int.toNat_zero, Int.toNat_one, Int.reduceToNat, List.cons.injEq, and_true, true_and, false_and, and_false, Nat.reduceEqDiff, Int.reduceEq, Int.reduceLT, Int.reduceLE, Int.reduceNeg, Int.lt_irrefl, Nat.lt_irrefl, not_true_eq_false, not_false_eq_true, and_self, List.getElem?_cons_zero, List.getElem?_cons_succ, List.set_cons_zero, List.set_cons_succ, List.length_cons, List.length_nil, List.map_cons, List.map_nil, List.replicate, List.cons_append, List.nil_append, Nat.reduceAdd, Nat.reduceLT, Nat.reduceLeDiff, reduceIte, plainV, setLoc, Bool.not_true, Bool.not_false, if_true, if_false, Bool.false_eq_true, decide_true, decide_false, Nat.zero_lt_succ, reduceCtorEq, decide_eq_true_eq, optI]
theorem sp35c (S : Std P) (hd : 2 ≤ d) {t : List Nat} {a : Nat} : callD P N d 35 [.str kChars, .str s, .int a, .str t] H = .ok (optI (charsEnd s t a)) H := by
  obtain ⟨e, rfl, _⟩ := lev (by omega : 1 ≤ d)
  rw [callD_eq S.b35 rfl]
  simp only [b35, kOne, kWays, kSplit, kJump, kMark, kName, kDone, kChars, kRpos, kBal, q_val, q_loc, q_loc1, q_tup, q_tup1, q_list, q_list1, q_nil, q_cons, q_cons1, q_cons2, q_attr, q_attr1, q_item, q_item1, q_item2, q_ofO, q_ofB, q_slice, q_slice1, q_slice2, q_slice3, q_slice4, q_bin, q_bin1, q_bin2, q_neg, q_neg1, q_not, q_not1, q_cmp, q_cmp1, q_cmp2, q_bop, q_bop1, q_bop2, q_and, q_or, q_ite, q_ite1, q_call, q_call1, q_call2, q_fn, q_bi, q_isbi, q_meth, q_meth1, q_meth2, q_meth3, q_methf, q_methb, q_comp, q_comp1, q_comp2, q_dict, q_snil, q_scons, q_seq, q_seqr, q_seqc, q_expr, q_expr1, q_asg, q_asg1, q_so, q_tn, q_set, q_sets, q_ta, q_ta1, q_put, q_puts, q_ti, q_ti1, q_ti2, q_tt, q_tnil, q_tcons, q_tcons1, q_augN, q_augN0, q_augN1, q_augN2, q_augA, q_augA1, q_augA2, q_augA3, q_augA4, q_ret, q_ret1, q_if, q_if1, q_wh1, q_wh2, q_wh3, q_wh4, q_for1, q_for2, q_forE, q_forE1, q_fo2, q_fo3, q_fo4, q_fo5, q_cont, q_fin1, q_fin2, eq_self, Int.toNat_zero, Int.toNat_one, Int.reduceToNat, List.cons.injEq, and_true, true_and, false_and, and_false, Nat.reduceEqDiff, Int.reduceEq, Int.reduceLT, Int.reduceLE, Int.reduceNeg, Int.lt_irrefl, Nat.lt_irrefl, not_true_eq_false, not_false_eq_true, and_self, List.getElem?_cons_zero, List.getElem?_cons_succ, List.set_cons_zero, List.set_cons_succ, List.length_cons, List.length_nil, List.map_cons, List.map_nil, List.replicate, List.cons_append, List.nil_append, Nat.reduceAdd, Nat.reduceLT, Nat.reduceLeDiff, reduceIte, plainV, setLoc, Bool.not_true, Bool.not_false, if_true, if_false, Bool.false_eq_true, decide_true, decide_false, Nat.zero_lt_succ, reduceCtorEq, decide_eq_true_eq, cmpV, isV, aeq, biV, lenV, isiV, binV, addV, catV, augV, itemV, itemN, natOf, Option.bind_some, sliceV, skOf, partN, stK, SK.of, SK.back, SK.ap, Option.bind_some, bimV, liV, popV, extV, joinV, iterOf, stepIt, tgV, tgVs, lookL, setL, truthV, Option.map_some, Option.map_none, Option.bind_some, isf S.b28, sp28 S (d := e) (by omega)]
theorem sp35r (S : Std P) (hd : 2 ≤ d) {k a : Nat} : callD P N d 35 [.str kRpos, .str s, .int a, .int k] H = .ok (optI (rposEnd s k a)) H := by
  obtain ⟨e, rfl, _⟩ := lev (by omega : 1 ≤ d)
  rw [callD_eq S.b35 rfl]
  simp only [b35, kOne, kWays, kSplit, kJump, kMark, kName, kDone, kChars, kRpos, kBal, q_val, q_loc, q_loc1, q_tup, q_tup1, q_list, q_list1, q_nil, q_cons, q_cons1, q_cons2, q_attr, q_attr1, q_item, q_item1, q_item2, q_ofO, q_ofB, q_slice, q_slice1, q_slice2, q_slice3, q_slice4, q_bin, q_bin1, q_bin2, q_neg, q_neg1, q_not, q_not1, q_cmp, q_cmp1, q_cmp2, q_bop, q_bop1, q_bop2, q_and, q_or, q_ite, q_ite1, q_call, q_call1, q_call2, q_fn, q_bi, q_isbi, q_meth, q_meth1, q_meth2, q_meth3, q_methf, q_methb, q_comp, q_comp1, q_comp2, q_dict, q_snil, q_scons, q_seq, q_seqr, q_seqc, q_expr, q_expr1, q_asg, q_asg1, q_so, q_tn, q_set, q_sets, q_ta, q_ta1, q_put, q_puts, q_ti, q_ti1, q_ti2, q_tt, q_tnil, q_tcons, q_tcons1, q_augN, q_augN0, q_augN1, q_augN2, q_augA, q_augA1, q_augA2, q_augA3, q_augA4, q_ret, q_ret1, q_if, q_if1, q_wh1, q_wh2, q_wh3, q_wh4, q_for1, q_for2, q_forE, q_forE1, q_fo2, q_fo3, q_fo4, q_fo5, q_cont, q_fin1, q_fin2, eq_self, Int.toNat_zero, Int.toNat_one, Int.reduceToNat, List.cons.injEq, and_true, true_and, false_and, and_false, Nat.reduceEqDiff, Int.reduceEq, Int.reduceLT, Int.reduceLE, Int.reduceNeg, Int.lt_irrefl, Nat.lt_irrefl, not_true_eq_false, not_false_eq_true, and_self, List.getElem?_cons_zero, List.getElem?_cons_succ, List.set_cons_zero, List.set_cons_succ, List.length_cons, List.length_nil, List.map_cons, List.map_nil, List.replicate, List.cons_append, List.nil_append, Nat.reduceAdd, Nat.reduceLT, Nat.reduceLeDiff, reduceIte, plainV, setLoc, Bool.not_true, Bool.not_false, if_true, if_false, Bool.false_eq_true, decide_true, decide_false, Nat.zero_lt_succ, reduceCtorEq, decide_eq_true_eq, cmpV, isV, aeq, biV, lenV, isiV, binV, addV, catV, augV, itemV, itemN, natOf, Option.bind_some, sliceV, skOf, partN, stK, SK.of, SK.back, SK.ap, Option.bind_some, bimV, liV, popV, extV, joinV, iterOf, stepIt, tgV, tgVs, lookL, setL, truthV, Option.map_some, Option.map_none, Option.bind_some, isf S.b30, sp30 S (d := e) (by omega)]
/-- the end that one kind gives, at its told value -/
noncomputable def OneEnd (P : P0) (N : Nat) (d : Nat) (kind : List Nat) (told : AV) (s : List Nat) (a : Nat) (o : Option Nat) : Prop := kind ≠ [114, 101, 109] ∧ ∀ H, callD P N d 35 [.str kind, .str s, .int a, told] H = .ok (optI o) H
theorem sp36 (S : Std P) (hd : 1 ≤ d) {kind : List Nat} {told : AV} {a : Nat} {o : Option Nat} (h : OneEnd P N (d - 1) kind told s a o) : callD P N d 36 [.tup [.str kind, told], .str s, .int a] H = .ok (optI o) H := by
  obtain ⟨e, rfl, he⟩ := lev (by omega : 1 ≤ d)
  rw [he] at h
  obtain ⟨h1, h2⟩ := h
  rw [callD_eq S.b36 rfl]
  simp only [b36, q_val, q_loc, q_loc1, q_tup, q_tup1, q_list, q_list1, q_nil, q_cons, q_cons1, q_cons2, q_attr, q_attr1, q_item, q_item1, q_item2, q_ofO, q_ofB, q_slice, q_slice1, q_slice2, q_slice3, q_slice4, q_bin, q_bin1, q_bin2, q_neg, q_neg1, q_not, q_not1, q_cmp, q_cmp1, q_cmp2, q_bop, q_bop1, q_bop2, q_and, q_or, q_ite, q_ite1, q_call, q_call1, q_call2, q_fn, q_bi, q_isbi, q_meth, q_meth1, q_meth2, q_meth3, q_methf, q_methb, q_comp, q_comp1, q_comp2, q_dict, q_snil, q_scons, q_seq, q_seqr, q_seqc, q_expr, q_expr1, q_asg, q_asg1, q_so, q_tn, q_set, q_sets, q_ta, q_ta1, q_put, q_puts, q_ti, q_ti1, q_ti2, q_tt, q_tnil, q_tcons, q_tcons1, q_augN, q_augN0, q_augN1, q_augN2, q_augA, q_augA1, q_augA2, q_augA3, q_augA4, q_ret, q_ret1, q_if, q_if1, q_wh1, q_wh2, q_wh3, q_wh4, q_for1, q_for2, q_forE, q_forE1, q_fo2, q_fo3, q_fo4, q_fo5, q_cont, q_fin1, q_fin2, eq_self, Int.toNat_zero, Int.toNat_one, Int.reduceToNat, List.cons.injEq, and_true, true_and, false_and, and_false, Nat.reduceEqDiff, Int.reduceEq, Int.reduceLT, Int.reduceLE, Int.reduceNeg, Int.lt_irrefl, Nat.lt_irrefl, not_true_eq_false, not_false_eq_true, and_self, List.getElem?_cons_zero, List.getElem?_cons_succ, List.set_cons_zero, List.set_cons_succ, List.length_cons, List.length_nil, List.map_cons, List.map_nil, List.replicate, List.cons_append, List.nil_append, Nat.reduceAdd, Nat.reduceLT, Nat.reduceLeDiff, reduceIte, plainV, setLoc, Bool.not_true, Bool.not_false, if_true, if_false, Bool.false_eq_true, decide_true, decide_false, Nat.zero_lt_succ, reduceCtorEq, decide_eq_true_eq, cmpV, isV, aeq, biV, lenV, isiV, binV, addV, catV, augV, itemV, itemN, natOf, Option.bind_some, sliceV, skOf, partN, stK, SK.of, SK.back, SK.ap, Option.bind_some, bimV, liV, popV, extV, joinV, iterOf, stepIt, tgV, tgVs, lookL, setL, truthV, Option.map_some, Option.map_none, Option.bind_some, h1, isf S.b35, h2]
noncomputable def notTup : AV → Bool
  | .str _ => true
  | .int _ => true
  | .none => true
  | _ => false
theorem isi_no {told : AV} (h : notTup told = true) {H : AH} : biV H .isi [told, .bi .tuple] = .ok (.bool false) H := by
  cases told <;> first | rfl | cases h
noncomputable def endR (H : AH) (iw : Nat) (w : Wy) : Option Nat → Out AV
  | none => .ok (.bool false) H
  | some n => .ok (.bool true) (H.set iw (wyObj { w with at_ := n, pc := w.pc + 1 }))
theorem sp19 (S : Std P) (hd : 3 ≤ d) {kind : List Nat} {told : AV} {o : Option Nat} (ht : notTup told = true) (hm : H[im]? = some (mtObj s ihost ih)) (hw : H[iw]? = some (wyObj w)) (h : OneEnd P N (d - 2) kind told s w.at_ o) :
    callD P N d 19 [.ref im, .tup [.str kOne, .str kind, told], .ref iw] H = endR H iw w o := by
  obtain ⟨e, rfl, he⟩ := lev (by omega : 1 ≤ d)
  rw [callD_eq S.b19 rfl]
  have h6 := fun H => sp36 (H := H) (d := e) S (by omega) (show OneEnd P N (e - 1) kind told s w.at_ o by rw [show e - 1 = e + 1 - 2 by omega]; exact h)
  have i2 : Int.toNat 2 = 2 := rfl
  cases o with
  | none => simp only [b19, kOne, kWays, kSplit, kJump, kMark, kName, kDone, kChars, kRpos, kBal, q_val, q_loc, q_loc1, q_tup, q_tup1, q_list, q_list1, q_nil, q_cons, q_cons1, q_cons2, q_attr, q_attr1, q_item, q_item1, q_item2, q_ofO, q_ofB, q_slice, q_slice1, q_slice2, q_slice3, q_slice4, q_bin, q_bin1, q_bin2, q_neg, q_neg1, q_not, q_not1, q_cmp, q_cmp1, q_cmp2, q_bop, q_bop1, q_bop2, q_and, q_or, q_ite, q_ite1, q_call, q_call1, q_call2, q_fn, q_bi, q_isbi, q_meth, q_meth1, q_meth2, q_meth3, q_methf, q_methb, q_comp, q_comp1, q_comp2, q_dict, q_snil, q_scons, q_seq, q_seqr, q_seqc, q_expr, q_expr1, q_asg, q_asg1, q_so, q_tn, q_set, q_sets, q_ta, q_ta1, q_put, q_puts, q_ti, q_ti1, q_ti2, q_tt, q_tnil, q_tcons, q_tcons1, q_augN, q_augN0, q_augN1, q_augN2, q_augA, q_augA1, q_augA2, q_augA3, q_augA4, q_ret, q_ret1, q_if, q_if1, q_wh1, q_wh2, q_wh3, q_wh4, q_for1, q_for2, q_forE, q_forE1, q_fo2, q_fo3, q_fo4, q_fo5, q_cont, q_fin1, q_fin2, eq_self, Int.toNat_zero, Int.toNat_one, Int.reduceToNat, List.cons.injEq, and_true, true_and, false_and, and_false, Nat.reduceEqDiff, Int.reduceEq, Int.reduceLT, Int.reduceLE, Int.reduceNeg, Int.lt_irrefl, Nat.lt_irrefl, not_true_eq_false, not_false_eq_true, and_self, List.getElem?_cons_zero, List.getElem?_cons_succ, List.set_cons_zero, List.set_cons_succ, List.length_cons, List.length_nil, List.map_cons, List.map_nil, List.replicate, List.cons_append, List.nil_append, Nat.reduceAdd, Nat.reduceLT, Nat.reduceLeDiff, reduceIte, plainV, setLoc, Bool.not_true, Bool.not_false, if_true, if_false, Bool.false_eq_true, decide_true, decide_false, Nat.zero_lt_succ, reduceCtorEq, decide_eq_true_eq, itemV, itemN, natOf, Option.bind_some, natOf, cmpV, isV, i2, isi_no ht, isf S.b36, m_s S hm, w_at S hw, h6, optI, endR]
  | some n =>
    have hw2 := setS' (y := wyObj { w with at_ := n }) hw
    simp only [b19, kOne, kWays, kSplit, kJump, kMark, kName, kDone, kChars, kRpos, kBal, q_val, q_loc, q_loc1, q_tup, q_tup1, q_list, q_list1, q_nil, q_cons, q_cons1, q_cons2, q_attr, q_attr1, q_item, q_item1, q_item2, q_ofO, q_ofB, q_slice, q_slice1, q_slice2, q_slice3, q_slice4, q_bin, q_bin1, q_bin2, q_neg, q_neg1, q_not, q_not1, q_cmp, q_cmp1, q_cmp2, q_bop, q_bop1, q_bop2, q_and, q_or, q_ite, q_ite1, q_call, q_call1, q_call2, q_fn, q_bi, q_isbi, q_meth, q_meth1, q_meth2, q_meth3, q_methf, q_methb, q_comp, q_comp1, q_comp2, q_dict, q_snil, q_scons, q_seq, q_seqr, q_seqc, q_expr, q_expr1, q_asg, q_asg1, q_so, q_tn, q_set, q_sets, q_ta, q_ta1, q_put, q_puts, q_ti, q_ti1, q_ti2, q_tt, q_tnil, q_tcons, q_tcons1, q_augN, q_augN0, q_augN1, q_augN2, q_augA, q_augA1, q_augA2, q_augA3, q_augA4, q_ret, q_ret1, q_if, q_if1, q_wh1, q_wh2, q_wh3, q_wh4, q_for1, q_for2, q_forE, q_forE1, q_fo2, q_fo3, q_fo4, q_fo5, q_cont, q_fin1, q_fin2, eq_self, Int.toNat_zero, Int.toNat_one, Int.reduceToNat, List.cons.injEq, and_true, true_and, false_and, and_false, Nat.reduceEqDiff, Int.reduceEq, Int.reduceLT, Int.reduceLE, Int.reduceNeg, Int.lt_irrefl, Nat.lt_irrefl, not_true_eq_false, not_false_eq_true, and_self, List.getElem?_cons_zero, List.getElem?_cons_succ, List.set_cons_zero, List.set_cons_succ, List.length_cons, List.length_nil, List.map_cons, List.map_nil, List.replicate, List.cons_append, List.nil_append, Nat.reduceAdd, Nat.reduceLT, Nat.reduceLeDiff, reduceIte, plainV, setLoc, Bool.not_true, Bool.not_false, if_true, if_false, Bool.false_eq_true, decide_true, decide_false, Nat.zero_lt_succ, reduceCtorEq, decide_eq_true_eq, itemV, itemN, natOf, Option.bind_some, natOf, cmpV, isV, augV, i2, isi_no ht, isf S.b36, m_s S hm, w_at S hw, h6, optI, p_at S hw rfl, w_pc S hw2, p_pc S hw2 iS, List.set_set, endR]
theorem dn_one (S : Std P) (hd : 4 ≤ d) {kind : List Nat} {told : AV} {o : Option Nat} (ht : notTup told = true) (hm : H[im]? = some (mtObj s ihost ih)) (hw : H[iw]? = some (wyObj w)) (h : OneEnd P N (d - 3) kind told s w.at_ o) :
    callD P N d 18 [.ref im, .tup [.str kOne, .str kind, told], .ref iw] H = endR H iw w o := by
  obtain ⟨e, rfl, _⟩ := lev (by omega : 1 ≤ d)
  rw [callD_eq S.b18 rfl]
  have hh := m_m (m := 37) (k := 19) S hm rfl (by decide) (by decide) (by decide)
  have h9 := sp19 (d := e) S (by omega) ht hm hw (show OneEnd P N (e - 2) kind told s w.at_ o by rw [show e - 2 = e + 1 - 3 by omega]; exact h)
  simp only [kOne] at h9
  cases o with
  | none => simp only [endR] at h9; simp only [b18, kOne, kWays, kSplit, kJump, kMark, kName, kDone, kChars, kRpos, kBal, q_val, q_loc, q_loc1, q_tup, q_tup1, q_list, q_list1, q_nil, q_cons, q_cons1, q_cons2, q_attr, q_attr1, q_item, q_item1, q_item2, q_ofO, q_ofB, q_slice, q_slice1, q_slice2, q_slice3, q_slice4, q_bin, q_bin1, q_bin2, q_neg, q_neg1, q_not, q_not1, q_cmp, q_cmp1, q_cmp2, q_bop, q_bop1, q_bop2, q_and, q_or, q_ite, q_ite1, q_call, q_call1, q_call2, q_fn, q_bi, q_isbi, q_meth, q_meth1, q_meth2, q_meth3, q_methf, q_methb, q_comp, q_comp1, q_comp2, q_dict, q_snil, q_scons, q_seq, q_seqr, q_seqc, q_expr, q_expr1, q_asg, q_asg1, q_so, q_tn, q_set, q_sets, q_ta, q_ta1, q_put, q_puts, q_ti, q_ti1, q_ti2, q_tt, q_tnil, q_tcons, q_tcons1, q_augN, q_augN0, q_augN1, q_augN2, q_augA, q_augA1, q_augA2, q_augA3, q_augA4, q_ret, q_ret1, q_if, q_if1, q_wh1, q_wh2, q_wh3, q_wh4, q_for1, q_for2, q_forE, q_forE1, q_fo2, q_fo3, q_fo4, q_fo5, q_cont, q_fin1, q_fin2, eq_self, Int.toNat_zero, Int.toNat_one, Int.reduceToNat, List.cons.injEq, and_true, true_and, false_and, and_false, Nat.reduceEqDiff, Int.reduceEq, Int.reduceLT, Int.reduceLE, Int.reduceNeg, Int.lt_irrefl, Nat.lt_irrefl, not_true_eq_false, not_false_eq_true, and_self, List.getElem?_cons_zero, List.getElem?_cons_succ, List.set_cons_zero, List.set_cons_succ, List.length_cons, List.length_nil, List.map_cons, List.map_nil, List.replicate, List.cons_append, List.nil_append, Nat.reduceAdd, Nat.reduceLT, Nat.reduceLeDiff, reduceIte, plainV, setLoc, Bool.not_true, Bool.not_false, if_true, if_false, Bool.false_eq_true, decide_true, decide_false, Nat.zero_lt_succ, reduceCtorEq, decide_eq_true_eq, cmpV, isV, aeq, biV, lenV, isiV, binV, addV, catV, augV, itemV, itemN, natOf, Option.bind_some, sliceV, skOf, partN, stK, SK.of, SK.back, SK.ap, Option.bind_some, bimV, liV, popV, extV, joinV, iterOf, stepIt, tgV, tgVs, lookL, setL, truthV, Option.map_some, Option.map_none, Option.bind_some, hh, h9, endR]
  | some n => simp only [endR] at h9; simp only [b18, kOne, kWays, kSplit, kJump, kMark, kName, kDone, kChars, kRpos, kBal, q_val, q_loc, q_loc1, q_tup, q_tup1, q_list, q_list1, q_nil, q_cons, q_cons1, q_cons2, q_attr, q_attr1, q_item, q_item1, q_item2, q_ofO, q_ofB, q_slice, q_slice1, q_slice2, q_slice3, q_slice4, q_bin, q_bin1, q_bin2, q_neg, q_neg1, q_not, q_not1, q_cmp, q_cmp1, q_cmp2, q_bop, q_bop1, q_bop2, q_and, q_or, q_ite, q_ite1, q_call, q_call1, q_call2, q_fn, q_bi, q_isbi, q_meth, q_meth1, q_meth2, q_meth3, q_methf, q_methb, q_comp, q_comp1, q_comp2, q_dict, q_snil, q_scons, q_seq, q_seqr, q_seqc, q_expr, q_expr1, q_asg, q_asg1, q_so, q_tn, q_set, q_sets, q_ta, q_ta1, q_put, q_puts, q_ti, q_ti1, q_ti2, q_tt, q_tnil, q_tcons, q_tcons1, q_augN, q_augN0, q_augN1, q_augN2, q_augA, q_augA1, q_augA2, q_augA3, q_augA4, q_ret, q_ret1, q_if, q_if1, q_wh1, q_wh2, q_wh3, q_wh4, q_for1, q_for2, q_forE, q_forE1, q_fo2, q_fo3, q_fo4, q_fo5, q_cont, q_fin1, q_fin2, eq_self, Int.toNat_zero, Int.toNat_one, Int.reduceToNat, List.cons.injEq, and_true, true_and, false_and, and_false, Nat.reduceEqDiff, Int.reduceEq, Int.reduceLT, Int.reduceLE, Int.reduceNeg, Int.lt_irrefl, Nat.lt_irrefl, not_true_eq_false, not_false_eq_true, and_self, List.getElem?_cons_zero, List.getElem?_cons_succ, List.set_cons_zero, List.set_cons_succ, List.length_cons, List.length_nil, List.map_cons, List.map_nil, List.replicate, List.cons_append, List.nil_append, Nat.reduceAdd, Nat.reduceLT, Nat.reduceLeDiff, reduceIte, plainV, setLoc, Bool.not_true, Bool.not_false, if_true, if_false, Bool.false_eq_true, decide_true, decide_false, Nat.zero_lt_succ, reduceCtorEq, decide_eq_true_eq, cmpV, isV, aeq, biV, lenV, isiV, binV, addV, catV, augV, itemV, itemN, natOf, Option.bind_some, sliceV, skOf, partN, stK, SK.of, SK.back, SK.ap, Option.bind_some, bimV, liV, popV, extV, joinV, iterOf, stepIt, tgV, tgVs, lookL, setL, truthV, Option.map_some, Option.map_none, Option.bind_some, hh, h9, endR]
end
end Mine
end -- SpD
section -- SpE
namespace Mine
open PySem
section
variable {P : P0} {N : Nat} {d : Nat} {H : AH} {im iw ih ihost : Nat} {s : List Nat} {w : Wy} {hs : List (Nat × Wy)}
theorem sp37b (S : Std P) (hd : 3 ≤ d) (hN : s.length + 2 < N) (hb : N ≤ 1000000) {a : Nat} (ha : a ≤ s.length) : callD P N d 37 [.str kBal, .str s, .int a, .none] H = .ok (.ref H.length) (H ++ [.list ((ballEnds s a).map vI)]) := by
  obtain ⟨e, rfl, _⟩ := lev (by omega : 1 ≤ d)
  rw [callD_eq S.b37 rfl]
  simp only [b37, kOne, kWays, kSplit, kJump, kMark, kName, kDone, kChars, kRpos, kBal, q_val, q_loc, q_loc1, q_tup, q_tup1, q_list, q_list1, q_nil, q_cons, q_cons1, q_cons2, q_attr, q_attr1, q_item, q_item1, q_item2, q_ofO, q_ofB, q_slice, q_slice1, q_slice2, q_slice3, q_slice4, q_bin, q_bin1, q_bin2, q_neg, q_neg1, q_not, q_not1, q_cmp, q_cmp1, q_cmp2, q_bop, q_bop1, q_bop2, q_and, q_or, q_ite, q_ite1, q_call, q_call1, q_call2, q_fn, q_bi, q_isbi, q_meth, q_meth1, q_meth2, q_meth3, q_methf, q_methb, q_comp, q_comp1, q_comp2, q_dict, q_snil, q_scons, q_seq, q_seqr, q_seqc, q_expr, q_expr1, q_asg, q_asg1, q_so, q_tn, q_set, q_sets, q_ta, q_ta1, q_put, q_puts, q_ti, q_ti1, q_ti2, q_tt, q_tnil, q_tcons, q_tcons1, q_augN, q_augN0, q_augN1, q_augN2, q_augA, q_augA1, q_augA2, q_augA3, q_augA4, q_ret, q_ret1, q_if, q_if1, q_wh1, q_wh2, q_wh3, q_wh4, q_for1, q_for2, q_forE, q_forE1, q_fo2, q_fo3, q_fo4, q_fo5, q_cont, q_fin1, q_fin2, eq_self, Int.toNat_zero, Int.toNat_one, Int.reduceToNat, List.cons.injEq, and_true, true_and, false_and, and_false, Nat.reduceEqDiff, Int.reduceEq, Int.reduceLT, Int.reduceLE, Int.reduceNeg, Int.lt_irrefl, Nat.lt_irrefl, not_true_eq_false, not_false_eq_true, and_self, List.getElem?_cons_zero, List.getElem?_cons_succ, List.set_cons_zero, List.set_cons_succ, List.length_cons, List.length_nil, List.map_cons, List.map_nil, List.replicate, List.cons_append, List.nil_append, Nat.reduceAdd, Nat.reduceLT, Nat.reduceLeDiff, reduceIte, plainV, setLoc, Bool.not_true, Bool.not_false, if_true, if_false, Bool.false_eq_true, decide_true, decide_false, Nat.zero_lt_succ, reduceCtorEq, decide_eq_true_eq, cmpV, isV, aeq, biV, lenV, isiV, binV, addV, catV, augV, itemV, itemN, natOf, Option.bind_some, sliceV, skOf, partN, stK, SK.of, SK.back, SK.ap, Option.bind_some, bimV, liV, popV, extV, joinV, iterOf, stepIt, tgV, tgVs, lookL, setL, truthV, Option.map_some, Option.map_none, Option.bind_some, isf S.b34, sp34 (d := e) S (by omega) hN hb ha]

/-! the machine's own objects -/
noncomputable def refs (hs : List (Nat × Wy)) : List AV := hs.map fun p => .ref p.1
structure MS (H : AH) (im ih ihost iw : Nat) (s : List Nat) (w : Wy) (hs : List (Nat × Wy)) : Prop where
  m : H[im]? = some (mtObj s ihost ih)
  h : H[ih]? = some (.list (refs hs))
  w : H[iw]? = some (wyObj w)
  ws : ∀ p ∈ hs, H[p.1]? = some (wyObj p.2)
  nd : (im :: ih :: ihost :: iw :: hs.map (·.1)).Nodup
theorem lt_of {α : Type} {H : List α} {i : Nat} {x : α} (h : H[i]? = some x) : i < H.length := (List.getElem?_eq_some_iff.mp h).1
/-- other objects stay -/
noncomputable def Stay (ih iw : Nat) (H H' : AH) : Prop := H.length ≤ H'.length ∧ ∀ i x, H[i]? = some x → i ≠ ih → i ≠ iw → H'[i]? = some x
theorem Stay.refl : Stay ih iw H H := ⟨Nat.le_refl _, fun _ _ h _ _ => h⟩
theorem Stay.trans {H1 H2 : AH} (a : Stay ih iw H H1) (b : Stay ih iw H1 H2) : Stay ih iw H H2 := ⟨Nat.le_trans a.1 b.1, fun i x h h1 h2 => b.2 i x (a.2 i x h h1 h2) h1 h2⟩
theorem stayA {y : AObj} : Stay ih iw H (H ++ [y]) := ⟨by simp, fun i x h _ _ => keepA h⟩
theorem stayH {y : AObj} : Stay ih iw H (H.set ih y) := ⟨by simp, fun i x h h1 _ => keepS h (Ne.symm h1)⟩
theorem stayW {y : AObj} : Stay ih iw H (H.set iw y) := ⟨by simp, fun i x h _ h2 => keepS h (Ne.symm h2)⟩
section
variable (M : MS H im ih ihost iw s w hs)
include M
theorem MS.im_ih : im ≠ ih := fun q => by have := M.nd; rw [q] at this; simp at this
theorem MS.im_iw : im ≠ iw := fun q => by have := M.nd; rw [q] at this; simp at this
theorem MS.ih_iw : ih ≠ iw := fun q => by have := M.nd; rw [q] at this; simp at this
theorem MS.host_ih : ihost ≠ ih := fun q => by have := M.nd; rw [q] at this; simp at this
theorem MS.host_iw : ihost ≠ iw := fun q => by have := M.nd; rw [q] at this; simp at this
theorem MS.host_im : ihost ≠ im := fun q => by have := M.nd; rw [q] at this; simp at this
theorem MS.p_ne {p : Nat × Wy} (hp : p ∈ hs) : p.1 ≠ im ∧ p.1 ≠ ih ∧ p.1 ≠ ihost ∧ p.1 ≠ iw := by
  have hm : p.1 ∈ hs.map (·.1) := List.mem_map_of_mem hp
  have := M.nd
  simp only [List.nodup_cons, List.mem_cons, not_or] at this
  obtain ⟨⟨_, _, _, a⟩, ⟨_, _, b⟩, ⟨_, c⟩, e, _⟩ := this
  exact ⟨fun q => a (q ▸ hm), fun q => b (q ▸ hm), fun q => c (q ▸ hm), fun q => e (q ▸ hm)⟩
/-- the way at hand changes -/
theorem MS.setW (w' : Wy) : MS (H.set iw (wyObj w')) im ih ihost iw s w' hs :=
  ⟨keepS M.m M.im_iw.symm, keepS M.h M.ih_iw.symm, setS' M.w, fun p hp => keepS (M.ws p hp) (M.p_ne hp).2.2.2.symm, M.nd⟩
theorem MS.app (y : AObj) : MS (H ++ [y]) im ih ihost iw s w hs :=
  ⟨keepA M.m, keepA M.h, keepA M.w, fun p hp => keepA (M.ws p hp), M.nd⟩
/-- one more way waits -/
theorem MS.push (w' : Wy) (hh : ihost < H.length) : MS ((H ++ [wyObj w']).set ih (.list (refs (hs ++ [(H.length, w')])))) im ih ihost iw s w (hs ++ [(H.length, w')]) := by
  have A := M.app (wyObj w')
  refine ⟨keepS A.m M.im_ih.symm, setS' A.h, keepS A.w M.ih_iw, fun p hp => ?_, ?_⟩
  · rcases List.mem_append.mp hp with hp | hp
    · exact keepS (A.ws p hp) (M.p_ne hp).2.1.symm
    · cases List.mem_singleton.mp hp
      exact keepS (getEnd) (Nat.ne_of_lt (lt_of M.h))
  · have h1 := lt_of M.m
    have h2 := lt_of M.h
    have h3 := lt_of M.w
    have h4 : ∀ p ∈ hs, p.1 < H.length := fun p hp => lt_of (M.ws p hp)
    have nd := M.nd
    rw [List.map_append, show (im :: ih :: ihost :: iw :: (hs.map (·.1) ++ [(H.length, w')].map (·.1))) = (im :: ih :: ihost :: iw :: hs.map (·.1)) ++ [H.length] from rfl]
    refine List.nodup_append.mpr ⟨nd, by simp, fun a ha b hb => ?_⟩
    cases List.mem_singleton.mp hb
    simp only [List.mem_cons, List.mem_map] at ha
    rcases ha with rfl | rfl | rfl | rfl | ⟨p, hp, rfl⟩
    · exact Nat.ne_of_lt h1
    · exact Nat.ne_of_lt h2
    · exact Nat.ne_of_lt hh
    · exact Nat.ne_of_lt h3
    · exact Nat.ne_of_lt (h4 p hp)
end
/-- all ways of a row of ends come on top -/
noncomputable def pushAll (ih : Nat) (w : Wy) : List Nat → AH → List (Nat × Wy) → AH × List (Nat × Wy)
  | [], H, hs => (H, hs)
  | t :: ts, H, hs => pushAll ih w ts ((H ++ [wyObj { w with at_ := t }]).set ih (.list (refs (hs ++ [(H.length, { w with at_ := t })])))) (hs ++ [(H.length, { w with at_ := t })])
theorem pushAll_ms : ∀ (ts : List Nat) (H : AH) (hs : List (Nat × Wy)), MS H im ih ihost iw s w hs → ihost < H.length → MS (pushAll ih w ts H hs).1 im ih ihost iw s w (pushAll ih w ts H hs).2 ∧ Stay ih iw H (pushAll ih w ts H hs).1 ∧
    (pushAll ih w ts H hs).2.map (·.2) = hs.map (·.2) ++ ts.map fun t => { w with at_ := t }
  | [], H, hs, M, hh => ⟨M, .refl, by simp [pushAll]⟩
  | t :: ts, H, hs, M, hh => by
    have A := pushAll_ms ts _ _ (M.push { w with at_ := t } hh) (by simp; omega)
    refine ⟨A.1, (stayA.trans stayH).trans A.2.1, ?_⟩
    rw [show (pushAll ih w (t :: ts) H hs).2 = (pushAll ih w ts ((H ++ [wyObj { w with at_ := t }]).set ih (.list (refs (hs ++ [(H.length, { w with at_ := t })])))) (hs ++ [(H.length, { w with at_ := t })])).2 from rfl, A.2.2]
    simp
theorem sp_f22 (S : Std P) (hd : 2 ≤ d) {il : Nat} {T : List Nat} {e2 : AV} : ∀ (ts : List Nat) (n k : Nat) (H : AH) (hs : List (Nat × Wy)) (x3 x4 : Option AV), ts.length < n → H[il]? = some (.list (T.map vI)) → il ≠ ih → il ≠ iw → T.drop k = ts → MS H im ih ihost iw s w hs → ihost < H.length → hs.length + ts.length < big →
    ∃ x3' x4', foG P (callD P N d) N f22t f22 n (.list il k) [some (.ref im), some (.ref iw), some e2, x3, x4] H = .ok .next [some (.ref im), some (.ref iw), some e2, x3', x4'] (pushAll ih w ts H hs).1
  | ts, 0, _, _, _, _, _, h, _, _, _, _, _, _, _ => absurd h (Nat.not_lt_zero _)
  | [], n + 1, k, H, hs, x3, x4, _, hl, n1, n2, ht, M, hh, _ => by
    refine ⟨x3, x4, q_fo0 ?_⟩
    simp only [stepIt, hl]
    rw [List.getElem?_eq_none (by simpa using ht)]
    rfl
  | t :: ts, n + 1, k, H, hs, x3, x4, h, hl, n1, n2, ht, M, hh, hz => by
    obtain ⟨h1, _, h3⟩ := str_at ht
    have M1 := M.push { w with at_ := t } hh
    have st : Stay ih iw H _ := (stayA (y := wyObj { w with at_ := t })).trans (stayH (y := .list (refs (hs ++ [(H.length, { w with at_ := t })]))))
    have ih' := sp_f22 S hd (il := il) (T := T) (e2 := e2) ts n (k + 1) _ _ (some (.int t)) (some (.ref H.length)) (by simpa using h) (st.2 il _ hl n1 n2) n1 n2 h3 M1 (by simp; omega) (by simp at hz ⊢; omega)
    obtain ⟨y3, y4, ih'⟩ := ih'
    refine ⟨y3, y4, ?_⟩
    rw [q_fo1 (v := .int t) (i' := .list il (k + 1)) (by simp only [stepIt, hl, List.getElem?_map, h1]; rfl)]
    have hm1 := keepA (y := wyObj { w with at_ := t }) M.m
    have hh1 := keepA (y := wyObj { w with at_ := t }) M.h
    have e0 : wyObj { w with pc := w.pc } = wyObj w := rfl
    have pe := p_at (H := H ++ [wyObj w]) (i := H.length) (w := w) S getEnd (n := t) rfl
    have hb : hs.length < big := by simp at hz; omega
    have hc : evSs P (callD P N d) N f22 [some (.ref im), some (.ref iw), some e2, some (.int t), x4] H = .ok .next [some (.ref im), some (.ref iw), some e2, some (.int t), some (.ref H.length)]
        ((H ++ [wyObj { w with at_ := t }]).set ih (.list (refs (hs ++ [(H.length, { w with at_ := t })])))) := by
      simp only [f22, q_val, q_loc, q_loc1, q_tup, q_tup1, q_list, q_list1, q_nil, q_cons, q_cons1, q_cons2, q_attr, q_attr1, q_item, q_item1, q_item2, q_ofO, q_ofB, q_slice, q_slice1, q_slice2, q_slice3, q_slice4, q_bin, q_bin1, q_bin2, q_neg, q_neg1, q_not, q_not1, q_cmp, q_cmp1, q_cmp2, q_bop, q_bop1, q_bop2, q_and, q_or, q_ite, q_ite1, q_call, q_call1, q_call2, q_fn, q_bi, q_isbi, q_meth, q_meth1, q_meth2, q_meth3, q_methf, q_methb, q_comp, q_comp1, q_comp2, q_dict, q_snil, q_scons, q_seq, q_seqr, q_seqc, q_expr, q_expr1, q_asg, q_asg1, q_so, q_tn, q_set, q_sets, q_ta, q_ta1, q_put, q_puts, q_ti, q_ti1, q_ti2, q_tt, q_tnil, q_tcons, q_tcons1, q_augN, q_augN0, q_augN1, q_augN2, q_augA, q_augA1, q_augA2, q_augA3, q_augA4, q_ret, q_ret1, q_if, q_if1, q_wh1, q_wh2, q_wh3, q_wh4, q_for1, q_for2, q_forE, q_forE1, q_fo2, q_fo3, q_fo4, q_fo5, q_cont, q_fin1, q_fin2, eq_self, Int.toNat_zero, Int.toNat_one, Int.reduceToNat, List.cons.injEq, and_true, true_and, false_and, and_false, Nat.reduceEqDiff, Int.reduceEq, Int.reduceLT, Int.reduceLE, Int.reduceNeg, Int.lt_irrefl, Nat.lt_irrefl, not_true_eq_false, not_false_eq_true, and_self, List.getElem?_cons_zero, List.getElem?_cons_succ, List.set_cons_zero, List.set_cons_succ, List.length_cons, List.length_nil, List.map_cons, List.map_nil, List.replicate, List.cons_append, List.nil_append, Nat.reduceAdd, Nat.reduceLT, Nat.reduceLeDiff, reduceIte, plainV, setLoc, Bool.not_true, Bool.not_false, if_true, if_false, Bool.false_eq_true, decide_true, decide_false, Nat.zero_lt_succ, reduceCtorEq, decide_eq_true_eq, w_pc S M.w, w_cop S M.w, sp14 S hd M.w, e0, pe, setEnd, m_hist S hm1, hdl hh1, bimV, liV, popV, extV, joinV, hh1, refs, List.length_map, hb, List.map_append]
    simp only [f22t, q_val, q_loc, q_loc1, q_tup, q_tup1, q_list, q_list1, q_nil, q_cons, q_cons1, q_cons2, q_attr, q_attr1, q_item, q_item1, q_item2, q_ofO, q_ofB, q_slice, q_slice1, q_slice2, q_slice3, q_slice4, q_bin, q_bin1, q_bin2, q_neg, q_neg1, q_not, q_not1, q_cmp, q_cmp1, q_cmp2, q_bop, q_bop1, q_bop2, q_and, q_or, q_ite, q_ite1, q_call, q_call1, q_call2, q_fn, q_bi, q_isbi, q_meth, q_meth1, q_meth2, q_meth3, q_methf, q_methb, q_comp, q_comp1, q_comp2, q_dict, q_snil, q_scons, q_seq, q_seqr, q_seqc, q_expr, q_expr1, q_asg, q_asg1, q_so, q_tn, q_set, q_sets, q_ta, q_ta1, q_put, q_puts, q_ti, q_ti1, q_ti2, q_tt, q_tnil, q_tcons, q_tcons1, q_augN, q_augN0, q_augN1, q_augN2, q_augA, q_augA1, q_augA2, q_augA3, q_augA4, q_ret, q_ret1, q_if, q_if1, q_wh1, q_wh2, q_wh3, q_wh4, q_for1, q_for2, q_forE, q_forE1, q_fo2, q_fo3, q_fo4, q_fo5, q_cont, q_fin1, q_fin2, eq_self, Int.toNat_zero, Int.toNat_one, Int.reduceToNat, List.cons.injEq, and_true, true_and, false_and, and_false, Nat.reduceEqDiff, Int.reduceEq, Int.reduceLT, Int.reduceLE, Int.reduceNeg, Int.lt_irrefl, Nat.lt_irrefl, not_true_eq_false, not_false_eq_true, and_self, List.getElem?_cons_zero, List.getElem?_cons_succ, List.set_cons_zero, List.set_cons_succ, List.length_cons, List.length_nil, List.map_cons, List.map_nil, List.replicate, List.cons_append, List.nil_append, Nat.reduceAdd, Nat.reduceLT, Nat.reduceLeDiff, reduceIte, plainV, setLoc, Bool.not_true, Bool.not_false, if_true, if_false, Bool.false_eq_true, decide_true, decide_false, Nat.zero_lt_succ, reduceCtorEq, decide_eq_true_eq, tgV]
    rw [hc]
    simp only [q_val, q_loc, q_loc1, q_tup, q_tup1, q_list, q_list1, q_nil, q_cons, q_cons1, q_cons2, q_attr, q_attr1, q_item, q_item1, q_item2, q_ofO, q_ofB, q_slice, q_slice1, q_slice2, q_slice3, q_slice4, q_bin, q_bin1, q_bin2, q_neg, q_neg1, q_not, q_not1, q_cmp, q_cmp1, q_cmp2, q_bop, q_bop1, q_bop2, q_and, q_or, q_ite, q_ite1, q_call, q_call1, q_call2, q_fn, q_bi, q_isbi, q_meth, q_meth1, q_meth2, q_meth3, q_methf, q_methb, q_comp, q_comp1, q_comp2, q_dict, q_snil, q_scons, q_seq, q_seqr, q_seqc, q_expr, q_expr1, q_asg, q_asg1, q_so, q_tn, q_set, q_sets, q_ta, q_ta1, q_put, q_puts, q_ti, q_ti1, q_ti2, q_tt, q_tnil, q_tcons, q_tcons1, q_augN, q_augN0, q_augN1, q_augN2, q_augA, q_augA1, q_augA2, q_augA3, q_augA4, q_ret, q_ret1, q_if, q_if1, q_wh1, q_wh2, q_wh3, q_wh4, q_for1, q_for2, q_forE, q_forE1, q_fo2, q_fo3, q_fo4, q_fo5, q_cont, q_fin1, q_fin2, eq_self, Int.toNat_zero, Int.toNat_one, Int.reduceToNat, List.cons.injEq, and_true, true_and, false_and, and_false, Nat.reduceEqDiff, Int.reduceEq, Int.reduceLT, Int.reduceLE, Int.reduceNeg, Int.lt_irrefl, Nat.lt_irrefl, not_true_eq_false, not_false_eq_true, and_self, List.getElem?_cons_zero, List.getElem?_cons_succ, List.set_cons_zero, List.set_cons_succ, List.length_cons, List.length_nil, List.map_cons, List.map_nil, List.replicate, List.cons_append, List.nil_append, Nat.reduceAdd, Nat.reduceLT, Nat.reduceLeDiff, reduceIte, plainV, setLoc, Bool.not_true, Bool.not_false, if_true, if_false, Bool.false_eq_true, decide_true, decide_false, Nat.zero_lt_succ, reduceCtorEq, decide_eq_true_eq]
    exact ih'
end
end Mine
end -- SpE
section -- SpF
namespace Mine
open PySem
section
variable {P : P0} {N : Nat} {d : Nat} {H : AH} {im iw ih ihost : Nat} {s : List Nat} {w : Wy} {hs : List (Nat × Wy)}
/-- what a step of the machine comes to: the way on, and the ways that come on top -/
structure Went (ih iw ihost im : Nat) (s : List Nat) (hs : List (Nat × Wy)) (H : AH) (w' : Wy) (ps : List Wy) (H' : AH) : Prop where
  ms : ∃ hs', MS H' im ih ihost iw s w' (hs ++ hs') ∧ hs'.map (·.2) = ps ∧ ∀ p ∈ hs', H.length ≤ p.1
  stay : Stay ih iw H H'
theorem pushAll_app : ∀ (ts : List Nat) (H : AH) (hs : List (Nat × Wy)), ∃ hs', (pushAll ih w ts H hs).2 = hs ++ hs' ∧ hs'.map (·.2) = (ts.map fun t => { w with at_ := t }) ∧ ∀ p ∈ hs', H.length ≤ p.1
  | [], H, hs => ⟨[], by simp [pushAll], rfl, fun _ h => by cases h⟩
  | t :: ts, H, hs => by
    obtain ⟨hs', e1, e2, e3⟩ := pushAll_app ts ((H ++ [wyObj { w with at_ := t }]).set ih (.list (refs (hs ++ [(H.length, { w with at_ := t })])))) (hs ++ [(H.length, { w with at_ := t })])
    refine ⟨(H.length, { w with at_ := t }) :: hs', by simp [pushAll, e1], by simp [e2], fun p hp => ?_⟩
    rcases List.mem_cons.mp hp with rfl | hp
    · exact Nat.le_refl _
    · have := e3 p hp
      simp at this; omega
theorem sp22 (S : Std P) (hd : 3 ≤ d) {ie : Nat} {es : List Nat} (M : MS H im ih ihost iw s w hs) (hh : ihost < H.length) (hl : H[ie]? = some (.list (es.map vI))) (n1 : ie ≠ ih) (n2 : ie ≠ iw) (hn : es.length < N) (hz : hs.length + es.length < big) :
    match es with
    | [] => callD P N d 22 [.ref im, .ref iw, .ref ie] H = .ok (.bool false) H
    | a :: r => ∃ H', callD P N d 22 [.ref im, .ref iw, .ref ie] H = .ok (.bool true) H' ∧ Went ih iw ihost im s hs H { w with pc := w.pc + 1, at_ := a } (r.reverse.map fun t => { w with pc := w.pc + 1, at_ := t }) H' := by
  obtain ⟨e, rfl, _⟩ := lev (by omega : 1 ≤ d)
  rw [callD_eq S.b22 rfl]
  cases es with
  | nil =>
    dsimp only
    simp only [b22, q_val, q_loc, q_loc1, q_tup, q_tup1, q_list, q_list1, q_nil, q_cons, q_cons1, q_cons2, q_attr, q_attr1, q_item, q_item1, q_item2, q_ofO, q_ofB, q_slice, q_slice1, q_slice2, q_slice3, q_slice4, q_bin, q_bin1, q_bin2, q_neg, q_neg1, q_not, q_not1, q_cmp, q_cmp1, q_cmp2, q_bop, q_bop1, q_bop2, q_and, q_or, q_ite, q_ite1, q_call, q_call1, q_call2, q_fn, q_bi, q_isbi, q_meth, q_meth1, q_meth2, q_meth3, q_methf, q_methb, q_comp, q_comp1, q_comp2, q_dict, q_snil, q_scons, q_seq, q_seqr, q_seqc, q_expr, q_expr1, q_asg, q_asg1, q_so, q_tn, q_set, q_sets, q_ta, q_ta1, q_put, q_puts, q_ti, q_ti1, q_ti2, q_tt, q_tnil, q_tcons, q_tcons1, q_augN, q_augN0, q_augN1, q_augN2, q_augA, q_augA1, q_augA2, q_augA3, q_augA4, q_ret, q_ret1, q_if, q_if1, q_wh1, q_wh2, q_wh3, q_wh4, q_for1, q_for2, q_forE, q_forE1, q_fo2, q_fo3, q_fo4, q_fo5, q_cont, q_fin1, q_fin2, eq_self, Int.toNat_zero, Int.toNat_one, Int.reduceToNat, List.cons.injEq, and_true, true_and, false_and, and_false, Nat.reduceEqDiff, Int.reduceEq, Int.reduceLT, Int.reduceLE, Int.reduceNeg, Int.lt_irrefl, Nat.lt_irrefl, not_true_eq_false, not_false_eq_true, and_self, List.getElem?_cons_zero, List.getElem?_cons_succ, List.set_cons_zero, List.set_cons_succ, List.length_cons, List.length_nil, List.map_cons, List.map_nil, List.replicate, List.cons_append, List.nil_append, Nat.reduceAdd, Nat.reduceLT, Nat.reduceLeDiff, reduceIte, plainV, setLoc, Bool.not_true, Bool.not_false, if_true, if_false, Bool.false_eq_true, decide_true, decide_false, Nat.zero_lt_succ, reduceCtorEq, decide_eq_true_eq, cmpV, isV, aeq, biV, lenV, isiV, binV, addV, catV, augV, itemV, itemN, natOf, Option.bind_some, sliceV, skOf, partN, stK, SK.of, SK.back, SK.ap, Option.bind_some, bimV, liV, popV, extV, joinV, iterOf, stepIt, tgV, tgVs, lookL, setL, truthV, Option.map_some, Option.map_none, Option.bind_some, hl, List.map_nil, List.length_nil, Int.ofNat_zero]
  | cons a r =>
    dsimp only
    have M1 := M.setW { w with pc := w.pc + 1 }
    have hl1 := (stayW (ih := ih) (H := H) (y := wyObj { w with pc := w.pc + 1 })).2 ie _ hl n1 n2
    have M2 := M1.app (.list (r.reverse.map vI))
    have hl2 := keepA (y := AObj.list (r.reverse.map vI)) hl1
    have hil : (H.set iw (wyObj { w with pc := w.pc + 1 }) ++ [AObj.list (r.reverse.map vI)])[(H.set iw (wyObj { w with pc := w.pc + 1 })).length]? = some (.list (r.reverse.map vI)) := getEnd
    have lh := lt_of M1.h
    have lw := lt_of M1.w
    obtain ⟨x3, x4, hf⟩ := sp_f22 (e2 := .ref ie) (N := N) S (d := e) (by omega) (T := r.reverse) r.reverse N 0 _ hs none none (by simp at hn ⊢; omega) hil (Nat.ne_of_gt lh) (Nat.ne_of_gt lw) rfl M2 (by simp; omega) (by simp at hz ⊢; omega)
    obtain ⟨A1, A2, _⟩ := pushAll_ms r.reverse _ _ M2 (by simp; omega)
    have hl3 := A2.2 ie _ hl2 n1 n2
    obtain ⟨hs', e1, e2, e3⟩ := pushAll_app (ih := ih) (w := { w with pc := w.pc + 1 }) r.reverse (H.set iw (wyObj { w with pc := w.pc + 1 }) ++ [AObj.list (r.reverse.map vI)]) hs
    have pe := p_at (w := { w with pc := w.pc + 1 }) S A1.w (n := a) rfl
    refine ⟨_, ?_, ⟨hs', e1 ▸ A1.setW { w with pc := w.pc + 1, at_ := a }, e2, fun p hp => by have := e3 p hp; simp at this; omega⟩, (stayW.trans stayA).trans (A2.trans stayW)⟩
    have hne : ((((List.map vI r).length + 1 : Nat) : Int) = 0) = False := by simp only [eq_iff_iff, iff_false]; omega
    have hsl : sliceV (H.set iw (wyObj { w with pc := w.pc + 1 })) (.ref ie) .none (.int 0) (.int (-1)) = .ok (.ref (H.set iw (wyObj { w with pc := w.pc + 1 })).length) (H.set iw (wyObj { w with pc := w.pc + 1 }) ++ [.list (r.reverse.map vI)]) := by
      unfold sliceV
      rw [show skOf .none (.int 0) (.int (-1)) = some .down from rfl]
      dsimp only
      rw [hl1]
      dsimp only
      rw [show SK.down.ap ((a :: r).map vI) = r.reverse.map vI by simp only [SK.ap, List.map_cons, List.drop_succ_cons, List.drop_zero, List.map_reverse]]
    have hit : iterOf (H.set iw (wyObj { w with pc := w.pc + 1 }) ++ [AObj.list (r.reverse.map vI)]) (.ref (H.set iw (wyObj { w with pc := w.pc + 1 })).length) = some (.list (H.set iw (wyObj { w with pc := w.pc + 1 })).length 0) := by
      simp only [iterOf, hil]
    have h0 : itemV (pushAll ih { w with pc := w.pc + 1 } r.reverse (H.set iw (wyObj { w with pc := w.pc + 1 }) ++ [AObj.list (r.reverse.map vI)]) hs).1 (.ref ie) (.int 0) = some (.int a) := by
      simp only [itemV, itemN, natOf, Option.bind_some, natOf, hl3, List.map_cons, Int.toNat_zero, List.getElem?_cons_zero, if_true, Int.le_refl]; rfl
    simp only [b22, q_val, q_loc, q_loc1, q_tup, q_tup1, q_list, q_list1, q_nil, q_cons, q_cons1, q_cons2, q_attr, q_attr1, q_item, q_item1, q_item2, q_ofO, q_ofB, q_slice, q_slice1, q_slice2, q_slice3, q_slice4, q_bin, q_bin1, q_bin2, q_neg, q_neg1, q_not, q_not1, q_cmp, q_cmp1, q_cmp2, q_bop, q_bop1, q_bop2, q_and, q_or, q_ite, q_ite1, q_call, q_call1, q_call2, q_fn, q_bi, q_isbi, q_meth, q_meth1, q_meth2, q_meth3, q_methf, q_methb, q_comp, q_comp1, q_comp2, q_dict, q_snil, q_scons, q_seq, q_seqr, q_seqc, q_expr, q_expr1, q_asg, q_asg1, q_so, q_tn, q_set, q_sets, q_ta, q_ta1, q_put, q_puts, q_ti, q_ti1, q_ti2, q_tt, q_tnil, q_tcons, q_tcons1, q_augN, q_augN0, q_augN1, q_augN2, q_augA, q_augA1, q_augA2, q_augA3, q_augA4, q_ret, q_ret1, q_if, q_if1, q_wh1, q_wh2, q_wh3, q_wh4, q_for1, q_for2, q_forE, q_forE1, q_fo2, q_fo3, q_fo4, q_fo5, q_cont, q_fin1, q_fin2, eq_self, Int.toNat_zero, Int.toNat_one, Int.reduceToNat, List.cons.injEq, and_true, true_and, false_and, and_false, Nat.reduceEqDiff, Int.reduceEq, Int.reduceLT, Int.reduceLE, Int.reduceNeg, Int.lt_irrefl, Nat.lt_irrefl, not_true_eq_false, not_false_eq_true, and_self, List.getElem?_cons_zero, List.getElem?_cons_succ, List.set_cons_zero, List.set_cons_succ, List.length_cons, List.length_nil, List.map_cons, List.map_nil, List.replicate, List.cons_append, List.nil_append, Nat.reduceAdd, Nat.reduceLT, Nat.reduceLeDiff, reduceIte, plainV, setLoc, Bool.not_true, Bool.not_false, if_true, if_false, Bool.false_eq_true, decide_true, decide_false, Nat.zero_lt_succ, reduceCtorEq, decide_eq_true_eq, cmpV, isV, aeq, biV, lenV, isiV, augV, hl, hne, w_pc S M.w, p_pc S M.w iS, q_for, hsl, hit, hf, h0, pe]
theorem sp21 (S : Std P) (hd : 4 ≤ d) (hN : s.length + 2 < N) (hb : N ≤ 1000000) (M : MS H im ih ihost iw s w hs) (hh : ihost < H.length) (ha : w.at_ ≤ s.length) (hz : hs.length + s.length + 1 < big) :
    match ballEnds s w.at_ with
    | [] => ∃ H', callD P N d 21 [.ref im, .tup [.str kWays, .str kBal], .ref iw] H = .ok (.bool false) H' ∧ Went ih iw ihost im s hs H w [] H'
    | a :: r => ∃ H', callD P N d 21 [.ref im, .tup [.str kWays, .str kBal], .ref iw] H = .ok (.bool true) H' ∧ Went ih iw ihost im s hs H { w with pc := w.pc + 1, at_ := a } (r.reverse.map fun t => { w with pc := w.pc + 1, at_ := t }) H' := by
  obtain ⟨e, rfl, _⟩ := lev (by omega : 1 ≤ d)
  have hx := callD_eq (P := P) (N := N) (d := e) (k := 21) (args := [.ref im, .tup [.str kWays, .str kBal], .ref iw]) (H := H) S.b21 rfl
  rw [hx]
  have hlen : (ballEnds s w.at_).length ≤ s.length + 1 := balEnds_len s (s.length + 1) (balGo (s.drop w.at_) 0 w.at_)
  have hm := m_m (m := 40) (k := 22) S M.m rfl (by decide) (by decide) (by decide)
  have h37 := sp37b (H := H) (d := e) S (by omega) hN hb ha
  simp only [kBal] at h37
  generalize ballEnds s w.at_ = es at *
  have M1 := M.app (.list (es.map vI))
  have h22 := sp22 (N := N) S (d := e) (by omega) (ie := H.length) (es := es) M1 (by simp; omega) getEnd (Nat.ne_of_gt (lt_of M.h)) (Nat.ne_of_gt (lt_of M.w)) (by omega) (by omega)
  cases es with
  | nil =>
    dsimp only at h22 ⊢
    generalize AObj.list (List.map vI []) = L at h37 h22 M1
    refine ⟨_, ?_, ⟨[], by rw [List.append_nil]; exact M1, rfl, fun _ h => by cases h⟩, stayA⟩
    simp only [b21, kOne, kWays, kSplit, kJump, kMark, kName, kDone, kChars, kRpos, kBal, q_val, q_loc, q_loc1, q_tup, q_tup1, q_list, q_list1, q_nil, q_cons, q_cons1, q_cons2, q_attr, q_attr1, q_item, q_item1, q_item2, q_ofO, q_ofB, q_slice, q_slice1, q_slice2, q_slice3, q_slice4, q_bin, q_bin1, q_bin2, q_neg, q_neg1, q_not, q_not1, q_cmp, q_cmp1, q_cmp2, q_bop, q_bop1, q_bop2, q_and, q_or, q_ite, q_ite1, q_call, q_call1, q_call2, q_fn, q_bi, q_isbi, q_meth, q_meth1, q_meth2, q_meth3, q_methf, q_methb, q_comp, q_comp1, q_comp2, q_dict, q_snil, q_scons, q_seq, q_seqr, q_seqc, q_expr, q_expr1, q_asg, q_asg1, q_so, q_tn, q_set, q_sets, q_ta, q_ta1, q_put, q_puts, q_ti, q_ti1, q_ti2, q_tt, q_tnil, q_tcons, q_tcons1, q_augN, q_augN0, q_augN1, q_augN2, q_augA, q_augA1, q_augA2, q_augA3, q_augA4, q_ret, q_ret1, q_if, q_if1, q_wh1, q_wh2, q_wh3, q_wh4, q_for1, q_for2, q_forE, q_forE1, q_fo2, q_fo3, q_fo4, q_fo5, q_cont, q_fin1, q_fin2, eq_self, Int.toNat_zero, Int.toNat_one, Int.reduceToNat, List.cons.injEq, and_true, true_and, false_and, and_false, Nat.reduceEqDiff, Int.reduceEq, Int.reduceLT, Int.reduceLE, Int.reduceNeg, Int.lt_irrefl, Nat.lt_irrefl, not_true_eq_false, not_false_eq_true, and_self, List.getElem?_cons_zero, List.getElem?_cons_succ, List.set_cons_zero, List.set_cons_succ, List.length_cons, List.length_nil, List.map_cons, List.map_nil, List.replicate, List.cons_append, List.nil_append, Nat.reduceAdd, Nat.reduceLT, Nat.reduceLeDiff, reduceIte, plainV, setLoc, Bool.not_true, Bool.not_false, if_true, if_false, Bool.false_eq_true, decide_true, decide_false, Nat.zero_lt_succ, reduceCtorEq, decide_eq_true_eq, cmpV, isV, aeq, biV, lenV, isiV, binV, addV, catV, augV, itemV, itemN, natOf, Option.bind_some, sliceV, skOf, partN, stK, SK.of, SK.back, SK.ap, Option.bind_some, bimV, liV, popV, extV, joinV, iterOf, stepIt, tgV, tgVs, lookL, setL, truthV, Option.map_some, Option.map_none, Option.bind_some, hm, isf S.b37, m_s S M.m, w_at S M.w, h37, h22]
  | cons a r =>
    dsimp only at h22 ⊢
    obtain ⟨H', e1, W⟩ := h22
    generalize AObj.list (List.map vI (a :: r)) = L at h37 e1 M1 W
    refine ⟨H', ?_, W.ms.imp fun hs' h => ⟨h.1, h.2.1, fun p hp => by have := h.2.2 p hp; simp at this; omega⟩, stayA.trans W.stay⟩
    simp only [b21, kOne, kWays, kSplit, kJump, kMark, kName, kDone, kChars, kRpos, kBal, q_val, q_loc, q_loc1, q_tup, q_tup1, q_list, q_list1, q_nil, q_cons, q_cons1, q_cons2, q_attr, q_attr1, q_item, q_item1, q_item2, q_ofO, q_ofB, q_slice, q_slice1, q_slice2, q_slice3, q_slice4, q_bin, q_bin1, q_bin2, q_neg, q_neg1, q_not, q_not1, q_cmp, q_cmp1, q_cmp2, q_bop, q_bop1, q_bop2, q_and, q_or, q_ite, q_ite1, q_call, q_call1, q_call2, q_fn, q_bi, q_isbi, q_meth, q_meth1, q_meth2, q_meth3, q_methf, q_methb, q_comp, q_comp1, q_comp2, q_dict, q_snil, q_scons, q_seq, q_seqr, q_seqc, q_expr, q_expr1, q_asg, q_asg1, q_so, q_tn, q_set, q_sets, q_ta, q_ta1, q_put, q_puts, q_ti, q_ti1, q_ti2, q_tt, q_tnil, q_tcons, q_tcons1, q_augN, q_augN0, q_augN1, q_augN2, q_augA, q_augA1, q_augA2, q_augA3, q_augA4, q_ret, q_ret1, q_if, q_if1, q_wh1, q_wh2, q_wh3, q_wh4, q_for1, q_for2, q_forE, q_forE1, q_fo2, q_fo3, q_fo4, q_fo5, q_cont, q_fin1, q_fin2, eq_self, Int.toNat_zero, Int.toNat_one, Int.reduceToNat, List.cons.injEq, and_true, true_and, false_and, and_false, Nat.reduceEqDiff, Int.reduceEq, Int.reduceLT, Int.reduceLE, Int.reduceNeg, Int.lt_irrefl, Nat.lt_irrefl, not_true_eq_false, not_false_eq_true, and_self, List.getElem?_cons_zero, List.getElem?_cons_succ, List.set_cons_zero, List.set_cons_succ, List.length_cons, List.length_nil, List.map_cons, List.map_nil, List.replicate, List.cons_append, List.nil_append, Nat.reduceAdd, Nat.reduceLT, Nat.reduceLeDiff, reduceIte, plainV, setLoc, Bool.not_true, Bool.not_false, if_true, if_false, Bool.false_eq_true, decide_true, decide_false, Nat.zero_lt_succ, reduceCtorEq, decide_eq_true_eq, cmpV, isV, aeq, biV, lenV, isiV, binV, addV, catV, augV, itemV, itemN, natOf, Option.bind_some, sliceV, skOf, partN, stK, SK.of, SK.back, SK.ap, Option.bind_some, bimV, liV, popV, extV, joinV, iterOf, stepIt, tgV, tgVs, lookL, setL, truthV, Option.map_some, Option.map_none, Option.bind_some, hm, isf S.b37, m_s S M.m, w_at S M.w, h37, e1]
end
end Mine
end -- SpF
section -- SpG
namespace Mine
open PySem
/-! the orders of this law, and a step in plain terms -/
inductive Od where
  | chars (t : List Nat)
  | rpos (k : Nat)
  | ways
  | split (k : Nat)
  | jump (k : Nat)
  | mark
  | name (r : AV)
  | done
noncomputable def encO : Od → AV
  | .chars t => .tup [.str kOne, .str kChars, .str t]
  | .rpos k => .tup [.str kOne, .str kRpos, .int k]
  | .ways => .tup [.str kWays, .str kBal]
  | .split k => .tup [.str kSplit, .int k]
  | .jump k => .tup [.str kJump, .int k]
  | .mark => .tup [.str kMark]
  | .name r => .tup [.str kName, r]
  | .done => .tup [.str kDone]
inductive SR where
  | stuck
  | fail
  | go (w : Wy) (ps : List Wy)
noncomputable def endS (w : Wy) : Option Nat → SR
  | none => .fail
  | some n => .go { w with at_ := n, pc := w.pc + 1 } []
noncomputable def waysS (w : Wy) : List Nat → SR
  | [] => .fail
  | a :: r => .go { w with pc := w.pc + 1, at_ := a } (r.reverse.map fun t => { w with pc := w.pc + 1, at_ := t })
noncomputable def oStep (s : List Nat) (od : Od) (w : Wy) : SR := match od with
  | .chars t => endS w (charsEnd s t w.at_)
  | .rpos k => endS w (rposEnd s k w.at_)
  | .ways => if w.at_ ≤ s.length then waysS w (ballEnds s w.at_) else .stuck
  | .split k => .go { w with pc := w.pc + 1 } [{ w with pc := k }]
  | .jump k => .go { w with pc := k } []
  | .mark => .go { w with marks := .tup [w.marks, .int w.at_], pc := w.pc + 1 } []
  | .name r => (match w.marks with
    | .tup [m, .int (.ofNat b)] => .go { w with marks := m, named := .tup [w.named, .tup [r, .str (cutS s b w.at_)]], pc := w.pc + 1 } []
    | _ => .stuck)
  | .done => .stuck
section
variable {P : P0} {N : Nat} {d : Nat} {H : AH} {im iw ih ihost : Nat} {s : List Nat} {w : Wy} {hs : List (Nat × Wy)}
noncomputable def DoneIs (P : P0) (N d : Nat) (im ih ihost iw : Nat) (s : List Nat) (hs : List (Nat × Wy)) (H : AH) (order : AV) (w : Wy) : SR → Prop
  | .stuck => True
  | .fail => ∃ H', callD P N d 18 [.ref im, order, .ref iw] H = .ok (.bool false) H' ∧ Went ih iw ihost im s hs H w [] H'
  | .go w' ps => ∃ H', callD P N d 18 [.ref im, order, .ref iw] H = .ok (.bool true) H' ∧ Went ih iw ihost im s hs H w' ps H'
theorem went0 (M : MS H im ih ihost iw s w hs) : Went ih iw ihost im s hs H w [] H := ⟨⟨[], by rw [List.append_nil]; exact M, rfl, fun _ h => by cases h⟩, .refl⟩
theorem wentW (M : MS H im ih ihost iw s w hs) (w' : Wy) : Went ih iw ihost im s hs H w' [] (H.set iw (wyObj w')) := ⟨⟨[], by rw [List.append_nil]; exact M.setW w', rfl, fun _ h => by cases h⟩, stayW⟩
theorem done_end (M : MS H im ih ihost iw s w hs) {order : AV} {o : Option Nat} (h : callD P N d 18 [.ref im, order, .ref iw] H = endR H iw w o) :
    DoneIs P N d im ih ihost iw s hs H order w (endS w o) := by
  cases o with
  | none => exact ⟨H, h, went0 M⟩
  | some n => exact ⟨_, h, wentW M _⟩
theorem done_is (S : Std P) (hd : 5 ≤ d) (hN : s.length + 2 < N) (hb : N ≤ 1000000) (M : MS H im ih ihost iw s w hs) (hh : ihost < H.length) (hz : hs.length + s.length + 1 < big) (od : Od) :
    DoneIs P N d im ih ihost iw s hs H (encO od) w (oStep s od w) := by
  cases od with
  | chars t => exact done_end M (dn_one (N := N) (d := d) S (by omega) rfl M.m M.w ⟨by decide, fun H => sp35c S (by omega)⟩)
  | rpos k => exact done_end M (dn_one (N := N) (d := d) S (by omega) rfl M.m M.w ⟨by decide, fun H => sp35r S (by omega)⟩)
  | ways =>
    unfold oStep
    dsimp only
    split
    · rename_i ha
      obtain ⟨e, rfl, _⟩ := lev (by omega : 1 ≤ d)
      have h21 := sp21 (N := N) S (d := e) (by omega) hN hb M hh ha hz
      have hm := m_m (m := 39) (k := 21) S M.m rfl (by decide) (by decide) (by decide)
      have hx : ∀ b H', callD P N e 21 [.ref im, .tup [.str kWays, .str kBal], .ref iw] H = .ok b H' → callD P N (e + 1) 18 [.ref im, encO .ways, .ref iw] H = .ok b H' := fun b H' q => by
        rw [callD_eq S.b18 rfl]
        simp only [kWays, kBal] at q
        simp only [encO, b18, kOne, kWays, kSplit, kJump, kMark, kName, kDone, kChars, kRpos, kBal, q_val, q_loc, q_loc1, q_tup, q_tup1, q_list, q_list1, q_nil, q_cons, q_cons1, q_cons2, q_attr, q_attr1, q_item, q_item1, q_item2, q_ofO, q_ofB, q_slice, q_slice1, q_slice2, q_slice3, q_slice4, q_bin, q_bin1, q_bin2, q_neg, q_neg1, q_not, q_not1, q_cmp, q_cmp1, q_cmp2, q_bop, q_bop1, q_bop2, q_and, q_or, q_ite, q_ite1, q_call, q_call1, q_call2, q_fn, q_bi, q_isbi, q_meth, q_meth1, q_meth2, q_meth3, q_methf, q_methb, q_comp, q_comp1, q_comp2, q_dict, q_snil, q_scons, q_seq, q_seqr, q_seqc, q_expr, q_expr1, q_asg, q_asg1, q_so, q_tn, q_set, q_sets, q_ta, q_ta1, q_put, q_puts, q_ti, q_ti1, q_ti2, q_tt, q_tnil, q_tcons, q_tcons1, q_augN, q_augN0, q_augN1, q_augN2, q_augA, q_augA1, q_augA2, q_augA3, q_augA4, q_ret, q_ret1, q_if, q_if1, q_wh1, q_wh2, q_wh3, q_wh4, q_for1, q_for2, q_forE, q_forE1, q_fo2, q_fo3, q_fo4, q_fo5, q_cont, q_fin1, q_fin2, eq_self, Int.toNat_zero, Int.toNat_one, Int.reduceToNat, List.cons.injEq, and_true, true_and, false_and, and_false, Nat.reduceEqDiff, Int.reduceEq, Int.reduceLT, Int.reduceLE, Int.reduceNeg, Int.lt_irrefl, Nat.lt_irrefl, not_true_eq_false, not_false_eq_true, and_self, List.getElem?_cons_zero, List.getElem?_cons_succ, List.set_cons_zero, List.set_cons_succ, List.length_cons, List.length_nil, List.map_cons, List.map_nil, List.replicate, List.cons_append, List.nil_append, Nat.reduceAdd, Nat.reduceLT, Nat.reduceLeDiff, reduceIte, plainV, setLoc, Bool.not_true, Bool.not_false, if_true, if_false, Bool.false_eq_true, decide_true, decide_false, Nat.zero_lt_succ, reduceCtorEq, decide_eq_true_eq, cmpV, isV, aeq, biV, lenV, isiV, binV, addV, catV, augV, itemV, itemN, natOf, Option.bind_some, sliceV, skOf, partN, stK, SK.of, SK.back, SK.ap, Option.bind_some, bimV, liV, popV, extV, joinV, iterOf, stepIt, tgV, tgVs, lookL, setL, truthV, Option.map_some, Option.map_none, Option.bind_some, in3w, hm, q]
      cases hq : ballEnds s w.at_ with
      | nil =>
        rw [hq] at h21
        obtain ⟨H', e1, W⟩ := h21
        exact ⟨H', hx _ _ e1, W⟩
      | cons a r =>
        rw [hq] at h21
        obtain ⟨H', e1, W⟩ := h21
        exact ⟨H', hx _ _ e1, W⟩
    · trivial
  | split k =>
    have hl : (hs.map (·.1)).length < big := by simp; omega
    have hh2 : H[ih]? = some (.list ((hs.map (·.1)).map AV.ref)) := by rw [List.map_map]; exact M.h
    refine ⟨_, dn_split S (by omega) M.m hh2 M.w hl M.ih_iw M.im_ih.symm, ⟨⟨[(H.length, { w with pc := k })], ?_, rfl, fun p hp => by cases List.mem_singleton.mp hp; exact Nat.le_refl _⟩, (stayA.trans stayH).trans stayW⟩⟩
    have A := (M.push { w with pc := k } hh).setW { w with pc := w.pc + 1 }
    have e1 : (hs.map (·.1) ++ [H.length]).map AV.ref = refs (hs ++ [(H.length, { w with pc := k })]) := by simp [refs]
    rw [e1]; exact A
  | jump k => exact ⟨_, dn_jump S (by omega) M.w, wentW M _⟩
  | mark => exact ⟨_, dn_mark S (by omega) M.w, wentW M _⟩
  | name r =>
    unfold oStep
    dsimp only
    split
    · rename_i m b hk
      exact ⟨_, dn_name S (by omega) M.m M.w hk M.im_iw, wentW M _⟩
    · trivial
  | done => trivial
end
end Mine
end -- SpG
section -- SpH
namespace Mine
open PySem
noncomputable def kindO : Od → List Nat
  | .chars _ => kOne
  | .rpos _ => kOne
  | .ways => kWays
  | .split _ => kSplit
  | .jump _ => kJump
  | .mark => kMark
  | .name _ => kName
  | .done => kDone
noncomputable def Pl (io : Nat) (w : Wy) : Prop := w.o = .ref io ∧ w.calls = .none
/-- the whole match in plain terms -/
noncomputable def runM (s : List Nat) (os : List Od) : Nat → Wy → List Wy → Option (Option Wy)
  | 0, _, _ => none
  | n + 1, w, hist => match os[w.pc]? with
    | none => none
    | some .done => some (some w)
    | some od => if 1000 ≤ hist.length then none else match oStep s od w with
      | .stuck => none
      | .go w' ps => runM s os n w' (hist ++ ps)
      | .fail => match hist.getLast? with
        | none => some none
        | some w' => runM s os n w' hist.dropLast
section
variable {P : P0} {N : Nat} {d : Nat} {H H0 : AH} {im iw ih ihost io L0 : Nat} {s : List Nat} {w : Wy} {hs : List (Nat × Wy)} {os : List Od} {iv ir il : Nat} {lim st : Int}
theorem item0 (od : Od) : itemV H (encO od) (.int 0) = some (.str (kindO od)) := by cases od <;> rfl
theorem kind_done {od : Od} (h : kindO od = kDone) : od = .done := by
  cases od <;> first | rfl | (exfalso; simp only [kindO] at h; revert h; decide)
theorem kind_abort (od : Od) : (kindO od = [97, 98, 111, 114, 116]) = False := by
  cases od <;> simp only [kindO, eq_iff_iff, iff_false] <;> decide
theorem pl_step {od : Od} {w' : Wy} {ps : List Wy} (h : Pl io w) (e : oStep s od w = .go w' ps) : Pl io w' ∧ ∀ p ∈ ps, Pl io p := by
  cases od with
  | chars t =>
    simp only [oStep] at e
    cases q : charsEnd s t w.at_ with
    | none => rw [q] at e; cases e
    | some n => rw [q] at e; cases e; exact ⟨h, fun _ h => by cases h⟩
  | rpos k =>
    simp only [oStep] at e
    cases q : rposEnd s k w.at_ with
    | none => rw [q] at e; cases e
    | some n => rw [q] at e; cases e; exact ⟨h, fun _ h => by cases h⟩
  | ways =>
    simp only [oStep] at e
    split at e
    · cases q : ballEnds s w.at_ with
      | nil => rw [q] at e; cases e
      | cons a r =>
        rw [q] at e; cases e
        refine ⟨h, fun p hp => ?_⟩
        obtain ⟨t, _, rfl⟩ := List.mem_map.mp hp
        exact h
    · cases e
  | split k => simp only [oStep] at e; cases e; exact ⟨h, fun p hp => by cases List.mem_singleton.mp hp; exact h⟩
  | jump k => simp only [oStep] at e; cases e; exact ⟨h, fun _ h => by cases h⟩
  | mark => simp only [oStep] at e; cases e; exact ⟨h, fun _ h => by cases h⟩
  | name r =>
    simp only [oStep] at e
    split at e
    · cases e; exact ⟨h, fun _ h => by cases h⟩
    · cases e
  | done => simp only [oStep] at e; cases e
theorem sp27 (S : Std P) (hd : 1 ≤ d) (h : H[ihost]? = some (hoObj iv lim ir st il)) (hl : st + 1 ≤ lim) : callD P N d 27 [.ref ihost] H = .ok .none (H.set ihost (hoObj iv lim ir (st + 1) il)) := by
  obtain ⟨e, rfl, _⟩ := lev hd
  rw [callD_eq S.b27 rfl]
  have h1 : attrV P.fld H (.ref ihost) 22 = some (.int st) := att S h rfl rfl
  have h2 : putA P.fld H (.ref ihost) 22 (.int (st + 1)) = some (H.set ihost (hoObj iv lim ir (st + 1) il)) := putt S h rfl
  have h' := setS' (y := hoObj iv lim ir (st + 1) il) h
  have h3 : attrV P.fld (H.set ihost (hoObj iv lim ir (st + 1) il)) (.ref ihost) 22 = some (.int (st + 1)) := att S h' rfl rfl
  have h4 : attrV P.fld (H.set ihost (hoObj iv lim ir (st + 1) il)) (.ref ihost) 19 = some (.int lim) := att S h' rfl rfl
  have h5 : (lim < st + 1) = False := by simp only [eq_iff_iff, iff_false]; omega
  simp only [b27, q_val, q_loc, q_loc1, q_tup, q_tup1, q_list, q_list1, q_nil, q_cons, q_cons1, q_cons2, q_attr, q_attr1, q_item, q_item1, q_item2, q_ofO, q_ofB, q_slice, q_slice1, q_slice2, q_slice3, q_slice4, q_bin, q_bin1, q_bin2, q_neg, q_neg1, q_not, q_not1, q_cmp, q_cmp1, q_cmp2, q_bop, q_bop1, q_bop2, q_and, q_or, q_ite, q_ite1, q_call, q_call1, q_call2, q_fn, q_bi, q_isbi, q_meth, q_meth1, q_meth2, q_meth3, q_methf, q_methb, q_comp, q_comp1, q_comp2, q_dict, q_snil, q_scons, q_seq, q_seqr, q_seqc, q_expr, q_expr1, q_asg, q_asg1, q_so, q_tn, q_set, q_sets, q_ta, q_ta1, q_put, q_puts, q_ti, q_ti1, q_ti2, q_tt, q_tnil, q_tcons, q_tcons1, q_augN, q_augN0, q_augN1, q_augN2, q_augA, q_augA1, q_augA2, q_augA3, q_augA4, q_ret, q_ret1, q_if, q_if1, q_wh1, q_wh2, q_wh3, q_wh4, q_for1, q_for2, q_forE, q_forE1, q_fo2, q_fo3, q_fo4, q_fo5, q_cont, q_fin1, q_fin2, eq_self, Int.toNat_zero, Int.toNat_one, Int.reduceToNat, List.cons.injEq, and_true, true_and, false_and, and_false, Nat.reduceEqDiff, Int.reduceEq, Int.reduceLT, Int.reduceLE, Int.reduceNeg, Int.lt_irrefl, Nat.lt_irrefl, not_true_eq_false, not_false_eq_true, and_self, List.getElem?_cons_zero, List.getElem?_cons_succ, List.set_cons_zero, List.set_cons_succ, List.length_cons, List.length_nil, List.map_cons, List.map_nil, List.replicate, List.cons_append, List.nil_append, Nat.reduceAdd, Nat.reduceLT, Nat.reduceLeDiff, reduceIte, plainV, setLoc, Bool.not_true, Bool.not_false, if_true, if_false, Bool.false_eq_true, decide_true, decide_false, Nat.zero_lt_succ, reduceCtorEq, decide_eq_true_eq, cmpV, isV, Option.map_some, Option.map_none, aeq, biV, lenV, isiV, binV, addV, catV, augV, itemV, itemN, natOf, Option.bind_some, sliceV, skOf, partN, stK, SK.of, SK.back, SK.ap, Option.bind_some, bimV, liV, popV, extV, joinV, iterOf, stepIt, tgV, tgVs, lookL, setL, truthV, Option.map_some, Option.map_none, Option.bind_some, h1, h2, h3, h4, h5]
/-- what holds at each turn of the match -/
structure RI (H0 H : AH) (L0 im ih ihost io iw : Nat) (s : List Nat) (os : List Od) (iv ir il : Nat) (lim st : Int) (w : Wy) (hs : List (Nat × Wy)) : Prop where
  ms : MS H im ih ihost iw s w hs
  host : H[ihost]? = some (hoObj iv lim ir st il)
  ords : H[io]? = some (.list (os.map encO))
  base : ∀ i x, i < L0 → i ≠ ihost → H0[i]? = some x → H[i]? = some x
  gih : L0 ≤ ih
  giw : L0 ≤ iw
  gim : L0 ≤ im
  ghs : ∀ p ∈ hs, L0 ≤ p.1
  pw : Pl io w
  phs : ∀ p ∈ hs, Pl io p.2
  len : L0 ≤ H.length
structure Out0 (L0 im ih ihost io : Nat) : Prop where
  hio : io < L0
  hho : ihost < L0
  hne : io ≠ ihost
theorem RI.went (K : Out0 L0 im ih ihost io) (R : RI H0 H L0 im ih ihost io iw s os iv ir il lim st w hs) {w' : Wy} {ps : List Wy} {H' : AH} (W : Went ih iw ihost im s hs H w' ps H') (h1 : Pl io w') (h2 : ∀ p ∈ ps, Pl io p) :
    ∃ hs', RI H0 H' L0 im ih ihost io iw s os iv ir il lim st w' (hs ++ hs') ∧ hs'.map (·.2) = ps := by
  obtain ⟨⟨hs', M, e, g⟩, st'⟩ := W
  have n1 : ∀ i, i < L0 → i ≠ ih := fun i h q => by have := R.gih; omega
  have n2 : ∀ i, i < L0 → i ≠ iw := fun i h q => by have := R.giw; omega
  refine ⟨hs', ⟨M, st'.2 _ _ R.host (n1 _ K.hho) (n2 _ K.hho), st'.2 _ _ R.ords (n1 _ K.hio) (n2 _ K.hio), fun i x hi hn h => st'.2 i x (R.base i x hi hn h) (n1 i hi) (n2 i hi), R.gih, R.giw, R.gim, fun p hp => ?_, h1, fun p hp => ?_, Nat.le_trans R.len st'.1⟩, e⟩
  · rcases List.mem_append.mp hp with hp | hp
    · exact R.ghs p hp
    · exact Nat.le_trans R.len (g p hp)
  · rcases List.mem_append.mp hp with hp | hp
    · exact R.phs p hp
    · exact h2 _ (e ▸ List.mem_map_of_mem hp)
theorem RI.tick (K : Out0 L0 im ih ihost io) (R : RI H0 H L0 im ih ihost io iw s os iv ir il lim st w hs) : RI H0 (H.set ihost (hoObj iv lim ir (st + 1) il)) L0 im ih ihost io iw s os iv ir il lim (st + 1) w hs := by
  have n1 : ih ≠ ihost := fun q => by have := R.gih; have := K.hho; omega
  have n2 : iw ≠ ihost := fun q => by have := R.giw; have := K.hho; omega
  have n3 : im ≠ ihost := fun q => by have := R.gim; have := K.hho; omega
  exact ⟨⟨keepS R.ms.m n3.symm, keepS R.ms.h n1.symm, keepS R.ms.w n2.symm, fun p hp => keepS (R.ms.ws p hp) (fun q => by have := R.ghs p hp; have := K.hho; omega), R.ms.nd⟩, setS' R.host, keepS R.ords K.hne.symm,
    fun i x hi hn h => keepS (R.base i x hi hn h) hn.symm, R.gih, R.giw, R.gim, R.ghs, R.pw, R.phs, by simp; exact R.len⟩
/-- the last way that waits is gone back to -/
theorem RI.back (K : Out0 L0 im ih ihost io) {p : Nat × Wy} (R : RI H0 H L0 im ih ihost io iw s os iv ir il lim st w (hs ++ [p])) : RI H0 (H.set ih (.list (refs hs))) L0 im ih ihost io p.1 s os iv ir il lim st p.2 hs := by
  have n1 : ∀ i, i < L0 → ih ≠ i := fun i h q => by have := R.gih; omega
  have hp : p ∈ hs ++ [p] := by simp
  have nd := R.ms.nd
  rw [List.map_append] at nd
  simp only [List.map_cons, List.map_nil] at nd
  refine ⟨⟨keepS R.ms.m R.ms.im_ih.symm, setS' R.ms.h, keepS (R.ms.ws p hp) (R.ms.p_ne hp).2.1.symm, fun q hq => keepS (R.ms.ws q (List.mem_append_left _ hq)) (R.ms.p_ne (List.mem_append_left _ hq)).2.1.symm, ?_⟩, keepS R.host (n1 _ K.hho), keepS R.ords (n1 _ K.hio),
    fun i x hi hn h => keepS (R.base i x hi hn h) (n1 i hi), R.gih, R.ghs p hp, R.gim, fun q hq => R.ghs q (List.mem_append_left _ hq), R.phs p hp, fun q hq => R.phs q (List.mem_append_left _ hq), by simp; exact R.len⟩
  simp only [List.nodup_cons, List.mem_cons, List.mem_append, List.nodup_append, not_or, List.mem_singleton, List.not_mem_nil, not_false_eq_true, and_true, true_and] at nd ⊢
  obtain ⟨⟨a1, a2, a3, a4, a5⟩, ⟨b1, b2, b3, b4⟩, ⟨c1, c2, c3⟩, ⟨e1, e2⟩, f1, f2⟩ := nd
  exact ⟨⟨a1, a2, a5, a4⟩, ⟨b1, b4, b3⟩, ⟨c3, c2⟩, fun q => f2.2 _ q _ (.inl rfl) rfl, f1⟩

noncomputable def Based (L0 ihost : Nat) (H0 H' : AH) : Prop := ∀ i x, i < L0 → i ≠ ihost → H0[i]? = some x → H'[i]? = some x
noncomputable def RunIs (L0 ihost : Nat) (H0 : AH) (out : Out AV) : Option Wy → Prop
  | none => ∃ H', out = .ok (.tup [.int 1, .none]) H' ∧ Based L0 ihost H0 H' ∧ L0 ≤ H'.length
  | some wf => ∃ H' iw', out = .ok (.tup [.int 0, .ref iw']) H' ∧ H'[iw']? = some (wyObj wf) ∧ Based L0 ihost H0 H' ∧ L0 ≤ H'.length
theorem sp_w16 (S : Std P) (hd : 5 ≤ d) (hN : s.length + 2 < N) (hN2 : N ≤ 1000000) (hs5 : s.length ≤ 1000) (K : Out0 L0 im ih ihost io) {a1 a2 : Option AV} : ∀ (n m : Nat) (w : Wy) (hs : List (Nat × Wy)) (H : AH) (iw : Nat) (x4 : Option AV) (st : Int) (r : Option Wy),
    runM s os n w (hs.map (·.2)) = some r → n < m → st + n ≤ lim → RI H0 H L0 im ih ihost io iw s os iv ir il lim st w hs →
    RunIs L0 ihost H0 (seqK P (callD P N d) N [.ret (.tup [.val (.int 1), .val (.none)])] (whG P (callD P N d) N w16c w16 m [some (.ref im), a1, a2, some (.ref iw), x4] H)).fin r
  | 0, m, w, hs, H, iw, x4, st, r, hr, _, _, _ => by simp only [runM] at hr; cases hr
  | n + 1, 0, w, hs, H, iw, x4, st, r, hr, hm, _, _ => absurd hm (Nat.not_lt_zero _)
  | n + 1, m + 1, w, hs, H, iw, x4, st, r, hr, hm, hst, R => by
    have R1 := R.tick K
    have hstep := sp27 (N := N) (d := d) S (by omega) R.host (by omega)
    have hhd : headV P H (.ref ihost) 43 = some (.fn 27) := hdd S R.host rfl rfl
    have ha9 : attrV P.fld (H.set ihost (hoObj iv lim ir (st + 1) il)) (.ref iw) 9 = some (.ref io) := (w_o S R1.ms.w).trans (by rw [R.pw.1])
    have ha14 : attrV P.fld (H.set ihost (hoObj iv lim ir (st + 1) il)) (.ref iw) 14 = some .none := (w_calls S R1.ms.w).trans (by rw [R.pw.2])
    have ha10 := w_pc S R1.ms.w
    have hdn := m_m (m := 36) (k := 18) S R1.ms.m rfl (by decide) (by decide) (by decide)
    simp only [runM] at hr
    cases hod : os[w.pc]? with
    | none => rw [hod] at hr; cases hr
    | some od =>
      rw [hod] at hr
      have hit : itemV (H.set ihost (hoObj iv lim ir (st + 1) il)) (.ref io) (.int w.pc) = some (encO od) := by
        simp only [itemV, itemN, natOf, Option.bind_some, natOf, R1.ords, nat_pos, if_true, Int.toNat_natCast, List.getElem?_map, hod, Option.map_some]
      have hcond : evE P (callD P N d) N w16c [some (.ref im), a1, a2, some (.ref iw), x4] H = .ok (.bool true) H := by simp only [w16c, q_val, q_loc, q_loc1, q_tup, q_tup1, q_list, q_list1, q_nil, q_cons, q_cons1, q_cons2, q_attr, q_attr1, q_item, q_item1, q_item2, q_ofO, q_ofB, q_slice, q_slice1, q_slice2, q_slice3, q_slice4, q_bin, q_bin1, q_bin2, q_neg, q_neg1, q_not, q_not1, q_cmp, q_cmp1, q_cmp2, q_bop, q_bop1, q_bop2, q_and, q_or, q_ite, q_ite1, q_call, q_call1, q_call2, q_fn, q_bi, q_isbi, q_meth, q_meth1, q_meth2, q_meth3, q_methf, q_methb, q_comp, q_comp1, q_comp2, q_dict, q_snil, q_scons, q_seq, q_seqr, q_seqc, q_expr, q_expr1, q_asg, q_asg1, q_so, q_tn, q_set, q_sets, q_ta, q_ta1, q_put, q_puts, q_ti, q_ti1, q_ti2, q_tt, q_tnil, q_tcons, q_tcons1, q_augN, q_augN0, q_augN1, q_augN2, q_augA, q_augA1, q_augA2, q_augA3, q_augA4, q_ret, q_ret1, q_if, q_if1, q_wh1, q_wh2, q_wh3, q_wh4, q_for1, q_for2, q_forE, q_forE1, q_fo2, q_fo3, q_fo4, q_fo5, q_cont, q_fin1, q_fin2, eq_self, Int.toNat_zero, Int.toNat_one, Int.reduceToNat, List.cons.injEq, and_true, true_and, false_and, and_false, Nat.reduceEqDiff, Int.reduceEq, Int.reduceLT, Int.reduceLE, Int.reduceNeg, Int.lt_irrefl, Nat.lt_irrefl, not_true_eq_false, not_false_eq_true, and_self, List.getElem?_cons_zero, List.getElem?_cons_succ, List.set_cons_zero, List.set_cons_succ, List.length_cons, List.length_nil, List.map_cons, List.map_nil, List.replicate, List.cons_append, List.nil_append, Nat.reduceAdd, Nat.reduceLT, Nat.reduceLeDiff, reduceIte, plainV, setLoc, Bool.not_true, Bool.not_false, if_true, if_false, Bool.false_eq_true, decide_true, decide_false, Nat.zero_lt_succ, reduceCtorEq, decide_eq_true_eq, cmpV, isV, Option.map_some, Option.map_none]
      by_cases hdone : kindO od = kDone
      · have := kind_done hdone
        subst this
        dsimp only at hr
        cases hr
        have hb : evSs P (callD P N d) N w16 [some (.ref im), a1, a2, some (.ref iw), x4] H = .ok (.ret (.tup [.int 0, .ref iw])) [some (.ref im), a1, a2, some (.ref iw), some (encO .done)] (H.set ihost (hoObj iv lim ir (st + 1) il)) := by
          simp only [w16, q_val, q_loc, q_loc1, q_tup, q_tup1, q_list, q_list1, q_nil, q_cons, q_cons1, q_cons2, q_attr, q_attr1, q_item, q_item1, q_item2, q_ofO, q_ofB, q_slice, q_slice1, q_slice2, q_slice3, q_slice4, q_bin, q_bin1, q_bin2, q_neg, q_neg1, q_not, q_not1, q_cmp, q_cmp1, q_cmp2, q_bop, q_bop1, q_bop2, q_and, q_or, q_ite, q_ite1, q_call, q_call1, q_call2, q_fn, q_bi, q_isbi, q_meth, q_meth1, q_meth2, q_meth3, q_methf, q_methb, q_comp, q_comp1, q_comp2, q_dict, q_snil, q_scons, q_seq, q_seqr, q_seqc, q_expr, q_expr1, q_asg, q_asg1, q_so, q_tn, q_set, q_sets, q_ta, q_ta1, q_put, q_puts, q_ti, q_ti1, q_ti2, q_tt, q_tnil, q_tcons, q_tcons1, q_augN, q_augN0, q_augN1, q_augN2, q_augA, q_augA1, q_augA2, q_augA3, q_augA4, q_ret, q_ret1, q_if, q_if1, q_wh1, q_wh2, q_wh3, q_wh4, q_for1, q_for2, q_forE, q_forE1, q_fo2, q_fo3, q_fo4, q_fo5, q_cont, q_fin1, q_fin2, eq_self, Int.toNat_zero, Int.toNat_one, Int.reduceToNat, List.cons.injEq, and_true, true_and, false_and, and_false, Nat.reduceEqDiff, Int.reduceEq, Int.reduceLT, Int.reduceLE, Int.reduceNeg, Int.lt_irrefl, Nat.lt_irrefl, not_true_eq_false, not_false_eq_true, and_self, List.getElem?_cons_zero, List.getElem?_cons_succ, List.set_cons_zero, List.set_cons_succ, List.length_cons, List.length_nil, List.map_cons, List.map_nil, List.replicate, List.cons_append, List.nil_append, Nat.reduceAdd, Nat.reduceLT, Nat.reduceLeDiff, reduceIte, plainV, setLoc, Bool.not_true, Bool.not_false, if_true, if_false, Bool.false_eq_true, decide_true, decide_false, Nat.zero_lt_succ, reduceCtorEq, decide_eq_true_eq, cmpV, isV, Option.map_some, Option.map_none, aeq, m_host S R.ms.m, hhd, hstep, ha9, ha10, hit, item0, kindO, kDone, ha14]
        rw [q_wh, hcond]
        simp only [q_val, q_loc, q_loc1, q_tup, q_tup1, q_list, q_list1, q_nil, q_cons, q_cons1, q_cons2, q_attr, q_attr1, q_item, q_item1, q_item2, q_ofO, q_ofB, q_slice, q_slice1, q_slice2, q_slice3, q_slice4, q_bin, q_bin1, q_bin2, q_neg, q_neg1, q_not, q_not1, q_cmp, q_cmp1, q_cmp2, q_bop, q_bop1, q_bop2, q_and, q_or, q_ite, q_ite1, q_call, q_call1, q_call2, q_fn, q_bi, q_isbi, q_meth, q_meth1, q_meth2, q_meth3, q_methf, q_methb, q_comp, q_comp1, q_comp2, q_dict, q_snil, q_scons, q_seq, q_seqr, q_seqc, q_expr, q_expr1, q_asg, q_asg1, q_so, q_tn, q_set, q_sets, q_ta, q_ta1, q_put, q_puts, q_ti, q_ti1, q_ti2, q_tt, q_tnil, q_tcons, q_tcons1, q_augN, q_augN0, q_augN1, q_augN2, q_augA, q_augA1, q_augA2, q_augA3, q_augA4, q_ret, q_ret1, q_if, q_if1, q_wh1, q_wh2, q_wh3, q_wh4, q_for1, q_for2, q_forE, q_forE1, q_fo2, q_fo3, q_fo4, q_fo5, q_cont, q_fin1, q_fin2, eq_self, Int.toNat_zero, Int.toNat_one, Int.reduceToNat, List.cons.injEq, and_true, true_and, false_and, and_false, Nat.reduceEqDiff, Int.reduceEq, Int.reduceLT, Int.reduceLE, Int.reduceNeg, Int.lt_irrefl, Nat.lt_irrefl, not_true_eq_false, not_false_eq_true, and_self, List.getElem?_cons_zero, List.getElem?_cons_succ, List.set_cons_zero, List.set_cons_succ, List.length_cons, List.length_nil, List.map_cons, List.map_nil, List.replicate, List.cons_append, List.nil_append, Nat.reduceAdd, Nat.reduceLT, Nat.reduceLeDiff, reduceIte, plainV, setLoc, Bool.not_true, Bool.not_false, if_true, if_false, Bool.false_eq_true, decide_true, decide_false, Nat.zero_lt_succ, reduceCtorEq, decide_eq_true_eq]
        rw [hb]
        simp only [q_val, q_loc, q_loc1, q_tup, q_tup1, q_list, q_list1, q_nil, q_cons, q_cons1, q_cons2, q_attr, q_attr1, q_item, q_item1, q_item2, q_ofO, q_ofB, q_slice, q_slice1, q_slice2, q_slice3, q_slice4, q_bin, q_bin1, q_bin2, q_neg, q_neg1, q_not, q_not1, q_cmp, q_cmp1, q_cmp2, q_bop, q_bop1, q_bop2, q_and, q_or, q_ite, q_ite1, q_call, q_call1, q_call2, q_fn, q_bi, q_isbi, q_meth, q_meth1, q_meth2, q_meth3, q_methf, q_methb, q_comp, q_comp1, q_comp2, q_dict, q_snil, q_scons, q_seq, q_seqr, q_seqc, q_expr, q_expr1, q_asg, q_asg1, q_so, q_tn, q_set, q_sets, q_ta, q_ta1, q_put, q_puts, q_ti, q_ti1, q_ti2, q_tt, q_tnil, q_tcons, q_tcons1, q_augN, q_augN0, q_augN1, q_augN2, q_augA, q_augA1, q_augA2, q_augA3, q_augA4, q_ret, q_ret1, q_if, q_if1, q_wh1, q_wh2, q_wh3, q_wh4, q_for1, q_for2, q_forE, q_forE1, q_fo2, q_fo3, q_fo4, q_fo5, q_cont, q_fin1, q_fin2, eq_self, Int.toNat_zero, Int.toNat_one, Int.reduceToNat, List.cons.injEq, and_true, true_and, false_and, and_false, Nat.reduceEqDiff, Int.reduceEq, Int.reduceLT, Int.reduceLE, Int.reduceNeg, Int.lt_irrefl, Nat.lt_irrefl, not_true_eq_false, not_false_eq_true, and_self, List.getElem?_cons_zero, List.getElem?_cons_succ, List.set_cons_zero, List.set_cons_succ, List.length_cons, List.length_nil, List.map_cons, List.map_nil, List.replicate, List.cons_append, List.nil_append, Nat.reduceAdd, Nat.reduceLT, Nat.reduceLeDiff, reduceIte, plainV, setLoc, Bool.not_true, Bool.not_false, if_true, if_false, Bool.false_eq_true, decide_true, decide_false, Nat.zero_lt_succ, reduceCtorEq, decide_eq_true_eq]
        exact ⟨_, iw, rfl, R1.ms.w, R1.base, R1.len⟩
      · have hdone' : (kindO od = [100, 111, 110, 101]) = False := by simp only [eq_iff_iff, iff_false]; exact hdone
        have hr2 : (if 1000 ≤ (hs.map (·.2)).length then none else match oStep s od w with
          | .stuck => none
          | .go w' ps => runM s os n w' ((hs.map (·.2)) ++ ps)
          | .fail => match (hs.map (·.2)).getLast? with
            | none => some none
            | some w' => runM s os n w' (hs.map (·.2)).dropLast) = some r := by
          cases od <;> first | exact hr | exact absurd rfl hdone
        clear hr
        split at hr2
        · cases hr2
        · rename_i hlen
          simp only [List.length_map] at hlen
          have hho := lt_of R1.host
          have D := done_is (N := N) (d := d) S hd hN hN2 R1.ms hho (by have : big = 16777216 := rfl; omega) od
          cases hos : oStep s od w with
          | stuck => rw [hos] at hr2; cases hr2
          | go w' ps =>
            rw [hos] at hr2 D
            dsimp only at hr2
            obtain ⟨H', e1, W⟩ := D
            obtain ⟨pl1, pl2⟩ := pl_step R.pw hos
            obtain ⟨hs', R2, ep⟩ := R1.went K W pl1 pl2
            rw [← ep, ← List.map_append] at hr2
            have ih' := sp_w16 S hd hN hN2 hs5 K (a1 := a1) (a2 := a2) n m w' (hs ++ hs') H' iw (some (encO od)) (st + 1) r hr2 (by omega) (by omega) R2
            have hb : evSs P (callD P N d) N w16 [some (.ref im), a1, a2, some (.ref iw), x4] H = .ok .next [some (.ref im), a1, a2, some (.ref iw), some (encO od)] H' := by
              simp only [w16, q_val, q_loc, q_loc1, q_tup, q_tup1, q_list, q_list1, q_nil, q_cons, q_cons1, q_cons2, q_attr, q_attr1, q_item, q_item1, q_item2, q_ofO, q_ofB, q_slice, q_slice1, q_slice2, q_slice3, q_slice4, q_bin, q_bin1, q_bin2, q_neg, q_neg1, q_not, q_not1, q_cmp, q_cmp1, q_cmp2, q_bop, q_bop1, q_bop2, q_and, q_or, q_ite, q_ite1, q_call, q_call1, q_call2, q_fn, q_bi, q_isbi, q_meth, q_meth1, q_meth2, q_meth3, q_methf, q_methb, q_comp, q_comp1, q_comp2, q_dict, q_snil, q_scons, q_seq, q_seqr, q_seqc, q_expr, q_expr1, q_asg, q_asg1, q_so, q_tn, q_set, q_sets, q_ta, q_ta1, q_put, q_puts, q_ti, q_ti1, q_ti2, q_tt, q_tnil, q_tcons, q_tcons1, q_augN, q_augN0, q_augN1, q_augN2, q_augA, q_augA1, q_augA2, q_augA3, q_augA4, q_ret, q_ret1, q_if, q_if1, q_wh1, q_wh2, q_wh3, q_wh4, q_for1, q_for2, q_forE, q_forE1, q_fo2, q_fo3, q_fo4, q_fo5, q_cont, q_fin1, q_fin2, eq_self, Int.toNat_zero, Int.toNat_one, Int.reduceToNat, List.cons.injEq, and_true, true_and, false_and, and_false, Nat.reduceEqDiff, Int.reduceEq, Int.reduceLT, Int.reduceLE, Int.reduceNeg, Int.lt_irrefl, Nat.lt_irrefl, not_true_eq_false, not_false_eq_true, and_self, List.getElem?_cons_zero, List.getElem?_cons_succ, List.set_cons_zero, List.set_cons_succ, List.length_cons, List.length_nil, List.map_cons, List.map_nil, List.replicate, List.cons_append, List.nil_append, Nat.reduceAdd, Nat.reduceLT, Nat.reduceLeDiff, reduceIte, plainV, setLoc, Bool.not_true, Bool.not_false, if_true, if_false, Bool.false_eq_true, decide_true, decide_false, Nat.zero_lt_succ, reduceCtorEq, decide_eq_true_eq, cmpV, isV, Option.map_some, Option.map_none, aeq, m_host S R.ms.m, hhd, hstep, ha9, ha10, hit, item0, hdone', kind_abort, hdn, e1]
            rw [q_wh, hcond]
            simp only [q_val, q_loc, q_loc1, q_tup, q_tup1, q_list, q_list1, q_nil, q_cons, q_cons1, q_cons2, q_attr, q_attr1, q_item, q_item1, q_item2, q_ofO, q_ofB, q_slice, q_slice1, q_slice2, q_slice3, q_slice4, q_bin, q_bin1, q_bin2, q_neg, q_neg1, q_not, q_not1, q_cmp, q_cmp1, q_cmp2, q_bop, q_bop1, q_bop2, q_and, q_or, q_ite, q_ite1, q_call, q_call1, q_call2, q_fn, q_bi, q_isbi, q_meth, q_meth1, q_meth2, q_meth3, q_methf, q_methb, q_comp, q_comp1, q_comp2, q_dict, q_snil, q_scons, q_seq, q_seqr, q_seqc, q_expr, q_expr1, q_asg, q_asg1, q_so, q_tn, q_set, q_sets, q_ta, q_ta1, q_put, q_puts, q_ti, q_ti1, q_ti2, q_tt, q_tnil, q_tcons, q_tcons1, q_augN, q_augN0, q_augN1, q_augN2, q_augA, q_augA1, q_augA2, q_augA3, q_augA4, q_ret, q_ret1, q_if, q_if1, q_wh1, q_wh2, q_wh3, q_wh4, q_for1, q_for2, q_forE, q_forE1, q_fo2, q_fo3, q_fo4, q_fo5, q_cont, q_fin1, q_fin2, eq_self, Int.toNat_zero, Int.toNat_one, Int.reduceToNat, List.cons.injEq, and_true, true_and, false_and, and_false, Nat.reduceEqDiff, Int.reduceEq, Int.reduceLT, Int.reduceLE, Int.reduceNeg, Int.lt_irrefl, Nat.lt_irrefl, not_true_eq_false, not_false_eq_true, and_self, List.getElem?_cons_zero, List.getElem?_cons_succ, List.set_cons_zero, List.set_cons_succ, List.length_cons, List.length_nil, List.map_cons, List.map_nil, List.replicate, List.cons_append, List.nil_append, Nat.reduceAdd, Nat.reduceLT, Nat.reduceLeDiff, reduceIte, plainV, setLoc, Bool.not_true, Bool.not_false, if_true, if_false, Bool.false_eq_true, decide_true, decide_false, Nat.zero_lt_succ, reduceCtorEq, decide_eq_true_eq]
            rw [hb]
            simp only [q_val, q_loc, q_loc1, q_tup, q_tup1, q_list, q_list1, q_nil, q_cons, q_cons1, q_cons2, q_attr, q_attr1, q_item, q_item1, q_item2, q_ofO, q_ofB, q_slice, q_slice1, q_slice2, q_slice3, q_slice4, q_bin, q_bin1, q_bin2, q_neg, q_neg1, q_not, q_not1, q_cmp, q_cmp1, q_cmp2, q_bop, q_bop1, q_bop2, q_and, q_or, q_ite, q_ite1, q_call, q_call1, q_call2, q_fn, q_bi, q_isbi, q_meth, q_meth1, q_meth2, q_meth3, q_methf, q_methb, q_comp, q_comp1, q_comp2, q_dict, q_snil, q_scons, q_seq, q_seqr, q_seqc, q_expr, q_expr1, q_asg, q_asg1, q_so, q_tn, q_set, q_sets, q_ta, q_ta1, q_put, q_puts, q_ti, q_ti1, q_ti2, q_tt, q_tnil, q_tcons, q_tcons1, q_augN, q_augN0, q_augN1, q_augN2, q_augA, q_augA1, q_augA2, q_augA3, q_augA4, q_ret, q_ret1, q_if, q_if1, q_wh1, q_wh2, q_wh3, q_wh4, q_for1, q_for2, q_forE, q_forE1, q_fo2, q_fo3, q_fo4, q_fo5, q_cont, q_fin1, q_fin2, eq_self, Int.toNat_zero, Int.toNat_one, Int.reduceToNat, List.cons.injEq, and_true, true_and, false_and, and_false, Nat.reduceEqDiff, Int.reduceEq, Int.reduceLT, Int.reduceLE, Int.reduceNeg, Int.lt_irrefl, Nat.lt_irrefl, not_true_eq_false, not_false_eq_true, and_self, List.getElem?_cons_zero, List.getElem?_cons_succ, List.set_cons_zero, List.set_cons_succ, List.length_cons, List.length_nil, List.map_cons, List.map_nil, List.replicate, List.cons_append, List.nil_append, Nat.reduceAdd, Nat.reduceLT, Nat.reduceLeDiff, reduceIte, plainV, setLoc, Bool.not_true, Bool.not_false, if_true, if_false, Bool.false_eq_true, decide_true, decide_false, Nat.zero_lt_succ, reduceCtorEq, decide_eq_true_eq]
            exact ih'
          | fail =>
            rw [hos] at hr2 D
            dsimp only at hr2
            obtain ⟨H', e1, W⟩ := D
            obtain ⟨hs', R2, ep⟩ := R1.went K W R.pw (fun _ h => by cases h)
            have hs0 : hs' = [] := by simpa using ep
            subst hs0
            rw [List.append_nil] at R2
            have hh2 : H'[ih]? = some (.list ((hs.map (·.1)).map AV.ref)) := by rw [List.map_map]; exact R2.ms.h
            have hwb := sp17 (N := N) (d := d) S (by omega) R2.ms.m hh2
            have hdb := m_m (m := 35) (k := 17) S R2.ms.m rfl (by decide) (by decide) (by decide)
            rcases List.eq_nil_or_concat hs with rfl | ⟨hs1, p, rfl⟩
            · simp only [List.map_nil, List.getLast?_nil] at hwb hr2
              cases hr2
              have hb : evSs P (callD P N d) N w16 [some (.ref im), a1, a2, some (.ref iw), x4] H = .ok .next [some (.ref im), a1, a2, some .none, some (encO od)] H' := by
                simp only [w16, q_val, q_loc, q_loc1, q_tup, q_tup1, q_list, q_list1, q_nil, q_cons, q_cons1, q_cons2, q_attr, q_attr1, q_item, q_item1, q_item2, q_ofO, q_ofB, q_slice, q_slice1, q_slice2, q_slice3, q_slice4, q_bin, q_bin1, q_bin2, q_neg, q_neg1, q_not, q_not1, q_cmp, q_cmp1, q_cmp2, q_bop, q_bop1, q_bop2, q_and, q_or, q_ite, q_ite1, q_call, q_call1, q_call2, q_fn, q_bi, q_isbi, q_meth, q_meth1, q_meth2, q_meth3, q_methf, q_methb, q_comp, q_comp1, q_comp2, q_dict, q_snil, q_scons, q_seq, q_seqr, q_seqc, q_expr, q_expr1, q_asg, q_asg1, q_so, q_tn, q_set, q_sets, q_ta, q_ta1, q_put, q_puts, q_ti, q_ti1, q_ti2, q_tt, q_tnil, q_tcons, q_tcons1, q_augN, q_augN0, q_augN1, q_augN2, q_augA, q_augA1, q_augA2, q_augA3, q_augA4, q_ret, q_ret1, q_if, q_if1, q_wh1, q_wh2, q_wh3, q_wh4, q_for1, q_for2, q_forE, q_forE1, q_fo2, q_fo3, q_fo4, q_fo5, q_cont, q_fin1, q_fin2, eq_self, Int.toNat_zero, Int.toNat_one, Int.reduceToNat, List.cons.injEq, and_true, true_and, false_and, and_false, Nat.reduceEqDiff, Int.reduceEq, Int.reduceLT, Int.reduceLE, Int.reduceNeg, Int.lt_irrefl, Nat.lt_irrefl, not_true_eq_false, not_false_eq_true, and_self, List.getElem?_cons_zero, List.getElem?_cons_succ, List.set_cons_zero, List.set_cons_succ, List.length_cons, List.length_nil, List.map_cons, List.map_nil, List.replicate, List.cons_append, List.nil_append, Nat.reduceAdd, Nat.reduceLT, Nat.reduceLeDiff, reduceIte, plainV, setLoc, Bool.not_true, Bool.not_false, if_true, if_false, Bool.false_eq_true, decide_true, decide_false, Nat.zero_lt_succ, reduceCtorEq, decide_eq_true_eq, cmpV, isV, Option.map_some, Option.map_none, aeq, m_host S R.ms.m, hhd, hstep, ha9, ha10, hit, item0, hdone', kind_abort, hdn, e1, hdb, hwb]
              rw [q_wh, hcond]
              simp only [q_val, q_loc, q_loc1, q_tup, q_tup1, q_list, q_list1, q_nil, q_cons, q_cons1, q_cons2, q_attr, q_attr1, q_item, q_item1, q_item2, q_ofO, q_ofB, q_slice, q_slice1, q_slice2, q_slice3, q_slice4, q_bin, q_bin1, q_bin2, q_neg, q_neg1, q_not, q_not1, q_cmp, q_cmp1, q_cmp2, q_bop, q_bop1, q_bop2, q_and, q_or, q_ite, q_ite1, q_call, q_call1, q_call2, q_fn, q_bi, q_isbi, q_meth, q_meth1, q_meth2, q_meth3, q_methf, q_methb, q_comp, q_comp1, q_comp2, q_dict, q_snil, q_scons, q_seq, q_seqr, q_seqc, q_expr, q_expr1, q_asg, q_asg1, q_so, q_tn, q_set, q_sets, q_ta, q_ta1, q_put, q_puts, q_ti, q_ti1, q_ti2, q_tt, q_tnil, q_tcons, q_tcons1, q_augN, q_augN0, q_augN1, q_augN2, q_augA, q_augA1, q_augA2, q_augA3, q_augA4, q_ret, q_ret1, q_if, q_if1, q_wh1, q_wh2, q_wh3, q_wh4, q_for1, q_for2, q_forE, q_forE1, q_fo2, q_fo3, q_fo4, q_fo5, q_cont, q_fin1, q_fin2, eq_self, Int.toNat_zero, Int.toNat_one, Int.reduceToNat, List.cons.injEq, and_true, true_and, false_and, and_false, Nat.reduceEqDiff, Int.reduceEq, Int.reduceLT, Int.reduceLE, Int.reduceNeg, Int.lt_irrefl, Nat.lt_irrefl, not_true_eq_false, not_false_eq_true, and_self, List.getElem?_cons_zero, List.getElem?_cons_succ, List.set_cons_zero, List.set_cons_succ, List.length_cons, List.length_nil, List.map_cons, List.map_nil, List.replicate, List.cons_append, List.nil_append, Nat.reduceAdd, Nat.reduceLT, Nat.reduceLeDiff, reduceIte, plainV, setLoc, Bool.not_true, Bool.not_false, if_true, if_false, Bool.false_eq_true, decide_true, decide_false, Nat.zero_lt_succ, reduceCtorEq, decide_eq_true_eq]
              rw [hb]
              simp only [q_val, q_loc, q_loc1, q_tup, q_tup1, q_list, q_list1, q_nil, q_cons, q_cons1, q_cons2, q_attr, q_attr1, q_item, q_item1, q_item2, q_ofO, q_ofB, q_slice, q_slice1, q_slice2, q_slice3, q_slice4, q_bin, q_bin1, q_bin2, q_neg, q_neg1, q_not, q_not1, q_cmp, q_cmp1, q_cmp2, q_bop, q_bop1, q_bop2, q_and, q_or, q_ite, q_ite1, q_call, q_call1, q_call2, q_fn, q_bi, q_isbi, q_meth, q_meth1, q_meth2, q_meth3, q_methf, q_methb, q_comp, q_comp1, q_comp2, q_dict, q_snil, q_scons, q_seq, q_seqr, q_seqc, q_expr, q_expr1, q_asg, q_asg1, q_so, q_tn, q_set, q_sets, q_ta, q_ta1, q_put, q_puts, q_ti, q_ti1, q_ti2, q_tt, q_tnil, q_tcons, q_tcons1, q_augN, q_augN0, q_augN1, q_augN2, q_augA, q_augA1, q_augA2, q_augA3, q_augA4, q_ret, q_ret1, q_if, q_if1, q_wh1, q_wh2, q_wh3, q_wh4, q_for1, q_for2, q_forE, q_forE1, q_fo2, q_fo3, q_fo4, q_fo5, q_cont, q_fin1, q_fin2, eq_self, Int.toNat_zero, Int.toNat_one, Int.reduceToNat, List.cons.injEq, and_true, true_and, false_and, and_false, Nat.reduceEqDiff, Int.reduceEq, Int.reduceLT, Int.reduceLE, Int.reduceNeg, Int.lt_irrefl, Nat.lt_irrefl, not_true_eq_false, not_false_eq_true, and_self, List.getElem?_cons_zero, List.getElem?_cons_succ, List.set_cons_zero, List.set_cons_succ, List.length_cons, List.length_nil, List.map_cons, List.map_nil, List.replicate, List.cons_append, List.nil_append, Nat.reduceAdd, Nat.reduceLT, Nat.reduceLeDiff, reduceIte, plainV, setLoc, Bool.not_true, Bool.not_false, if_true, if_false, Bool.false_eq_true, decide_true, decide_false, Nat.zero_lt_succ, reduceCtorEq, decide_eq_true_eq]
              have hcond2 : evE P (callD P N d) N w16c [some (.ref im), a1, a2, some .none, some (encO od)] H' = .ok (.bool false) H' := by simp only [w16c, q_val, q_loc, q_loc1, q_tup, q_tup1, q_list, q_list1, q_nil, q_cons, q_cons1, q_cons2, q_attr, q_attr1, q_item, q_item1, q_item2, q_ofO, q_ofB, q_slice, q_slice1, q_slice2, q_slice3, q_slice4, q_bin, q_bin1, q_bin2, q_neg, q_neg1, q_not, q_not1, q_cmp, q_cmp1, q_cmp2, q_bop, q_bop1, q_bop2, q_and, q_or, q_ite, q_ite1, q_call, q_call1, q_call2, q_fn, q_bi, q_isbi, q_meth, q_meth1, q_meth2, q_meth3, q_methf, q_methb, q_comp, q_comp1, q_comp2, q_dict, q_snil, q_scons, q_seq, q_seqr, q_seqc, q_expr, q_expr1, q_asg, q_asg1, q_so, q_tn, q_set, q_sets, q_ta, q_ta1, q_put, q_puts, q_ti, q_ti1, q_ti2, q_tt, q_tnil, q_tcons, q_tcons1, q_augN, q_augN0, q_augN1, q_augN2, q_augA, q_augA1, q_augA2, q_augA3, q_augA4, q_ret, q_ret1, q_if, q_if1, q_wh1, q_wh2, q_wh3, q_wh4, q_for1, q_for2, q_forE, q_forE1, q_fo2, q_fo3, q_fo4, q_fo5, q_cont, q_fin1, q_fin2, eq_self, Int.toNat_zero, Int.toNat_one, Int.reduceToNat, List.cons.injEq, and_true, true_and, false_and, and_false, Nat.reduceEqDiff, Int.reduceEq, Int.reduceLT, Int.reduceLE, Int.reduceNeg, Int.lt_irrefl, Nat.lt_irrefl, not_true_eq_false, not_false_eq_true, and_self, List.getElem?_cons_zero, List.getElem?_cons_succ, List.set_cons_zero, List.set_cons_succ, List.length_cons, List.length_nil, List.map_cons, List.map_nil, List.replicate, List.cons_append, List.nil_append, Nat.reduceAdd, Nat.reduceLT, Nat.reduceLeDiff, reduceIte, plainV, setLoc, Bool.not_true, Bool.not_false, if_true, if_false, Bool.false_eq_true, decide_true, decide_false, Nat.zero_lt_succ, reduceCtorEq, decide_eq_true_eq, cmpV, isV, Option.map_some, Option.map_none]
              cases m with
              | zero => omega
              | succ m =>
                rw [q_wh, hcond2]
                simp only [q_val, q_loc, q_loc1, q_tup, q_tup1, q_list, q_list1, q_nil, q_cons, q_cons1, q_cons2, q_attr, q_attr1, q_item, q_item1, q_item2, q_ofO, q_ofB, q_slice, q_slice1, q_slice2, q_slice3, q_slice4, q_bin, q_bin1, q_bin2, q_neg, q_neg1, q_not, q_not1, q_cmp, q_cmp1, q_cmp2, q_bop, q_bop1, q_bop2, q_and, q_or, q_ite, q_ite1, q_call, q_call1, q_call2, q_fn, q_bi, q_isbi, q_meth, q_meth1, q_meth2, q_meth3, q_methf, q_methb, q_comp, q_comp1, q_comp2, q_dict, q_snil, q_scons, q_seq, q_seqr, q_seqc, q_expr, q_expr1, q_asg, q_asg1, q_so, q_tn, q_set, q_sets, q_ta, q_ta1, q_put, q_puts, q_ti, q_ti1, q_ti2, q_tt, q_tnil, q_tcons, q_tcons1, q_augN, q_augN0, q_augN1, q_augN2, q_augA, q_augA1, q_augA2, q_augA3, q_augA4, q_ret, q_ret1, q_if, q_if1, q_wh1, q_wh2, q_wh3, q_wh4, q_for1, q_for2, q_forE, q_forE1, q_fo2, q_fo3, q_fo4, q_fo5, q_cont, q_fin1, q_fin2, eq_self, Int.toNat_zero, Int.toNat_one, Int.reduceToNat, List.cons.injEq, and_true, true_and, false_and, and_false, Nat.reduceEqDiff, Int.reduceEq, Int.reduceLT, Int.reduceLE, Int.reduceNeg, Int.lt_irrefl, Nat.lt_irrefl, not_true_eq_false, not_false_eq_true, and_self, List.getElem?_cons_zero, List.getElem?_cons_succ, List.set_cons_zero, List.set_cons_succ, List.length_cons, List.length_nil, List.map_cons, List.map_nil, List.replicate, List.cons_append, List.nil_append, Nat.reduceAdd, Nat.reduceLT, Nat.reduceLeDiff, reduceIte, plainV, setLoc, Bool.not_true, Bool.not_false, if_true, if_false, Bool.false_eq_true, decide_true, decide_false, Nat.zero_lt_succ, reduceCtorEq, decide_eq_true_eq]
                exact ⟨H', rfl, R2.base, R2.len⟩
            · rw [List.concat_eq_append] at hwb hr2 R2
              simp only [List.map_append, List.map_cons, List.map_nil, List.getLast?_concat, List.dropLast_concat] at hwb hr2
              have R3 := R2.back K
              have e9 : H'.set ih (.list ((hs1.map (·.1)).map AV.ref)) = H'.set ih (.list (refs hs1)) := by rw [List.map_map]; rfl
              rw [e9] at hwb
              have hb9 : attrV P.fld (H'.set ih (.list (refs hs1))) (.ref p.1) 9 = some (.ref io) := (w_o S R3.ms.w).trans (by rw [R3.pw.1])
              have ih' := sp_w16 S hd hN hN2 hs5 K (a1 := a1) (a2 := a2) n m p.2 hs1 (H'.set ih (.list (refs hs1))) p.1 (some (encO od)) (st + 1) r hr2 (by omega) (by omega) R3
              have hb : evSs P (callD P N d) N w16 [some (.ref im), a1, a2, some (.ref iw), x4] H = .ok .next [some (.ref im), a1, a2, some (.ref p.1), some (encO od)] (H'.set ih (.list (refs hs1))) := by
                simp only [w16, q_val, q_loc, q_loc1, q_tup, q_tup1, q_list, q_list1, q_nil, q_cons, q_cons1, q_cons2, q_attr, q_attr1, q_item, q_item1, q_item2, q_ofO, q_ofB, q_slice, q_slice1, q_slice2, q_slice3, q_slice4, q_bin, q_bin1, q_bin2, q_neg, q_neg1, q_not, q_not1, q_cmp, q_cmp1, q_cmp2, q_bop, q_bop1, q_bop2, q_and, q_or, q_ite, q_ite1, q_call, q_call1, q_call2, q_fn, q_bi, q_isbi, q_meth, q_meth1, q_meth2, q_meth3, q_methf, q_methb, q_comp, q_comp1, q_comp2, q_dict, q_snil, q_scons, q_seq, q_seqr, q_seqc, q_expr, q_expr1, q_asg, q_asg1, q_so, q_tn, q_set, q_sets, q_ta, q_ta1, q_put, q_puts, q_ti, q_ti1, q_ti2, q_tt, q_tnil, q_tcons, q_tcons1, q_augN, q_augN0, q_augN1, q_augN2, q_augA, q_augA1, q_augA2, q_augA3, q_augA4, q_ret, q_ret1, q_if, q_if1, q_wh1, q_wh2, q_wh3, q_wh4, q_for1, q_for2, q_forE, q_forE1, q_fo2, q_fo3, q_fo4, q_fo5, q_cont, q_fin1, q_fin2, eq_self, Int.toNat_zero, Int.toNat_one, Int.reduceToNat, List.cons.injEq, and_true, true_and, false_and, and_false, Nat.reduceEqDiff, Int.reduceEq, Int.reduceLT, Int.reduceLE, Int.reduceNeg, Int.lt_irrefl, Nat.lt_irrefl, not_true_eq_false, not_false_eq_true, and_self, List.getElem?_cons_zero, List.getElem?_cons_succ, List.set_cons_zero, List.set_cons_succ, List.length_cons, List.length_nil, List.map_cons, List.map_nil, List.replicate, List.cons_append, List.nil_append, Nat.reduceAdd, Nat.reduceLT, Nat.reduceLeDiff, reduceIte, plainV, setLoc, Bool.not_true, Bool.not_false, if_true, if_false, Bool.false_eq_true, decide_true, decide_false, Nat.zero_lt_succ, reduceCtorEq, decide_eq_true_eq, cmpV, isV, Option.map_some, Option.map_none, aeq, m_host S R.ms.m, hhd, hstep, ha9, ha10, hit, item0, hdone', kind_abort, hdn, e1, hdb, hwb, hb9]
              rw [q_wh, hcond]
              simp only [q_val, q_loc, q_loc1, q_tup, q_tup1, q_list, q_list1, q_nil, q_cons, q_cons1, q_cons2, q_attr, q_attr1, q_item, q_item1, q_item2, q_ofO, q_ofB, q_slice, q_slice1, q_slice2, q_slice3, q_slice4, q_bin, q_bin1, q_bin2, q_neg, q_neg1, q_not, q_not1, q_cmp, q_cmp1, q_cmp2, q_bop, q_bop1, q_bop2, q_and, q_or, q_ite, q_ite1, q_call, q_call1, q_call2, q_fn, q_bi, q_isbi, q_meth, q_meth1, q_meth2, q_meth3, q_methf, q_methb, q_comp, q_comp1, q_comp2, q_dict, q_snil, q_scons, q_seq, q_seqr, q_seqc, q_expr, q_expr1, q_asg, q_asg1, q_so, q_tn, q_set, q_sets, q_ta, q_ta1, q_put, q_puts, q_ti, q_ti1, q_ti2, q_tt, q_tnil, q_tcons, q_tcons1, q_augN, q_augN0, q_augN1, q_augN2, q_augA, q_augA1, q_augA2, q_augA3, q_augA4, q_ret, q_ret1, q_if, q_if1, q_wh1, q_wh2, q_wh3, q_wh4, q_for1, q_for2, q_forE, q_forE1, q_fo2, q_fo3, q_fo4, q_fo5, q_cont, q_fin1, q_fin2, eq_self, Int.toNat_zero, Int.toNat_one, Int.reduceToNat, List.cons.injEq, and_true, true_and, false_and, and_false, Nat.reduceEqDiff, Int.reduceEq, Int.reduceLT, Int.reduceLE, Int.reduceNeg, Int.lt_irrefl, Nat.lt_irrefl, not_true_eq_false, not_false_eq_true, and_self, List.getElem?_cons_zero, List.getElem?_cons_succ, List.set_cons_zero, List.set_cons_succ, List.length_cons, List.length_nil, List.map_cons, List.map_nil, List.replicate, List.cons_append, List.nil_append, Nat.reduceAdd, Nat.reduceLT, Nat.reduceLeDiff, reduceIte, plainV, setLoc, Bool.not_true, Bool.not_false, if_true, if_false, Bool.false_eq_true, decide_true, decide_false, Nat.zero_lt_succ, reduceCtorEq, decide_eq_true_eq]
              rw [hb]
              simp only [q_val, q_loc, q_loc1, q_tup, q_tup1, q_list, q_list1, q_nil, q_cons, q_cons1, q_cons2, q_attr, q_attr1, q_item, q_item1, q_item2, q_ofO, q_ofB, q_slice, q_slice1, q_slice2, q_slice3, q_slice4, q_bin, q_bin1, q_bin2, q_neg, q_neg1, q_not, q_not1, q_cmp, q_cmp1, q_cmp2, q_bop, q_bop1, q_bop2, q_and, q_or, q_ite, q_ite1, q_call, q_call1, q_call2, q_fn, q_bi, q_isbi, q_meth, q_meth1, q_meth2, q_meth3, q_methf, q_methb, q_comp, q_comp1, q_comp2, q_dict, q_snil, q_scons, q_seq, q_seqr, q_seqc, q_expr, q_expr1, q_asg, q_asg1, q_so, q_tn, q_set, q_sets, q_ta, q_ta1, q_put, q_puts, q_ti, q_ti1, q_ti2, q_tt, q_tnil, q_tcons, q_tcons1, q_augN, q_augN0, q_augN1, q_augN2, q_augA, q_augA1, q_augA2, q_augA3, q_augA4, q_ret, q_ret1, q_if, q_if1, q_wh1, q_wh2, q_wh3, q_wh4, q_for1, q_for2, q_forE, q_forE1, q_fo2, q_fo3, q_fo4, q_fo5, q_cont, q_fin1, q_fin2, eq_self, Int.toNat_zero, Int.toNat_one, Int.reduceToNat, List.cons.injEq, and_true, true_and, false_and, and_false, Nat.reduceEqDiff, Int.reduceEq, Int.reduceLT, Int.reduceLE, Int.reduceNeg, Int.lt_irrefl, Nat.lt_irrefl, not_true_eq_false, not_false_eq_true, and_self, List.getElem?_cons_zero, List.getElem?_cons_succ, List.set_cons_zero, List.set_cons_succ, List.length_cons, List.length_nil, List.map_cons, List.map_nil, List.replicate, List.cons_append, List.nil_append, Nat.reduceAdd, Nat.reduceLT, Nat.reduceLeDiff, reduceIte, plainV, setLoc, Bool.not_true, Bool.not_false, if_true, if_false, Bool.false_eq_true, decide_true, decide_false, Nat.zero_lt_succ, reduceCtorEq, decide_eq_true_eq]
              exact ih'
end
end Mine
end -- SpH
section -- SpI
namespace Mine
open PySem
/-- the names kept, the newest first -/
noncomputable def nest : List AV → AV
  | [] => .none
  | r :: rs => .tup [nest rs, r]
section
variable {P : P0} {N : Nat} {d : Nat} {H H0 : AH} {im iw ih ihost io L0 : Nat} {s : List Nat} {w : Wy} {os : List Od} {iv ir il : Nat} {lim st : Int}
theorem sp_w23 : ∀ (l acc : List AV) (n : Nat) (x2 : Option AV), l.length < n → acc.length + l.length < big →
    (seqK P (callD P N d) N [.expr (.meth (.loc 1) 4 []), .ret (.loc 1)] (whG P (callD P N d) N w23c w23 n [some (nest l), some (.ref H.length), x2] (H ++ [.list acc]))).fin = .ok (.ref H.length) (H ++ [.list (acc ++ l).reverse])
  | l, acc, 0, _, h, _ => absurd h (Nat.not_lt_zero _)
  | [], acc, n + 1, x2, _, _ => by
    rw [q_wh, List.append_nil]
    have hh : headV P (H ++ [.list acc]) (.ref H.length) 4 = some .bim := hdl getEnd (by decide)
    simp only [w23c, q_val, q_loc, q_loc1, q_tup, q_tup1, q_list, q_list1, q_nil, q_cons, q_cons1, q_cons2, q_attr, q_attr1, q_item, q_item1, q_item2, q_ofO, q_ofB, q_slice, q_slice1, q_slice2, q_slice3, q_slice4, q_bin, q_bin1, q_bin2, q_neg, q_neg1, q_not, q_not1, q_cmp, q_cmp1, q_cmp2, q_bop, q_bop1, q_bop2, q_and, q_or, q_ite, q_ite1, q_call, q_call1, q_call2, q_fn, q_bi, q_isbi, q_meth, q_meth1, q_meth2, q_meth3, q_methf, q_methb, q_comp, q_comp1, q_comp2, q_dict, q_snil, q_scons, q_seq, q_seqr, q_seqc, q_expr, q_expr1, q_asg, q_asg1, q_so, q_tn, q_set, q_sets, q_ta, q_ta1, q_put, q_puts, q_ti, q_ti1, q_ti2, q_tt, q_tnil, q_tcons, q_tcons1, q_augN, q_augN0, q_augN1, q_augN2, q_augA, q_augA1, q_augA2, q_augA3, q_augA4, q_ret, q_ret1, q_if, q_if1, q_wh1, q_wh2, q_wh3, q_wh4, q_for1, q_for2, q_forE, q_forE1, q_fo2, q_fo3, q_fo4, q_fo5, q_cont, q_fin1, q_fin2, eq_self, Int.toNat_zero, Int.toNat_one, Int.reduceToNat, List.cons.injEq, and_true, true_and, false_and, and_false, Nat.reduceEqDiff, Int.reduceEq, Int.reduceLT, Int.reduceLE, Int.reduceNeg, Int.lt_irrefl, Nat.lt_irrefl, not_true_eq_false, not_false_eq_true, and_self, List.getElem?_cons_zero, List.getElem?_cons_succ, List.set_cons_zero, List.set_cons_succ, List.length_cons, List.length_nil, List.map_cons, List.map_nil, List.replicate, List.cons_append, List.nil_append, Nat.reduceAdd, Nat.reduceLT, Nat.reduceLeDiff, reduceIte, plainV, setLoc, Bool.not_true, Bool.not_false, if_true, if_false, Bool.false_eq_true, decide_true, decide_false, Nat.zero_lt_succ, reduceCtorEq, decide_eq_true_eq, cmpV, isV, Option.map_some, Option.map_none, nest, hh, bimV, liV, popV, extV, joinV, getEnd, setEnd]
  | r :: l, acc, n + 1, x2, h, hz => by
    have ih' := sp_w23 l (acc ++ [r]) n (some r) (by simpa using h) (by simp at hz ⊢; omega)
    have hh : headV P (H ++ [.list acc]) (.ref H.length) 0 = some .bim := hdl getEnd (by decide)
    have hc : evE P (callD P N d) N w23c [some (nest (r :: l)), some (.ref H.length), x2] (H ++ [.list acc]) = .ok (.bool true) (H ++ [.list acc]) := by simp only [w23c, q_val, q_loc, q_loc1, q_tup, q_tup1, q_list, q_list1, q_nil, q_cons, q_cons1, q_cons2, q_attr, q_attr1, q_item, q_item1, q_item2, q_ofO, q_ofB, q_slice, q_slice1, q_slice2, q_slice3, q_slice4, q_bin, q_bin1, q_bin2, q_neg, q_neg1, q_not, q_not1, q_cmp, q_cmp1, q_cmp2, q_bop, q_bop1, q_bop2, q_and, q_or, q_ite, q_ite1, q_call, q_call1, q_call2, q_fn, q_bi, q_isbi, q_meth, q_meth1, q_meth2, q_meth3, q_methf, q_methb, q_comp, q_comp1, q_comp2, q_dict, q_snil, q_scons, q_seq, q_seqr, q_seqc, q_expr, q_expr1, q_asg, q_asg1, q_so, q_tn, q_set, q_sets, q_ta, q_ta1, q_put, q_puts, q_ti, q_ti1, q_ti2, q_tt, q_tnil, q_tcons, q_tcons1, q_augN, q_augN0, q_augN1, q_augN2, q_augA, q_augA1, q_augA2, q_augA3, q_augA4, q_ret, q_ret1, q_if, q_if1, q_wh1, q_wh2, q_wh3, q_wh4, q_for1, q_for2, q_forE, q_forE1, q_fo2, q_fo3, q_fo4, q_fo5, q_cont, q_fin1, q_fin2, eq_self, Int.toNat_zero, Int.toNat_one, Int.reduceToNat, List.cons.injEq, and_true, true_and, false_and, and_false, Nat.reduceEqDiff, Int.reduceEq, Int.reduceLT, Int.reduceLE, Int.reduceNeg, Int.lt_irrefl, Nat.lt_irrefl, not_true_eq_false, not_false_eq_true, and_self, List.getElem?_cons_zero, List.getElem?_cons_succ, List.set_cons_zero, List.set_cons_succ, List.length_cons, List.length_nil, List.map_cons, List.map_nil, List.replicate, List.cons_append, List.nil_append, Nat.reduceAdd, Nat.reduceLT, Nat.reduceLeDiff, reduceIte, plainV, setLoc, Bool.not_true, Bool.not_false, if_true, if_false, Bool.false_eq_true, decide_true, decide_false, Nat.zero_lt_succ, reduceCtorEq, decide_eq_true_eq, cmpV, isV, Option.map_some, Option.map_none, nest]
    have hz2 : acc.length < big := by omega
    have hb : evSs P (callD P N d) N w23 [some (nest (r :: l)), some (.ref H.length), x2] (H ++ [.list acc]) = .ok .next [some (nest l), some (.ref H.length), some r] (H ++ [.list (acc ++ [r])]) := by
      simp only [w23, q_val, q_loc, q_loc1, q_tup, q_tup1, q_list, q_list1, q_nil, q_cons, q_cons1, q_cons2, q_attr, q_attr1, q_item, q_item1, q_item2, q_ofO, q_ofB, q_slice, q_slice1, q_slice2, q_slice3, q_slice4, q_bin, q_bin1, q_bin2, q_neg, q_neg1, q_not, q_not1, q_cmp, q_cmp1, q_cmp2, q_bop, q_bop1, q_bop2, q_and, q_or, q_ite, q_ite1, q_call, q_call1, q_call2, q_fn, q_bi, q_isbi, q_meth, q_meth1, q_meth2, q_meth3, q_methf, q_methb, q_comp, q_comp1, q_comp2, q_dict, q_snil, q_scons, q_seq, q_seqr, q_seqc, q_expr, q_expr1, q_asg, q_asg1, q_so, q_tn, q_set, q_sets, q_ta, q_ta1, q_put, q_puts, q_ti, q_ti1, q_ti2, q_tt, q_tnil, q_tcons, q_tcons1, q_augN, q_augN0, q_augN1, q_augN2, q_augA, q_augA1, q_augA2, q_augA3, q_augA4, q_ret, q_ret1, q_if, q_if1, q_wh1, q_wh2, q_wh3, q_wh4, q_for1, q_for2, q_forE, q_forE1, q_fo2, q_fo3, q_fo4, q_fo5, q_cont, q_fin1, q_fin2, eq_self, Int.toNat_zero, Int.toNat_one, Int.reduceToNat, List.cons.injEq, and_true, true_and, false_and, and_false, Nat.reduceEqDiff, Int.reduceEq, Int.reduceLT, Int.reduceLE, Int.reduceNeg, Int.lt_irrefl, Nat.lt_irrefl, not_true_eq_false, not_false_eq_true, and_self, List.getElem?_cons_zero, List.getElem?_cons_succ, List.set_cons_zero, List.set_cons_succ, List.length_cons, List.length_nil, List.map_cons, List.map_nil, List.replicate, List.cons_append, List.nil_append, Nat.reduceAdd, Nat.reduceLT, Nat.reduceLeDiff, reduceIte, plainV, setLoc, Bool.not_true, Bool.not_false, if_true, if_false, Bool.false_eq_true, decide_true, decide_false, Nat.zero_lt_succ, reduceCtorEq, decide_eq_true_eq, nest, hh, bimV, liV, popV, extV, joinV, getEnd, setEnd, hz2]
    rw [q_wh, hc]
    simp only [q_val, q_loc, q_loc1, q_tup, q_tup1, q_list, q_list1, q_nil, q_cons, q_cons1, q_cons2, q_attr, q_attr1, q_item, q_item1, q_item2, q_ofO, q_ofB, q_slice, q_slice1, q_slice2, q_slice3, q_slice4, q_bin, q_bin1, q_bin2, q_neg, q_neg1, q_not, q_not1, q_cmp, q_cmp1, q_cmp2, q_bop, q_bop1, q_bop2, q_and, q_or, q_ite, q_ite1, q_call, q_call1, q_call2, q_fn, q_bi, q_isbi, q_meth, q_meth1, q_meth2, q_meth3, q_methf, q_methb, q_comp, q_comp1, q_comp2, q_dict, q_snil, q_scons, q_seq, q_seqr, q_seqc, q_expr, q_expr1, q_asg, q_asg1, q_so, q_tn, q_set, q_sets, q_ta, q_ta1, q_put, q_puts, q_ti, q_ti1, q_ti2, q_tt, q_tnil, q_tcons, q_tcons1, q_augN, q_augN0, q_augN1, q_augN2, q_augA, q_augA1, q_augA2, q_augA3, q_augA4, q_ret, q_ret1, q_if, q_if1, q_wh1, q_wh2, q_wh3, q_wh4, q_for1, q_for2, q_forE, q_forE1, q_fo2, q_fo3, q_fo4, q_fo5, q_cont, q_fin1, q_fin2, eq_self, Int.toNat_zero, Int.toNat_one, Int.reduceToNat, List.cons.injEq, and_true, true_and, false_and, and_false, Nat.reduceEqDiff, Int.reduceEq, Int.reduceLT, Int.reduceLE, Int.reduceNeg, Int.lt_irrefl, Nat.lt_irrefl, not_true_eq_false, not_false_eq_true, and_self, List.getElem?_cons_zero, List.getElem?_cons_succ, List.set_cons_zero, List.set_cons_succ, List.length_cons, List.length_nil, List.map_cons, List.map_nil, List.replicate, List.cons_append, List.nil_append, Nat.reduceAdd, Nat.reduceLT, Nat.reduceLeDiff, reduceIte, plainV, setLoc, Bool.not_true, Bool.not_false, if_true, if_false, Bool.false_eq_true, decide_true, decide_false, Nat.zero_lt_succ, reduceCtorEq, decide_eq_true_eq]
    rw [hb]
    simp only [q_val, q_loc, q_loc1, q_tup, q_tup1, q_list, q_list1, q_nil, q_cons, q_cons1, q_cons2, q_attr, q_attr1, q_item, q_item1, q_item2, q_ofO, q_ofB, q_slice, q_slice1, q_slice2, q_slice3, q_slice4, q_bin, q_bin1, q_bin2, q_neg, q_neg1, q_not, q_not1, q_cmp, q_cmp1, q_cmp2, q_bop, q_bop1, q_bop2, q_and, q_or, q_ite, q_ite1, q_call, q_call1, q_call2, q_fn, q_bi, q_isbi, q_meth, q_meth1, q_meth2, q_meth3, q_methf, q_methb, q_comp, q_comp1, q_comp2, q_dict, q_snil, q_scons, q_seq, q_seqr, q_seqc, q_expr, q_expr1, q_asg, q_asg1, q_so, q_tn, q_set, q_sets, q_ta, q_ta1, q_put, q_puts, q_ti, q_ti1, q_ti2, q_tt, q_tnil, q_tcons, q_tcons1, q_augN, q_augN0, q_augN1, q_augN2, q_augA, q_augA1, q_augA2, q_augA3, q_augA4, q_ret, q_ret1, q_if, q_if1, q_wh1, q_wh2, q_wh3, q_wh4, q_for1, q_for2, q_forE, q_forE1, q_fo2, q_fo3, q_fo4, q_fo5, q_cont, q_fin1, q_fin2, eq_self, Int.toNat_zero, Int.toNat_one, Int.reduceToNat, List.cons.injEq, and_true, true_and, false_and, and_false, Nat.reduceEqDiff, Int.reduceEq, Int.reduceLT, Int.reduceLE, Int.reduceNeg, Int.lt_irrefl, Nat.lt_irrefl, not_true_eq_false, not_false_eq_true, and_self, List.getElem?_cons_zero, List.getElem?_cons_succ, List.set_cons_zero, List.set_cons_succ, List.length_cons, List.length_nil, List.map_cons, List.map_nil, List.replicate, List.cons_append, List.nil_append, Nat.reduceAdd, Nat.reduceLT, Nat.reduceLeDiff, reduceIte, plainV, setLoc, Bool.not_true, Bool.not_false, if_true, if_false, Bool.false_eq_true, decide_true, decide_false, Nat.zero_lt_succ, reduceCtorEq, decide_eq_true_eq]
    rw [ih', List.append_assoc]; rfl
theorem sp23 (S : Std P) (hd : 1 ≤ d) {l : List AV} (h : l.length < N) (hN : N ≤ 1000000) : callD P N d 23 [nest l] H = .ok (.ref H.length) (H ++ [.list l.reverse]) := by
  obtain ⟨e, rfl, _⟩ := lev hd
  rw [callD_eq S.b23 rfl]
  simp only [b23, q_while, q_val, q_loc, q_loc1, q_tup, q_tup1, q_list, q_list1, q_nil, q_cons, q_cons1, q_cons2, q_attr, q_attr1, q_item, q_item1, q_item2, q_ofO, q_ofB, q_slice, q_slice1, q_slice2, q_slice3, q_slice4, q_bin, q_bin1, q_bin2, q_neg, q_neg1, q_not, q_not1, q_cmp, q_cmp1, q_cmp2, q_bop, q_bop1, q_bop2, q_and, q_or, q_ite, q_ite1, q_call, q_call1, q_call2, q_fn, q_bi, q_isbi, q_meth, q_meth1, q_meth2, q_meth3, q_methf, q_methb, q_comp, q_comp1, q_comp2, q_dict, q_snil, q_scons, q_seq, q_seqr, q_seqc, q_expr, q_expr1, q_asg, q_asg1, q_so, q_tn, q_set, q_sets, q_ta, q_ta1, q_put, q_puts, q_ti, q_ti1, q_ti2, q_tt, q_tnil, q_tcons, q_tcons1, q_augN, q_augN0, q_augN1, q_augN2, q_augA, q_augA1, q_augA2, q_augA3, q_augA4, q_ret, q_ret1, q_if, q_if1, q_wh1, q_wh2, q_wh3, q_wh4, q_for1, q_for2, q_forE, q_forE1, q_fo2, q_fo3, q_fo4, q_fo5, q_cont, q_fin1, q_fin2, eq_self, Int.toNat_zero, Int.toNat_one, Int.reduceToNat, List.cons.injEq, and_true, true_and, false_and, and_false, Nat.reduceEqDiff, Int.reduceEq, Int.reduceLT, Int.reduceLE, Int.reduceNeg, Int.lt_irrefl, Nat.lt_irrefl, not_true_eq_false, not_false_eq_true, and_self, List.getElem?_cons_zero, List.getElem?_cons_succ, List.set_cons_zero, List.set_cons_succ, List.length_cons, List.length_nil, List.map_cons, List.map_nil, List.replicate, List.cons_append, List.nil_append, Nat.reduceAdd, Nat.reduceLT, Nat.reduceLeDiff, reduceIte, plainV, setLoc, Bool.not_true, Bool.not_false, if_true, if_false, Bool.false_eq_true, decide_true, decide_false, Nat.zero_lt_succ, reduceCtorEq, decide_eq_true_eq]
  have := sp_w23 (P := P) (N := N) (d := e) (H := H) l [] N none h (by have : big = 16777216 := rfl; simp; omega)
  exact this
theorem sp15 (S : Std P) (hd : 1 ≤ d) : callD P N d 15 [.ref H.length, .str s, .ref ihost] (H ++ [AObj.inst 3 []]) = .ok .none (H ++ [mtObj s ihost (H.length + 1)] ++ [AObj.list []]) := by
  obtain ⟨e, rfl, _⟩ := lev hd
  rw [callD_eq S.b15 rfl]
  have p1 := fun {a : Nat} {v : AV} {fs : List (Nat × AV)} (hf : fldOf 3 a = true) => putt (P := P) (H := H ++ [AObj.inst 3 fs]) (v := v) S getEnd hf
  have p3 := putt (P := P) (H := H ++ [AObj.inst 3 [(15, .str s), (16, .ref ihost)]] ++ [AObj.list []]) (i := H.length) (v := .ref (H.length + 1)) (a := 17) S (keepA getEnd) rfl
  have e1 : ((H ++ [AObj.inst 3 [(15, .str s), (16, .ref ihost)]]).length) = H.length + 1 := by simp
  have e2 : (H ++ [AObj.inst 3 [(15, .str s), (16, .ref ihost)]] ++ [AObj.list []]).set H.length (mtObj s ihost (H.length + 1)) = H ++ [mtObj s ihost (H.length + 1)] ++ [AObj.list []] := by
    rw [List.append_assoc, List.set_append_right _ _ (Nat.le_refl _)]; simp
  simp only [b15, q_val, q_loc, q_loc1, q_tup, q_tup1, q_list, q_list1, q_nil, q_cons, q_cons1, q_cons2, q_attr, q_attr1, q_item, q_item1, q_item2, q_ofO, q_ofB, q_slice, q_slice1, q_slice2, q_slice3, q_slice4, q_bin, q_bin1, q_bin2, q_neg, q_neg1, q_not, q_not1, q_cmp, q_cmp1, q_cmp2, q_bop, q_bop1, q_bop2, q_and, q_or, q_ite, q_ite1, q_call, q_call1, q_call2, q_fn, q_bi, q_isbi, q_meth, q_meth1, q_meth2, q_meth3, q_methf, q_methb, q_comp, q_comp1, q_comp2, q_dict, q_snil, q_scons, q_seq, q_seqr, q_seqc, q_expr, q_expr1, q_asg, q_asg1, q_so, q_tn, q_set, q_sets, q_ta, q_ta1, q_put, q_puts, q_ti, q_ti1, q_ti2, q_tt, q_tnil, q_tcons, q_tcons1, q_augN, q_augN0, q_augN1, q_augN2, q_augA, q_augA1, q_augA2, q_augA3, q_augA4, q_ret, q_ret1, q_if, q_if1, q_wh1, q_wh2, q_wh3, q_wh4, q_for1, q_for2, q_forE, q_forE1, q_fo2, q_fo3, q_fo4, q_fo5, q_cont, q_fin1, q_fin2, eq_self, Int.toNat_zero, Int.toNat_one, Int.reduceToNat, List.cons.injEq, and_true, true_and, false_and, and_false, Nat.reduceEqDiff, Int.reduceEq, Int.reduceLT, Int.reduceLE, Int.reduceNeg, Int.lt_irrefl, Nat.lt_irrefl, not_true_eq_false, not_false_eq_true, and_self, List.getElem?_cons_zero, List.getElem?_cons_succ, List.set_cons_zero, List.set_cons_succ, List.length_cons, List.length_nil, List.map_cons, List.map_nil, List.replicate, List.cons_append, List.nil_append, Nat.reduceAdd, Nat.reduceLT, Nat.reduceLeDiff, reduceIte, plainV, setLoc, Bool.not_true, Bool.not_false, if_true, if_false, Bool.false_eq_true, decide_true, decide_false, Nat.zero_lt_succ, reduceCtorEq, decide_eq_true_eq, p1 (a := 15) rfl, p1 (a := 16) rfl, setEnd, setL, Nat.reduceEqDiff, e1, p3]
  rw [← e2]; rfl
theorem new3 (S : Std P) (hd : 1 ≤ d) : callV P (callD P N d) (.cls 3) [.str s, .ref ihost] H = .ok (.ref H.length) (H ++ [mtObj s ihost (H.length + 1)] ++ [AObj.list []]) := by
  exact callC S rfl (sp15 S hd)
theorem sp16 (S : Std P) (hd : 6 ≤ d) (hN : s.length + 2 < N) (hN2 : N ≤ 1000000) (hs5 : s.length ≤ 1000) {b n : Nat} {r : Option Wy} (hio : io < H.length) (hho : ihost < H.length) (hne : io ≠ ihost)
    (hh : H[ihost]? = some (hoObj iv lim ir st il)) (ho : H[io]? = some (.list (os.map encO))) (hn : n + 1 < N) (hst : st + n ≤ lim) (hr : runM s os n ⟨.ref io, 0, b, .none, .none, .none⟩ [] = some r) :
    RunIs H.length ihost H (callD P N d 16 [.ref H.length, .ref io, .int b] (H ++ [mtObj s ihost (H.length + 1)] ++ [AObj.list []])) r := by
  obtain ⟨e, rfl, _⟩ := lev (by omega : 1 ≤ d)
  rw [callD_eq S.b16 rfl]
  have e1 : (H ++ [mtObj s ihost (H.length + 1)] ++ [AObj.list []]).length = H.length + 2 := by simp
  have hnew := new2 (N := N) (d := e) (H := H ++ [mtObj s ihost (H.length + 1)] ++ [.list []]) S (by omega) (v1 := .ref io) (v2 := .int 0) (v3 := .int b) (v4 := .none) (v5 := .none) (v6 := .none)
  rw [e1] at hnew
  simp only [b16, q_while, q_val, q_loc, q_loc1, q_tup, q_tup1, q_list, q_list1, q_nil, q_cons, q_cons1, q_cons2, q_attr, q_attr1, q_item, q_item1, q_item2, q_ofO, q_ofB, q_slice, q_slice1, q_slice2, q_slice3, q_slice4, q_bin, q_bin1, q_bin2, q_neg, q_neg1, q_not, q_not1, q_cmp, q_cmp1, q_cmp2, q_bop, q_bop1, q_bop2, q_and, q_or, q_ite, q_ite1, q_call, q_call1, q_call2, q_fn, q_bi, q_isbi, q_meth, q_meth1, q_meth2, q_meth3, q_methf, q_methb, q_comp, q_comp1, q_comp2, q_dict, q_snil, q_scons, q_seq, q_seqr, q_seqc, q_expr, q_expr1, q_asg, q_asg1, q_so, q_tn, q_set, q_sets, q_ta, q_ta1, q_put, q_puts, q_ti, q_ti1, q_ti2, q_tt, q_tnil, q_tcons, q_tcons1, q_augN, q_augN0, q_augN1, q_augN2, q_augA, q_augA1, q_augA2, q_augA3, q_augA4, q_ret, q_ret1, q_if, q_if1, q_wh1, q_wh2, q_wh3, q_wh4, q_for1, q_for2, q_forE, q_forE1, q_fo2, q_fo3, q_fo4, q_fo5, q_cont, q_fin1, q_fin2, eq_self, Int.toNat_zero, Int.toNat_one, Int.reduceToNat, List.cons.injEq, and_true, true_and, false_and, and_false, Nat.reduceEqDiff, Int.reduceEq, Int.reduceLT, Int.reduceLE, Int.reduceNeg, Int.lt_irrefl, Nat.lt_irrefl, not_true_eq_false, not_false_eq_true, and_self, List.getElem?_cons_zero, List.getElem?_cons_succ, List.set_cons_zero, List.set_cons_succ, List.length_cons, List.length_nil, List.map_cons, List.map_nil, List.replicate, List.cons_append, List.nil_append, Nat.reduceAdd, Nat.reduceLT, Nat.reduceLeDiff, reduceIte, plainV, setLoc, Bool.not_true, Bool.not_false, if_true, if_false, Bool.false_eq_true, decide_true, decide_false, Nat.zero_lt_succ, reduceCtorEq, decide_eq_true_eq, isc S (c := 2) rfl, hnew]
  have g1 : (H ++ [mtObj s ihost (H.length + 1)])[H.length]? = some (mtObj s ihost (H.length + 1)) := getEnd
  have g2 : (H ++ [mtObj s ihost (H.length + 1)] ++ [AObj.list []])[H.length + 1]? = some (.list []) := by
    have := getEnd (G := H ++ [mtObj s ihost (H.length + 1)]) (x := AObj.list [])
    simpa using this
  have g3 : (H ++ [mtObj s ihost (H.length + 1)] ++ [AObj.list []] ++ [wyF (.ref io) (.int 0) (.int b) .none .none .none])[H.length + 2]? = some (wyF (.ref io) (.int 0) (.int b) .none .none .none) := by
    have := getEnd (G := H ++ [mtObj s ihost (H.length + 1)] ++ [AObj.list []]) (x := wyF (.ref io) (.int 0) (.int b) .none .none .none)
    rw [e1] at this; exact this
  have R : RI H (H ++ [mtObj s ihost (H.length + 1)] ++ [AObj.list []] ++ [wyF (.ref io) (.int 0) (.int b) .none .none .none]) H.length H.length (H.length + 1) ihost io (H.length + 2) s os iv ir il lim st ⟨.ref io, 0, b, .none, .none, .none⟩ [] := by
    refine ⟨⟨keepA (keepA g1), keepA g2, g3, (fun _ h => by cases h), ?_⟩, keepA (keepA (keepA hh)), keepA (keepA (keepA ho)), fun i x _ _ h => keepA (keepA (keepA h)), by omega, by omega, by omega, (fun _ h => by cases h), ⟨rfl, rfl⟩, (fun _ h => by cases h), by simp⟩
    simp only [List.map_nil, List.nodup_cons, List.mem_cons, List.not_mem_nil, or_false, not_or, List.nodup_nil, and_true, not_false_eq_true]
    omega
  exact sp_w16 (P := P) (N := N) (d := e) S (by omega) hN hN2 hs5 ⟨hio, hho, hne⟩ n N _ [] _ _ none st r hr (by omega) hst R

/-- what the whole match answers -/
noncomputable def MatchIs (L0 ihost : Nat) (H0 : AH) (out : Out AV) (b : Nat) : Option (Nat × List AV) → Prop
  | none => ∃ H', out = .ok .none H' ∧ Based L0 ihost H0 H' ∧ L0 ≤ H'.length
  | some (e, rows) => ∃ H' il', out = .ok (.tup [.int b, .int e, .ref il']) H' ∧ H'[il']? = some (.list rows) ∧ Based L0 ihost H0 H' ∧ L0 ≤ H'.length
theorem sp24 (S : Std P) (hd : 7 ≤ d) (hN : s.length + 2 < N) (hN2 : N ≤ 1000000) (hs5 : s.length ≤ 1000) {n : Nat} {r : Option Wy} {rows : List AV} (hio : io < H.length) (hho : ihost < H.length) (hne : io ≠ ihost)
    (hh : H[ihost]? = some (hoObj iv lim ir st il)) (ho : H[io]? = some (.list (os.map encO))) (hn : n + 1 < N) (hst : st + n ≤ lim) (hr : runM s os n ⟨.ref io, 0, 0, .none, .none, .none⟩ [] = some r)
    (hrow : ∀ w, r = some w → w.named = nest rows ∧ rows.length < N) :
    MatchIs H.length ihost H (callD P N d 24 [.ref io, .str s, .bool true, .ref ihost] H) 0 (r.map fun w => (w.at_, rows.reverse)) := by
  obtain ⟨e, rfl, _⟩ := lev (by omega : 1 ≤ d)
  rw [callD_eq S.b24 rfl]
  have R := sp16 (N := N) (d := e) (b := 0) S (by omega) hN hN2 hs5 hio hho hne hh ho hn hst hr
  have hnew := new3 (N := N) (d := e) (H := H) (s := s) (ihost := ihost) S (by omega)
  have h34 : headV P (H ++ [mtObj s ihost (H.length + 1)] ++ [AObj.list []]) (.ref H.length) 34 = some (.fn 16) := m_m S (keepA getEnd) rfl (by decide) (by decide) (by decide)
  have hrng : biV H .range [.int 1] = .ok (.rng 0 1) H := rfl
  simp only [b24, q_val, q_loc, q_loc1, q_tup, q_tup1, q_list, q_list1, q_nil, q_cons, q_cons1, q_cons2, q_attr, q_attr1, q_item, q_item1, q_item2, q_ofO, q_ofB, q_slice, q_slice1, q_slice2, q_slice3, q_slice4, q_bin, q_bin1, q_bin2, q_neg, q_neg1, q_not, q_not1, q_cmp, q_cmp1, q_cmp2, q_bop, q_bop1, q_bop2, q_and, q_or, q_ite, q_ite1, q_call, q_call1, q_call2, q_fn, q_bi, q_isbi, q_meth, q_meth1, q_meth2, q_meth3, q_methf, q_methb, q_comp, q_comp1, q_comp2, q_dict, q_snil, q_scons, q_seq, q_seqr, q_seqc, q_expr, q_expr1, q_asg, q_asg1, q_so, q_tn, q_set, q_sets, q_ta, q_ta1, q_put, q_puts, q_ti, q_ti1, q_ti2, q_tt, q_tnil, q_tcons, q_tcons1, q_augN, q_augN0, q_augN1, q_augN2, q_augA, q_augA1, q_augA2, q_augA3, q_augA4, q_ret, q_ret1, q_if, q_if1, q_wh1, q_wh2, q_wh3, q_wh4, q_for1, q_for2, q_forE, q_forE1, q_fo2, q_fo3, q_fo4, q_fo5, q_cont, q_fin1, q_fin2, eq_self, Int.toNat_zero, Int.toNat_one, Int.reduceToNat, List.cons.injEq, and_true, true_and, false_and, and_false, Nat.reduceEqDiff, Int.reduceEq, Int.reduceLT, Int.reduceLE, Int.reduceNeg, Int.lt_irrefl, Nat.lt_irrefl, not_true_eq_false, not_false_eq_true, and_self, List.getElem?_cons_zero, List.getElem?_cons_succ, List.set_cons_zero, List.set_cons_succ, List.length_cons, List.length_nil, List.map_cons, List.map_nil, List.replicate, List.cons_append, List.nil_append, Nat.reduceAdd, Nat.reduceLT, Nat.reduceLeDiff, reduceIte, plainV, setLoc, Bool.not_true, Bool.not_false, if_true, if_false, Bool.false_eq_true, decide_true, decide_false, Nat.zero_lt_succ, reduceCtorEq, decide_eq_true_eq, q_for, hrng, iterOf]
  obtain ⟨N1, rfl⟩ : ∃ N1, N = N1 + 1 + 1 := ⟨N - 2, by omega⟩
  rw [q_fo1 (v := .int 0) (i' := .rng 1 1) (by simp only [stepIt]; rfl)]
  simp only [f24t, q_val, q_loc, q_loc1, q_tup, q_tup1, q_list, q_list1, q_nil, q_cons, q_cons1, q_cons2, q_attr, q_attr1, q_item, q_item1, q_item2, q_ofO, q_ofB, q_slice, q_slice1, q_slice2, q_slice3, q_slice4, q_bin, q_bin1, q_bin2, q_neg, q_neg1, q_not, q_not1, q_cmp, q_cmp1, q_cmp2, q_bop, q_bop1, q_bop2, q_and, q_or, q_ite, q_ite1, q_call, q_call1, q_call2, q_fn, q_bi, q_isbi, q_meth, q_meth1, q_meth2, q_meth3, q_methf, q_methb, q_comp, q_comp1, q_comp2, q_dict, q_snil, q_scons, q_seq, q_seqr, q_seqc, q_expr, q_expr1, q_asg, q_asg1, q_so, q_tn, q_set, q_sets, q_ta, q_ta1, q_put, q_puts, q_ti, q_ti1, q_ti2, q_tt, q_tnil, q_tcons, q_tcons1, q_augN, q_augN0, q_augN1, q_augN2, q_augA, q_augA1, q_augA2, q_augA3, q_augA4, q_ret, q_ret1, q_if, q_if1, q_wh1, q_wh2, q_wh3, q_wh4, q_for1, q_for2, q_forE, q_forE1, q_fo2, q_fo3, q_fo4, q_fo5, q_cont, q_fin1, q_fin2, eq_self, Int.toNat_zero, Int.toNat_one, Int.reduceToNat, List.cons.injEq, and_true, true_and, false_and, and_false, Nat.reduceEqDiff, Int.reduceEq, Int.reduceLT, Int.reduceLE, Int.reduceNeg, Int.lt_irrefl, Nat.lt_irrefl, not_true_eq_false, not_false_eq_true, and_self, List.getElem?_cons_zero, List.getElem?_cons_succ, List.set_cons_zero, List.set_cons_succ, List.length_cons, List.length_nil, List.map_cons, List.map_nil, List.replicate, List.cons_append, List.nil_append, Nat.reduceAdd, Nat.reduceLT, Nat.reduceLeDiff, reduceIte, plainV, setLoc, Bool.not_true, Bool.not_false, if_true, if_false, Bool.false_eq_true, decide_true, decide_false, Nat.zero_lt_succ, reduceCtorEq, decide_eq_true_eq, tgV]
  cases r with
  | none =>
    obtain ⟨H', e1, hB, hL⟩ := R
    have hb : evSs P (callD P (N1 + 1 + 1) e) (N1 + 1 + 1) f24 [some (.ref io), some (.str s), some (.bool true), some (.ref ihost), some (.int 0), none, none] H = .ok .next [some (.ref io), some (.str s), some (.bool true), some (.ref ihost), some (.int 0), some (.int 1), some .none] H' := by
      have e1' := e1
      simp only [Int.ofNat_zero] at e1'
      simp only [f24, q_val, q_loc, q_loc1, q_tup, q_tup1, q_list, q_list1, q_nil, q_cons, q_cons1, q_cons2, q_attr, q_attr1, q_item, q_item1, q_item2, q_ofO, q_ofB, q_slice, q_slice1, q_slice2, q_slice3, q_slice4, q_bin, q_bin1, q_bin2, q_neg, q_neg1, q_not, q_not1, q_cmp, q_cmp1, q_cmp2, q_bop, q_bop1, q_bop2, q_and, q_or, q_ite, q_ite1, q_call, q_call1, q_call2, q_fn, q_bi, q_isbi, q_meth, q_meth1, q_meth2, q_meth3, q_methf, q_methb, q_comp, q_comp1, q_comp2, q_dict, q_snil, q_scons, q_seq, q_seqr, q_seqc, q_expr, q_expr1, q_asg, q_asg1, q_so, q_tn, q_set, q_sets, q_ta, q_ta1, q_put, q_puts, q_ti, q_ti1, q_ti2, q_tt, q_tnil, q_tcons, q_tcons1, q_augN, q_augN0, q_augN1, q_augN2, q_augA, q_augA1, q_augA2, q_augA3, q_augA4, q_ret, q_ret1, q_if, q_if1, q_wh1, q_wh2, q_wh3, q_wh4, q_for1, q_for2, q_forE, q_forE1, q_fo2, q_fo3, q_fo4, q_fo5, q_cont, q_fin1, q_fin2, eq_self, Int.toNat_zero, Int.toNat_one, Int.reduceToNat, List.cons.injEq, and_true, true_and, false_and, and_false, Nat.reduceEqDiff, Int.reduceEq, Int.reduceLT, Int.reduceLE, Int.reduceNeg, Int.lt_irrefl, Nat.lt_irrefl, not_true_eq_false, not_false_eq_true, and_self, List.getElem?_cons_zero, List.getElem?_cons_succ, List.set_cons_zero, List.set_cons_succ, List.length_cons, List.length_nil, List.map_cons, List.map_nil, List.replicate, List.cons_append, List.nil_append, Nat.reduceAdd, Nat.reduceLT, Nat.reduceLeDiff, reduceIte, plainV, setLoc, Bool.not_true, Bool.not_false, if_true, if_false, Bool.false_eq_true, decide_true, decide_false, Nat.zero_lt_succ, reduceCtorEq, decide_eq_true_eq, cmpV, isV, Option.map_some, Option.map_none, aeq, isc S (c := 3) rfl, hnew, h34, e1']
    rw [hb]
    simp only [q_val, q_loc, q_loc1, q_tup, q_tup1, q_list, q_list1, q_nil, q_cons, q_cons1, q_cons2, q_attr, q_attr1, q_item, q_item1, q_item2, q_ofO, q_ofB, q_slice, q_slice1, q_slice2, q_slice3, q_slice4, q_bin, q_bin1, q_bin2, q_neg, q_neg1, q_not, q_not1, q_cmp, q_cmp1, q_cmp2, q_bop, q_bop1, q_bop2, q_and, q_or, q_ite, q_ite1, q_call, q_call1, q_call2, q_fn, q_bi, q_isbi, q_meth, q_meth1, q_meth2, q_meth3, q_methf, q_methb, q_comp, q_comp1, q_comp2, q_dict, q_snil, q_scons, q_seq, q_seqr, q_seqc, q_expr, q_expr1, q_asg, q_asg1, q_so, q_tn, q_set, q_sets, q_ta, q_ta1, q_put, q_puts, q_ti, q_ti1, q_ti2, q_tt, q_tnil, q_tcons, q_tcons1, q_augN, q_augN0, q_augN1, q_augN2, q_augA, q_augA1, q_augA2, q_augA3, q_augA4, q_ret, q_ret1, q_if, q_if1, q_wh1, q_wh2, q_wh3, q_wh4, q_for1, q_for2, q_forE, q_forE1, q_fo2, q_fo3, q_fo4, q_fo5, q_cont, q_fin1, q_fin2, eq_self, Int.toNat_zero, Int.toNat_one, Int.reduceToNat, List.cons.injEq, and_true, true_and, false_and, and_false, Nat.reduceEqDiff, Int.reduceEq, Int.reduceLT, Int.reduceLE, Int.reduceNeg, Int.lt_irrefl, Nat.lt_irrefl, not_true_eq_false, not_false_eq_true, and_self, List.getElem?_cons_zero, List.getElem?_cons_succ, List.set_cons_zero, List.set_cons_succ, List.length_cons, List.length_nil, List.map_cons, List.map_nil, List.replicate, List.cons_append, List.nil_append, Nat.reduceAdd, Nat.reduceLT, Nat.reduceLeDiff, reduceIte, plainV, setLoc, Bool.not_true, Bool.not_false, if_true, if_false, Bool.false_eq_true, decide_true, decide_false, Nat.zero_lt_succ, reduceCtorEq, decide_eq_true_eq]
    rw [q_fo0 (by simp only [stepIt]; rfl)]
    simp only [q_val, q_loc, q_loc1, q_tup, q_tup1, q_list, q_list1, q_nil, q_cons, q_cons1, q_cons2, q_attr, q_attr1, q_item, q_item1, q_item2, q_ofO, q_ofB, q_slice, q_slice1, q_slice2, q_slice3, q_slice4, q_bin, q_bin1, q_bin2, q_neg, q_neg1, q_not, q_not1, q_cmp, q_cmp1, q_cmp2, q_bop, q_bop1, q_bop2, q_and, q_or, q_ite, q_ite1, q_call, q_call1, q_call2, q_fn, q_bi, q_isbi, q_meth, q_meth1, q_meth2, q_meth3, q_methf, q_methb, q_comp, q_comp1, q_comp2, q_dict, q_snil, q_scons, q_seq, q_seqr, q_seqc, q_expr, q_expr1, q_asg, q_asg1, q_so, q_tn, q_set, q_sets, q_ta, q_ta1, q_put, q_puts, q_ti, q_ti1, q_ti2, q_tt, q_tnil, q_tcons, q_tcons1, q_augN, q_augN0, q_augN1, q_augN2, q_augA, q_augA1, q_augA2, q_augA3, q_augA4, q_ret, q_ret1, q_if, q_if1, q_wh1, q_wh2, q_wh3, q_wh4, q_for1, q_for2, q_forE, q_forE1, q_fo2, q_fo3, q_fo4, q_fo5, q_cont, q_fin1, q_fin2, eq_self, Int.toNat_zero, Int.toNat_one, Int.reduceToNat, List.cons.injEq, and_true, true_and, false_and, and_false, Nat.reduceEqDiff, Int.reduceEq, Int.reduceLT, Int.reduceLE, Int.reduceNeg, Int.lt_irrefl, Nat.lt_irrefl, not_true_eq_false, not_false_eq_true, and_self, List.getElem?_cons_zero, List.getElem?_cons_succ, List.set_cons_zero, List.set_cons_succ, List.length_cons, List.length_nil, List.map_cons, List.map_nil, List.replicate, List.cons_append, List.nil_append, Nat.reduceAdd, Nat.reduceLT, Nat.reduceLeDiff, reduceIte, plainV, setLoc, Bool.not_true, Bool.not_false, if_true, if_false, Bool.false_eq_true, decide_true, decide_false, Nat.zero_lt_succ, reduceCtorEq, decide_eq_true_eq]
    exact ⟨H', rfl, hB, hL⟩
  | some wf =>
    obtain ⟨H', iw', e1, hw, hB, hL⟩ := R
    obtain ⟨hrow, hlen⟩ := hrow wf rfl
    have h23 := sp23 (N := N1 + 1 + 1) (d := e) (H := H') S (by omega) hlen hN2
    have hna := w_named S hw
    rw [hrow] at hna
    have hb : evSs P (callD P (N1 + 1 + 1) e) (N1 + 1 + 1) f24 [some (.ref io), some (.str s), some (.bool true), some (.ref ihost), some (.int 0), none, none] H = .ok (.ret (.tup [.int 0, .int wf.at_, .ref H'.length])) [some (.ref io), some (.str s), some (.bool true), some (.ref ihost), some (.int 0), some (.int 0), some (.ref iw')] (H' ++ [.list rows.reverse]) := by
      have e1' := e1
      simp only [Int.ofNat_zero] at e1'
      simp only [f24, q_val, q_loc, q_loc1, q_tup, q_tup1, q_list, q_list1, q_nil, q_cons, q_cons1, q_cons2, q_attr, q_attr1, q_item, q_item1, q_item2, q_ofO, q_ofB, q_slice, q_slice1, q_slice2, q_slice3, q_slice4, q_bin, q_bin1, q_bin2, q_neg, q_neg1, q_not, q_not1, q_cmp, q_cmp1, q_cmp2, q_bop, q_bop1, q_bop2, q_and, q_or, q_ite, q_ite1, q_call, q_call1, q_call2, q_fn, q_bi, q_isbi, q_meth, q_meth1, q_meth2, q_meth3, q_methf, q_methb, q_comp, q_comp1, q_comp2, q_dict, q_snil, q_scons, q_seq, q_seqr, q_seqc, q_expr, q_expr1, q_asg, q_asg1, q_so, q_tn, q_set, q_sets, q_ta, q_ta1, q_put, q_puts, q_ti, q_ti1, q_ti2, q_tt, q_tnil, q_tcons, q_tcons1, q_augN, q_augN0, q_augN1, q_augN2, q_augA, q_augA1, q_augA2, q_augA3, q_augA4, q_ret, q_ret1, q_if, q_if1, q_wh1, q_wh2, q_wh3, q_wh4, q_for1, q_for2, q_forE, q_forE1, q_fo2, q_fo3, q_fo4, q_fo5, q_cont, q_fin1, q_fin2, eq_self, Int.toNat_zero, Int.toNat_one, Int.reduceToNat, List.cons.injEq, and_true, true_and, false_and, and_false, Nat.reduceEqDiff, Int.reduceEq, Int.reduceLT, Int.reduceLE, Int.reduceNeg, Int.lt_irrefl, Nat.lt_irrefl, not_true_eq_false, not_false_eq_true, and_self, List.getElem?_cons_zero, List.getElem?_cons_succ, List.set_cons_zero, List.set_cons_succ, List.length_cons, List.length_nil, List.map_cons, List.map_nil, List.replicate, List.cons_append, List.nil_append, Nat.reduceAdd, Nat.reduceLT, Nat.reduceLeDiff, reduceIte, plainV, setLoc, Bool.not_true, Bool.not_false, if_true, if_false, Bool.false_eq_true, decide_true, decide_false, Nat.zero_lt_succ, reduceCtorEq, decide_eq_true_eq, cmpV, isV, Option.map_some, Option.map_none, aeq, isc S (c := 3) rfl, hnew, h34, e1', w_at S hw, hna, isf S.b23, h23]
    rw [hb]
    simp only [q_val, q_loc, q_loc1, q_tup, q_tup1, q_list, q_list1, q_nil, q_cons, q_cons1, q_cons2, q_attr, q_attr1, q_item, q_item1, q_item2, q_ofO, q_ofB, q_slice, q_slice1, q_slice2, q_slice3, q_slice4, q_bin, q_bin1, q_bin2, q_neg, q_neg1, q_not, q_not1, q_cmp, q_cmp1, q_cmp2, q_bop, q_bop1, q_bop2, q_and, q_or, q_ite, q_ite1, q_call, q_call1, q_call2, q_fn, q_bi, q_isbi, q_meth, q_meth1, q_meth2, q_meth3, q_methf, q_methb, q_comp, q_comp1, q_comp2, q_dict, q_snil, q_scons, q_seq, q_seqr, q_seqc, q_expr, q_expr1, q_asg, q_asg1, q_so, q_tn, q_set, q_sets, q_ta, q_ta1, q_put, q_puts, q_ti, q_ti1, q_ti2, q_tt, q_tnil, q_tcons, q_tcons1, q_augN, q_augN0, q_augN1, q_augN2, q_augA, q_augA1, q_augA2, q_augA3, q_augA4, q_ret, q_ret1, q_if, q_if1, q_wh1, q_wh2, q_wh3, q_wh4, q_for1, q_for2, q_forE, q_forE1, q_fo2, q_fo3, q_fo4, q_fo5, q_cont, q_fin1, q_fin2, eq_self, Int.toNat_zero, Int.toNat_one, Int.reduceToNat, List.cons.injEq, and_true, true_and, false_and, and_false, Nat.reduceEqDiff, Int.reduceEq, Int.reduceLT, Int.reduceLE, Int.reduceNeg, Int.lt_irrefl, Nat.lt_irrefl, not_true_eq_false, not_false_eq_true, and_self, List.getElem?_cons_zero, List.getElem?_cons_succ, List.set_cons_zero, List.set_cons_succ, List.length_cons, List.length_nil, List.map_cons, List.map_nil, List.replicate, List.cons_append, List.nil_append, Nat.reduceAdd, Nat.reduceLT, Nat.reduceLeDiff, reduceIte, plainV, setLoc, Bool.not_true, Bool.not_false, if_true, if_false, Bool.false_eq_true, decide_true, decide_false, Nat.zero_lt_succ, reduceCtorEq, decide_eq_true_eq]
    exact ⟨_, H'.length, rfl, getEnd, fun i x a b c => keepA (hB i x a b c), by simp; omega⟩
/-- a new host -/
theorem new4 (S : Std P) (hd : 1 ≤ d) {v ref_ : Nat} {lim : Int} : callV P (callD P N d) (.cls 4) [.ref v, .int lim, .ref ref_] H = .ok (.ref H.length) (H ++ [hoObj v lim ref_ 0 (H.length + 1)] ++ [.list []]) := by
  obtain ⟨e, rfl, _⟩ := lev hd
  have p1 := fun {a : Nat} {v : AV} {fs : List (Nat × AV)} (hf : fldOf 4 a = true) => putt (P := P) (H := H ++ [AObj.inst 4 fs]) (v := v) S getEnd hf
  have p3 := fun {fs : List (Nat × AV)} => putt (P := P) (H := H ++ [AObj.inst 4 fs] ++ [AObj.list []]) (i := H.length) (v := .ref (H.length + 1)) (a := 23) S (keepA getEnd) rfl
  have e1 : ∀ fs, ((H ++ [AObj.inst 4 fs]).length) = H.length + 1 := by simp
  have e2 : ∀ fs x, (H ++ [AObj.inst 4 fs] ++ [AObj.list []]).set H.length x = H ++ [x] ++ [AObj.list []] := fun fs x => by
    rw [List.append_assoc, List.set_append_right _ _ (Nat.le_refl _)]; simp
  have hc : callD P N (e + 1) 25 [.ref H.length, .ref v, .int lim, .ref ref_] (H ++ [AObj.inst 4 []]) = .ok .none (H ++ [hoObj v lim ref_ 0 (H.length + 1)] ++ [.list []]) := by
    rw [callD_eq S.b25 rfl]
    simp only [b25, q_val, q_loc, q_loc1, q_tup, q_tup1, q_list, q_list1, q_nil, q_cons, q_cons1, q_cons2, q_attr, q_attr1, q_item, q_item1, q_item2, q_ofO, q_ofB, q_slice, q_slice1, q_slice2, q_slice3, q_slice4, q_bin, q_bin1, q_bin2, q_neg, q_neg1, q_not, q_not1, q_cmp, q_cmp1, q_cmp2, q_bop, q_bop1, q_bop2, q_and, q_or, q_ite, q_ite1, q_call, q_call1, q_call2, q_fn, q_bi, q_isbi, q_meth, q_meth1, q_meth2, q_meth3, q_methf, q_methb, q_comp, q_comp1, q_comp2, q_dict, q_snil, q_scons, q_seq, q_seqr, q_seqc, q_expr, q_expr1, q_asg, q_asg1, q_so, q_tn, q_set, q_sets, q_ta, q_ta1, q_put, q_puts, q_ti, q_ti1, q_ti2, q_tt, q_tnil, q_tcons, q_tcons1, q_augN, q_augN0, q_augN1, q_augN2, q_augA, q_augA1, q_augA2, q_augA3, q_augA4, q_ret, q_ret1, q_if, q_if1, q_wh1, q_wh2, q_wh3, q_wh4, q_for1, q_for2, q_forE, q_forE1, q_fo2, q_fo3, q_fo4, q_fo5, q_cont, q_fin1, q_fin2, eq_self, Int.toNat_zero, Int.toNat_one, Int.reduceToNat, List.cons.injEq, and_true, true_and, false_and, and_false, Nat.reduceEqDiff, Int.reduceEq, Int.reduceLT, Int.reduceLE, Int.reduceNeg, Int.lt_irrefl, Nat.lt_irrefl, not_true_eq_false, not_false_eq_true, and_self, List.getElem?_cons_zero, List.getElem?_cons_succ, List.set_cons_zero, List.set_cons_succ, List.length_cons, List.length_nil, List.map_cons, List.map_nil, List.replicate, List.cons_append, List.nil_append, Nat.reduceAdd, Nat.reduceLT, Nat.reduceLeDiff, reduceIte, plainV, setLoc, Bool.not_true, Bool.not_false, if_true, if_false, Bool.false_eq_true, decide_true, decide_false, Nat.zero_lt_succ, reduceCtorEq, decide_eq_true_eq, p1 (a := 18) rfl, p1 (a := 19) rfl, p1 (a := 20) rfl, p1 (a := 21) rfl, p1 (a := 22) rfl, setEnd, setL, Nat.reduceEqDiff, e1, p3, e2, hoObj]
  exact callC S rfl hc
end
end Mine
end -- SpI
section -- SpK
namespace Mine
open PySem
/-! the law in plain terms -/
noncomputable def blockO (j : Nat) : List Od := [.mark, .split (j + 4), .ways, .jump (j + 5), .chars [], .name (.ref 6), .chars [41]]
noncomputable def osP : Nat → Nat → List Od
  | 0, _ => [.rpos 0, .done]
  | p + 1, j => blockO j ++ osP p (j + 7)
/-- the texts kept, the newest first -/
noncomputable def unnest : AV → Option (List (List Nat))
  | .none => some []
  | .tup [m, .tup [.ref 6, .str t]] => (unnest m).map (t :: ·)
  | _ => none
noncomputable def turnAt (row : List Nat) (there : Nat) : List Nat := row.drop there ++ row.take there
/-- the lengths of the parts, each up to the closing sign that has no opening one -/
noncomputable def parseL : List Nat → Nat → Nat → Option (List Nat)
  | [], _, k => if k = 0 then some [] else none
  | c :: r, lv, k => if c = 40 then parseL r (lv + 1) (k + 1) else if c = 41 then (match lv with
      | 0 => (parseL r 0 0).map (k :: ·)
      | lv + 1 => parseL r lv (k + 1)) else parseL r lv (k + 1)
/-- a part's length, where the row is whole -/
noncomputable def headL (p : Nat) (s : List Nat) : Option Nat := match parseL s 0 0 with
  | some (k :: ls) => if ls.length + 1 = p then some k else none
  | _ => none
noncomputable def w00 (p : Nat) : Wy := ⟨.ref (17 + 21 * p), 0, 0, .none, .none, .none⟩
/-- the match of one row answers as its parts say -/
noncomputable def check1 (p : Nat) (s : List Nat) : Bool := match runM s (osP p 0) 3000 (w00 p) [] with
  | none => false
  | some none => (headL p s).isNone
  | some (some wf) => match unnest wf.named with
    | none => false
    | some ts => decide ((ts.reverse.map (·.length)).sum + ts.reverse.length * 1 ≤ 1000) && wf.at_ == s.length && (joinL [41] ts.reverse ++ [41] == s) && ts.length == p && (match ts.reverse with | t :: _ => headL p s == some t.length | [] => false)
noncomputable def turns (p : Nat) (row : List Nat) : Nat → Nat → List (Nat × Nat)
  | 0, _ => []
  | n + 1, there => match headL p (turnAt row there) with
    | none => turns p row n (there + 1)
    | some k => (there, (there + k + 1) % row.length) :: turns p row n (there + 1)
noncomputable def lawRow (p : Nat) (row : List Nat) : Bool := let good := turns p row row.length 0
  good.length == p && ((good.drop 1 ++ good.take 1).map (·.1) == good.map (·.2))
noncomputable def checkAll (f : List Nat → Bool) : Nat → Nat → Nat → Nat → List Nat → Bool
  | 0, _, _, _, _ => false
  | n + 1, o, c, x, pre => if o = 0 ∧ c = 0 ∧ x = 0 then f pre.reverse else
    (o == 0 || checkAll f n (o - 1) c x (40 :: pre)) && (c == 0 || checkAll f n o (c - 1) x (41 :: pre)) && (x == 0 || checkAll f n o c (x - 1) (120 :: pre))
theorem checkAll_ok {f : List Nat → Bool} : ∀ (r pre : List Nat) (n o c x : Nat), checkAll f n o c x pre = true → r.count 40 = o → r.count 41 = c → r.count 120 = x → (∀ y ∈ r, y = 40 ∨ y = 41 ∨ y = 120) → f (pre.reverse ++ r) = true
  | r, pre, 0, o, c, x, h, _, _, _, _ => by simp only [checkAll] at h; cases h
  | [], pre, n + 1, o, c, x, h, h1, h2, h3, _ => by
    simp only [List.count_nil] at h1 h2 h3
    subst h1 h2 h3
    simp only [checkAll, and_self, if_true] at h
    rw [List.append_nil]; exact h
  | y :: r, pre, n + 1, o, c, x, h, h1, h2, h3, hy => by
    have hr : ∀ z ∈ r, z = 40 ∨ z = 41 ∨ z = 120 := fun z hz => hy z (List.mem_cons_of_mem _ hz)
    have hz : ¬ (o = 0 ∧ c = 0 ∧ x = 0) := by
      rintro ⟨a, b, e⟩
      rcases hy y List.mem_cons_self with rfl | rfl | rfl
      · simp at h1; omega
      · simp at h2; omega
      · simp at h3; omega
    simp only [checkAll, if_neg hz, Bool.and_eq_true, Bool.or_eq_true, beq_iff_eq] at h
    obtain ⟨⟨a, b⟩, e⟩ := h
    have fin : ∀ z, (z :: pre).reverse ++ r = pre.reverse ++ z :: r := fun z => by simp
    rcases hy y List.mem_cons_self with rfl | rfl | rfl
    · simp at h1 h2 h3
      have := checkAll_ok r (40 :: pre) n (o - 1) c x (a.resolve_left (by omega)) (by omega) h2 h3 hr
      rw [fin] at this; exact this
    · simp at h1 h2 h3
      have := checkAll_ok r (41 :: pre) n o (c - 1) x (b.resolve_left (by omega)) h1 (by omega) h3 hr
      rw [fin] at this; exact this
    · simp at h1 h2 h3
      have := checkAll_ok r (120 :: pre) n o c (x - 1) (e.resolve_left (by omega)) h1 h2 (by omega) hr
      rw [fin] at this; exact this
theorem unnest_nest : ∀ (ts : List (List Nat)) (v : AV), unnest v = some ts → v = nest (ts.map fun t => .tup [.ref 6, .str t])
  | ts, v, h => by
    unfold unnest at h
    split at h
    · cases h; rfl
    · rename_i m t
      cases q : unnest m with
      | none => rw [q] at h; cases h
      | some us =>
        rw [q] at h
        cases h
        rw [unnest_nest us m q]; rfl
    · cases h
structure Fit (p : Nat) (s : List Nat) (wf : Wy) (ts : List (List Nat)) (t : List Nat) (rest : List (List Nat)) : Prop where
  run : runM s (osP p 0) 3000 (w00 p) [] = some (some wf)
  named : wf.named = nest (ts.map fun t => .tup [.ref 6, .str t])
  at_ : wf.at_ = s.length
  whole : joinL [41] ts.reverse ++ [41] = s
  len : ts.length = p
  rev : ts.reverse = t :: rest
  head : headL p s = some t.length
  small : (ts.reverse.map (·.length)).sum + ts.reverse.length * 1 ≤ 1000
theorem check1_ok {p : Nat} {s : List Nat} (h : check1 p s = true) : (headL p s = none ∧ runM s (osP p 0) 3000 (w00 p) [] = some none) ∨ ∃ wf ts t rest, Fit p s wf ts t rest := by
  unfold check1 at h
  split at h
  · cases h
  · rename_i e
    exact .inl ⟨Option.isNone_iff_eq_none.mp h, e⟩
  · rename_i wf e
    split at h
    · cases h
    · rename_i ts eu
      simp only [Bool.and_eq_true, beq_iff_eq, decide_eq_true_eq] at h
      obtain ⟨⟨⟨⟨h1, h2⟩, h3⟩, h4⟩, h5⟩ := h
      split at h5
      · rename_i t rest er
        exact .inr ⟨wf, ts, t, rest, e, unnest_nest ts _ eu, h2, h3, h4, er, beq_iff_eq.mp h5, h1⟩
      · cases h5
noncomputable def allChk : Bool := (List.range 3).all fun p => (List.range 4).all fun o => (List.range 2).all fun x => checkAll (check1 (p + 1)) 11 o (o + (p + 1)) x [] && checkAll (lawRow (p + 1)) 11 o (o + (p + 1)) x []
end Mine
end -- SpK
section -- SpL
namespace Mine
open PySem
section
variable {P : P0} {call : Nat → List AV → AH → Out AV} {N : Nat} {H : AH}
theorem comp_end {elt : E0} {tg : T0} {n : Nat} {it : It} {l : Loc} {acc : List AV} (h : stepIt H it = some none) : compG P call N elt tg [] (n + 1) it l H acc = .ok acc H := by
  show (match stepIt H it with
    | none => (.bad : Out (List AV))
    | some none => .ok acc H
    | some (some (v, it')) => match tgV tg v l with
      | none => .bad
      | some l' => compIn (compG P call N elt tg [] n it') (fun l H => evIfs P call N [] l H) (fun l H => evE P call N elt l H) l' H acc) = _
  rw [h]
theorem comp_step {elt : E0} {tg : T0} {n : Nat} {it it' : It} {l l' : Loc} {acc : List AV} {v x : AV} (h : stepIt H it = some (some (v, it'))) (ht : tgV tg v l = some l') (he : evE P call N elt l' H = .ok x H) (hz : acc.length < big) :
    compG P call N elt tg [] (n + 1) it l H acc = compG P call N elt tg [] n it' l' H (acc ++ [x]) := by
  show (match stepIt H it with
    | none => (.bad : Out (List AV))
    | some none => .ok acc H
    | some (some (v, it')) => match tgV tg v l with
      | none => .bad
      | some l' => compIn (compG P call N elt tg [] n it') (fun l H => evIfs P call N [] l H) (fun l H => evE P call N elt l H) l' H acc) = _
  rw [h]
  dsimp only
  rw [ht]
  show (match evE P call N elt l' H with
    | .ok x H2 => if acc.length < big then compG P call N elt tg [] n it' l' H2 (acc ++ [x]) else .bad
    | _ => .bad) = _
  rw [he]
  exact if_pos hz
/-- each in turn, the heap as it was -/
theorem comp_map {elt : E0} {tg : T0} {il : Nat} {T : List AV} (hl : H[il]? = some (.list T)) (f : AV → AV) (z : Nat) (hf : ∀ v ∈ T, ∀ l : Loc, l.length = z → ∃ l', l'.length = z ∧ tgV tg v l = some l' ∧ evE P call N elt l' H = .ok (f v) H) :
    ∀ (ts : List AV) (n k : Nat) (l : Loc) (acc : List AV), l.length = z → T.drop k = ts → ts.length < n → acc.length + ts.length ≤ big → compG P call N elt tg [] n (.list il k) l H acc = .ok (acc ++ ts.map f) H
  | ts, 0, _, _, _, _, _, h, _ => absurd h (Nat.not_lt_zero _)
  | [], n + 1, k, l, acc, _, hd, _, _ => by
    rw [List.map_nil, List.append_nil]
    refine comp_end ?_
    simp only [stepIt, hl]
    rw [List.getElem?_eq_none (by simpa using hd)]; rfl
  | t :: ts, n + 1, k, l, acc, hlz, hd, h, hz => by
    have hlt : k < T.length := by
      rcases Nat.lt_or_ge k T.length with q | q
      · exact q
      · rw [List.drop_eq_nil_of_le q] at hd; cases hd
    rw [List.drop_eq_getElem_cons hlt] at hd
    injection hd with h1 h2
    obtain ⟨l', hl', ht, he⟩ := hf t (h1 ▸ List.getElem_mem hlt) l hlz
    rw [comp_step (v := t) (it' := .list il (k + 1)) (by simp only [stepIt, hl, List.getElem?_eq_getElem hlt, h1]; rfl) ht he (by simp at hz; omega),
      comp_map hl f z hf ts n (k + 1) l' (acc ++ [f t]) hl' h2 (by simpa using h) (by simp at hz ⊢; omega)]
    simp
noncomputable def mkRow (C : List Nat) : List Nat → Nat → List Nat → List Nat
  | [], _, row => row
  | c :: r, k, row => mkRow C r (k + 1) (row.take (C.getD (3 + k) 0 % (row.length + 1)) ++ [c] ++ row.drop (C.getD (3 + k) 0 % (row.length + 1)))
theorem sp_fl16 {C : List Nat} {ic : Nat} (hC : H[ic]? = some (.list (C.map vI))) {l0 l1 l3 l4 l9 l10 l11 l12 l13 l14 l15 : Option AV} : ∀ (sg : List Nat) (n k : Nat) (row : List Nat) (x6 x7 x8 : Option AV), sg.length < n → 3 + k + sg.length ≤ C.length → row.length + sg.length ≤ 1000 →
    ∃ y6 y7 y8, foG P call N fl16t fl16 n (.enm k sg) [l0, l1, some (.ref ic), l3, l4, some (.str row), x6, x7, x8, l9, l10, l11, l12, l13, l14, l15] H = .ok .next [l0, l1, some (.ref ic), l3, l4, some (.str (mkRow C sg k row)), y6, y7, y8, l9, l10, l11, l12, l13, l14, l15] H
  | sg, 0, _, _, _, _, _, h, _, _ => absurd h (Nat.not_lt_zero _)
  | [], n + 1, k, row, x6, x7, x8, _, _, _ => ⟨x6, x7, x8, q_fo0 rfl⟩
  | c :: r, n + 1, k, row, x6, x7, x8, h, hk, hz => by
    have hg : (C.map vI)[3 + k]? = some (.int (C.getD (3 + k) 0)) := by
      have hlt : 3 + k < C.length := by simp at hk; omega
      rw [List.getElem?_map, List.getElem?_eq_getElem hlt, List.getD_eq_getElem?_getD, List.getElem?_eq_getElem hlt]; rfl
    obtain ⟨y6, y7, y8, ih'⟩ := sp_fl16 hC r n (k + 1) (row.take (C.getD (3 + k) 0 % (row.length + 1)) ++ [c] ++ row.drop (C.getD (3 + k) 0 % (row.length + 1))) (some (.int k)) (some (.str [c])) (some (.int (C.getD (3 + k) 0 % (row.length + 1) : Nat))) (by simpa using h) (by simp at hk ⊢; omega) (by
      simp at hz ⊢; omega)
    refine ⟨y6, y7, y8, ?_⟩
    rw [q_fo1 (v := .tup [.int k, .str [c]]) (i' := .enm (k + 1) r) rfl]
    have e1 : ((3 : Int) + (k : Int)) = ((3 + k : Nat) : Int) := by omega
    have e2 : (((C.getD (3 + k) 0 : Nat) : Int) % ((row.length : Int) + 1)) = ((C.getD (3 + k) 0 % (row.length + 1) : Nat) : Int) := by rw [iS, Int.natCast_emod]
    have e3 : (0 : Int) < (row.length : Int) + 1 := by omega
    have hb1 : (List.take (C.getD (3 + k) 0 % (row.length + 1)) row).length + 1 ≤ big := by have : big = 16777216 := rfl; simp at hz ⊢; omega
    have hb2 : (List.take (C.getD (3 + k) 0 % (row.length + 1)) row ++ [c]).length + (List.drop (C.getD (3 + k) 0 % (row.length + 1)) row).length ≤ big := by have : big = 16777216 := rfl; simp at hz ⊢; omega
    have hit : itemV H (.ref ic) (.int (3 + k : Nat)) = some (.int (C.getD (3 + k) 0)) := by
      simp only [itemV, itemN, natOf, Option.bind_some, natOf, nat_pos, if_true, Int.toNat_natCast, hC, hg]
    have hb : evSs P call N fl16 [l0, l1, some (.ref ic), l3, l4, some (.str row), some (.int k), some (.str [c]), x8, l9, l10, l11, l12, l13, l14, l15] H =
        .ok .next [l0, l1, some (.ref ic), l3, l4, some (.str (row.take (C.getD (3 + k) 0 % (row.length + 1)) ++ [c] ++ row.drop (C.getD (3 + k) 0 % (row.length + 1)))), some (.int k), some (.str [c]), some (.int (C.getD (3 + k) 0 % (row.length + 1) : Nat)), l9, l10, l11, l12, l13, l14, l15] H := by
      simp only [fl16, q_val, q_loc, q_loc1, q_tup, q_tup1, q_list, q_list1, q_nil, q_cons, q_cons1, q_cons2, q_attr, q_attr1, q_item, q_item1, q_item2, q_ofO, q_ofB, q_slice, q_slice1, q_slice2, q_slice3, q_slice4, q_bin, q_bin1, q_bin2, q_neg, q_neg1, q_not, q_not1, q_cmp, q_cmp1, q_cmp2, q_bop, q_bop1, q_bop2, q_and, q_or, q_ite, q_ite1, q_call, q_call1, q_call2, q_fn, q_bi, q_isbi, q_meth, q_meth1, q_meth2, q_meth3, q_methf, q_methb, q_comp, q_comp1, q_comp2, q_dict, q_snil, q_scons, q_seq, q_seqr, q_seqc, q_expr, q_expr1, q_asg, q_asg1, q_so, q_tn, q_set, q_sets, q_ta, q_ta1, q_put, q_puts, q_ti, q_ti1, q_ti2, q_tt, q_tnil, q_tcons, q_tcons1, q_augN, q_augN0, q_augN1, q_augN2, q_augA, q_augA1, q_augA2, q_augA3, q_augA4, q_ret, q_ret1, q_if, q_if1, q_wh1, q_wh2, q_wh3, q_wh4, q_for1, q_for2, q_forE, q_forE1, q_fo2, q_fo3, q_fo4, q_fo5, q_cont, q_fin1, q_fin2, eq_self, Int.toNat_zero, Int.toNat_one, Int.reduceToNat, List.cons.injEq, and_true, true_and, false_and, and_false, Nat.reduceEqDiff, Int.reduceEq, Int.reduceLT, Int.reduceLE, Int.reduceNeg, Int.lt_irrefl, Nat.lt_irrefl, not_true_eq_false, not_false_eq_true, and_self, List.getElem?_cons_zero, List.getElem?_cons_succ, List.set_cons_zero, List.set_cons_succ, List.length_cons, List.length_nil, List.map_cons, List.map_nil, List.replicate, List.cons_append, List.nil_append, Nat.reduceAdd, Nat.reduceLT, Nat.reduceLeDiff, reduceIte, plainV, setLoc, Bool.not_true, Bool.not_false, if_true, if_false, Bool.false_eq_true, decide_true, decide_false, Nat.zero_lt_succ, reduceCtorEq, decide_eq_true_eq, binV, addV, catV, e1, hit, e3, e2, biV, lenV, isiV, sliceV, skOf, partN, stK, SK.of, SK.back, SK.ap, Option.bind_some, natOf, nat_pos, Int.toNat_natCast, Option.map_some, hb1, hb2]
    simp only [fl16t, q_val, q_loc, q_loc1, q_tup, q_tup1, q_list, q_list1, q_nil, q_cons, q_cons1, q_cons2, q_attr, q_attr1, q_item, q_item1, q_item2, q_ofO, q_ofB, q_slice, q_slice1, q_slice2, q_slice3, q_slice4, q_bin, q_bin1, q_bin2, q_neg, q_neg1, q_not, q_not1, q_cmp, q_cmp1, q_cmp2, q_bop, q_bop1, q_bop2, q_and, q_or, q_ite, q_ite1, q_call, q_call1, q_call2, q_fn, q_bi, q_isbi, q_meth, q_meth1, q_meth2, q_meth3, q_methf, q_methb, q_comp, q_comp1, q_comp2, q_dict, q_snil, q_scons, q_seq, q_seqr, q_seqc, q_expr, q_expr1, q_asg, q_asg1, q_so, q_tn, q_set, q_sets, q_ta, q_ta1, q_put, q_puts, q_ti, q_ti1, q_ti2, q_tt, q_tnil, q_tcons, q_tcons1, q_augN, q_augN0, q_augN1, q_augN2, q_augA, q_augA1, q_augA2, q_augA3, q_augA4, q_ret, q_ret1, q_if, q_if1, q_wh1, q_wh2, q_wh3, q_wh4, q_for1, q_for2, q_forE, q_forE1, q_fo2, q_fo3, q_fo4, q_fo5, q_cont, q_fin1, q_fin2, eq_self, Int.toNat_zero, Int.toNat_one, Int.reduceToNat, List.cons.injEq, and_true, true_and, false_and, and_false, Nat.reduceEqDiff, Int.reduceEq, Int.reduceLT, Int.reduceLE, Int.reduceNeg, Int.lt_irrefl, Nat.lt_irrefl, not_true_eq_false, not_false_eq_true, and_self, List.getElem?_cons_zero, List.getElem?_cons_succ, List.set_cons_zero, List.set_cons_succ, List.length_cons, List.length_nil, List.map_cons, List.map_nil, List.replicate, List.cons_append, List.nil_append, Nat.reduceAdd, Nat.reduceLT, Nat.reduceLeDiff, reduceIte, plainV, setLoc, Bool.not_true, Bool.not_false, if_true, if_false, Bool.false_eq_true, decide_true, decide_false, Nat.zero_lt_succ, reduceCtorEq, decide_eq_true_eq, tgV, tgVs, Option.bind_some]
    rw [hb]
    simp only [q_val, q_loc, q_loc1, q_tup, q_tup1, q_list, q_list1, q_nil, q_cons, q_cons1, q_cons2, q_attr, q_attr1, q_item, q_item1, q_item2, q_ofO, q_ofB, q_slice, q_slice1, q_slice2, q_slice3, q_slice4, q_bin, q_bin1, q_bin2, q_neg, q_neg1, q_not, q_not1, q_cmp, q_cmp1, q_cmp2, q_bop, q_bop1, q_bop2, q_and, q_or, q_ite, q_ite1, q_call, q_call1, q_call2, q_fn, q_bi, q_isbi, q_meth, q_meth1, q_meth2, q_meth3, q_methf, q_methb, q_comp, q_comp1, q_comp2, q_dict, q_snil, q_scons, q_seq, q_seqr, q_seqc, q_expr, q_expr1, q_asg, q_asg1, q_so, q_tn, q_set, q_sets, q_ta, q_ta1, q_put, q_puts, q_ti, q_ti1, q_ti2, q_tt, q_tnil, q_tcons, q_tcons1, q_augN, q_augN0, q_augN1, q_augN2, q_augA, q_augA1, q_augA2, q_augA3, q_augA4, q_ret, q_ret1, q_if, q_if1, q_wh1, q_wh2, q_wh3, q_wh4, q_for1, q_for2, q_forE, q_forE1, q_fo2, q_fo3, q_fo4, q_fo5, q_cont, q_fin1, q_fin2, eq_self, Int.toNat_zero, Int.toNat_one, Int.reduceToNat, List.cons.injEq, and_true, true_and, false_and, and_false, Nat.reduceEqDiff, Int.reduceEq, Int.reduceLT, Int.reduceLE, Int.reduceNeg, Int.lt_irrefl, Nat.lt_irrefl, not_true_eq_false, not_false_eq_true, and_self, List.getElem?_cons_zero, List.getElem?_cons_succ, List.set_cons_zero, List.set_cons_succ, List.length_cons, List.length_nil, List.map_cons, List.map_nil, List.replicate, List.cons_append, List.nil_append, Nat.reduceAdd, Nat.reduceLT, Nat.reduceLeDiff, reduceIte, plainV, setLoc, Bool.not_true, Bool.not_false, if_true, if_false, Bool.false_eq_true, decide_true, decide_false, Nat.zero_lt_succ, reduceCtorEq, decide_eq_true_eq]
    exact ih'
end
end Mine
end -- SpL
section -- SpM
namespace Mine
open PySem
noncomputable def pairV (q : Nat × Nat) : AV := .tup [.int q.1, .int q.2]
noncomputable def ioP (p : Nat) : Nat := 17 + 21 * p
noncomputable def sndV : AV → AV
  | .tup [_, b] => b
  | _ => .none
theorem strs_map : ∀ (l : List (List Nat)), strsOf (l.map AV.str) = some l
  | [] => rfl
  | x :: r => by simp only [List.map_cons, strsOf, strs_map r, Option.map_some]
section
variable {P : P0} {N : Nat} {H : AH} {d : Nat}
theorem sp_fl14 (S : Std P) (hd : 8 ≤ d) (hN : 4000 < N) (hN2 : N ≤ 1000000) {row : List Nat} {p ig : Nat} (hp : p < 10) (hrow : row.length ≤ 100) (hig : ig ≠ ioP p) (hck : ∀ there, there < row.length → check1 p (turnAt row there) = true) {l0 l1 l2 l3 l6 l7 l9 l10 : Option AV} :
    ∀ (m n there : Nat) (H : AH) (acc : List (Nat × Nat)) (x8 x13 x14 x15 : Option AV), m < n → there + m = row.length → acc.length + m ≤ 1000 → H[ioP p]? = some (.list ((osP p 0).map encO)) → H[ig]? = some (.list (acc.map pairV)) →
    ∃ H' y8 y13 y14 y15, foG P (callD P N d) N fl14t fl14 n (.rng there row.length) [l0, l1, l2, l3, some (.int p), some (.str row), l6, l7, x8, l9, l10, some (.ref (ioP p)), some (.ref ig), x13, x14, x15] H =
      .ok .next [l0, l1, l2, l3, some (.int p), some (.str row), l6, l7, y8, l9, l10, some (.ref (ioP p)), some (.ref ig), y13, y14, y15] H' ∧ H'[ig]? = some (.list ((acc ++ turns p row m there).map pairV))
  | m, 0, _, _, _, _, _, _, _, h, _, _, _, _ => absurd h (Nat.not_lt_zero _)
  | 0, n + 1, there, H, acc, x8, x13, x14, x15, _, ht, _, ho, hg => by
    have hz : (there : Int) = (row.length : Int) := by omega
    refine ⟨H, x8, x13, x14, x15, q_fo0 (by simp only [stepIt, hz, Int.lt_irrefl, if_false]), ?_⟩
    simp only [turns, List.append_nil]; exact hg
  | m + 1, n + 1, there, H, acc, x8, x13, x14, x15, h, ht, hz, ho, hg => by
    have hlt : there < row.length := by omega
    have hlti : (there : Int) < (row.length : Int) := by omega
    have hT : (turnAt row there).length = row.length := by unfold turnAt; simp; omega
    have hbin : (List.drop there row).length + (List.take there row).length ≤ big := by have : big = 16777216 := rfl; simp; omega
    -- the host
    have hnew := new4 (N := N) (d := d) (H := H ++ [.dict] ++ [.list []]) S (by omega) (v := H.length) (ref_ := H.length + 1) (lim := 99999)
    have e1 : (H ++ [AObj.dict]).length = H.length + 1 := by simp
    have e2 : (H ++ [AObj.dict] ++ [AObj.list []]).length = H.length + 2 := by simp
    rw [e2] at hnew
    have g1 : (H ++ [AObj.dict] ++ [AObj.list []] ++ [hoObj H.length 99999 (H.length + 1) 0 (H.length + 2 + 1)])[H.length + 2]? = some (hoObj H.length 99999 (H.length + 1) 0 (H.length + 2 + 1)) := by
      have := getEnd (G := H ++ [AObj.dict] ++ [AObj.list []]) (x := hoObj H.length 99999 (H.length + 1) 0 (H.length + 2 + 1))
      rw [e2] at this; exact this
    have hho := keepA (y := AObj.list []) g1
    have hk : ∀ i x, H[i]? = some x → (H ++ [AObj.dict] ++ [AObj.list []] ++ [hoObj H.length 99999 (H.length + 1) 0 (H.length + 2 + 1)] ++ [AObj.list []])[i]? = some x := fun i x h => keepA (keepA (keepA (keepA h)))
    have hL : H.length + 4 = (H ++ [AObj.dict] ++ [AObj.list []] ++ [hoObj H.length 99999 (H.length + 1) 0 (H.length + 2 + 1)] ++ [AObj.list []]).length := by simp
    generalize H ++ [AObj.dict] ++ [AObj.list []] ++ [hoObj H.length 99999 (H.length + 1) 0 (H.length + 2 + 1)] ++ [AObj.list []] = H2 at *
    have lo := lt_of ho
    have lg := lt_of hg
    have turned : binV H .Add (.str (row.drop there)) (.str (row.take there)) = .ok (.str (turnAt row there)) H := by simp only [binV, addV, catV, hbin, if_true]; rfl
    have Mx := fun (r : Option Wy) (rows : List AV) (hr : runM (turnAt row there) (osP p 0) 3000 ⟨.ref (ioP p), 0, 0, .none, .none, .none⟩ [] = some r) (hrow' : ∀ w, r = some w → w.named = nest rows ∧ rows.length < N) =>
      sp24 (N := N) (d := d) (s := turnAt row there) (lim := 99999) (st := 0) S (by omega) (by omega) hN2 (by omega) (io := ioP p) (ihost := H.length + 2) (by omega) (by omega) (by omega) hho (hk _ _ ho) (by omega) (by omega) hr hrow'
    rw [q_fo1 (v := .int there) (i' := .rng (there + 1 : Nat) row.length) (by simp only [stepIt, hlti, if_true, iS])]
    simp only [fl14t, q_val, q_loc, q_loc1, q_tup, q_tup1, q_list, q_list1, q_nil, q_cons, q_cons1, q_cons2, q_attr, q_attr1, q_item, q_item1, q_item2, q_ofO, q_ofB, q_slice, q_slice1, q_slice2, q_slice3, q_slice4, q_bin, q_bin1, q_bin2, q_neg, q_neg1, q_not, q_not1, q_cmp, q_cmp1, q_cmp2, q_bop, q_bop1, q_bop2, q_and, q_or, q_ite, q_ite1, q_call, q_call1, q_call2, q_fn, q_bi, q_isbi, q_meth, q_meth1, q_meth2, q_meth3, q_methf, q_methb, q_comp, q_comp1, q_comp2, q_dict, q_snil, q_scons, q_seq, q_seqr, q_seqc, q_expr, q_expr1, q_asg, q_asg1, q_so, q_tn, q_set, q_sets, q_ta, q_ta1, q_put, q_puts, q_ti, q_ti1, q_ti2, q_tt, q_tnil, q_tcons, q_tcons1, q_augN, q_augN0, q_augN1, q_augN2, q_augA, q_augA1, q_augA2, q_augA3, q_augA4, q_ret, q_ret1, q_if, q_if1, q_wh1, q_wh2, q_wh3, q_wh4, q_for1, q_for2, q_forE, q_forE1, q_fo2, q_fo3, q_fo4, q_fo5, q_cont, q_fin1, q_fin2, eq_self, Int.toNat_zero, Int.toNat_one, Int.reduceToNat, List.cons.injEq, and_true, true_and, false_and, and_false, Nat.reduceEqDiff, Int.reduceEq, Int.reduceLT, Int.reduceLE, Int.reduceNeg, Int.lt_irrefl, Nat.lt_irrefl, not_true_eq_false, not_false_eq_true, and_self, List.getElem?_cons_zero, List.getElem?_cons_succ, List.set_cons_zero, List.set_cons_succ, List.length_cons, List.length_nil, List.map_cons, List.map_nil, List.replicate, List.cons_append, List.nil_append, Nat.reduceAdd, Nat.reduceLT, Nat.reduceLeDiff, reduceIte, plainV, setLoc, Bool.not_true, Bool.not_false, if_true, if_false, Bool.false_eq_true, decide_true, decide_false, Nat.zero_lt_succ, reduceCtorEq, decide_eq_true_eq, tgV]
    have zz : ((0 : Nat) : Int) = 0 := rfl
    rcases check1_ok (hck there hlt) with ⟨hd0, hr0⟩ | ⟨wf, ts, t, rest, K⟩
    · obtain ⟨H', c1, B, L⟩ := Mx none [] hr0 (fun _ q => by cases q)
      have hb : evSs P (callD P N d) N fl14 [l0, l1, l2, l3, some (.int p), some (.str row), l6, l7, some (.int there), l9, l10, some (.ref (ioP p)), some (.ref ig), x13, x14, x15] H =
          .ok .next [l0, l1, l2, l3, some (.int p), some (.str row), l6, l7, some (.int there), l9, l10, some (.ref (ioP p)), some (.ref ig), some (.str (turnAt row there)), some .none, x15] H' := by
        simp only [fl14, q_val, q_loc, q_loc1, q_tup, q_tup1, q_list, q_list1, q_nil, q_cons, q_cons1, q_cons2, q_attr, q_attr1, q_item, q_item1, q_item2, q_ofO, q_ofB, q_slice, q_slice1, q_slice2, q_slice3, q_slice4, q_bin, q_bin1, q_bin2, q_neg, q_neg1, q_not, q_not1, q_cmp, q_cmp1, q_cmp2, q_bop, q_bop1, q_bop2, q_and, q_or, q_ite, q_ite1, q_call, q_call1, q_call2, q_fn, q_bi, q_isbi, q_meth, q_meth1, q_meth2, q_meth3, q_methf, q_methb, q_comp, q_comp1, q_comp2, q_dict, q_snil, q_scons, q_seq, q_seqr, q_seqc, q_expr, q_expr1, q_asg, q_asg1, q_so, q_tn, q_set, q_sets, q_ta, q_ta1, q_put, q_puts, q_ti, q_ti1, q_ti2, q_tt, q_tnil, q_tcons, q_tcons1, q_augN, q_augN0, q_augN1, q_augN2, q_augA, q_augA1, q_augA2, q_augA3, q_augA4, q_ret, q_ret1, q_if, q_if1, q_wh1, q_wh2, q_wh3, q_wh4, q_for1, q_for2, q_forE, q_forE1, q_fo2, q_fo3, q_fo4, q_fo5, q_cont, q_fin1, q_fin2, eq_self, Int.toNat_zero, Int.toNat_one, Int.reduceToNat, List.cons.injEq, and_true, true_and, false_and, and_false, Nat.reduceEqDiff, Int.reduceEq, Int.reduceLT, Int.reduceLE, Int.reduceNeg, Int.lt_irrefl, Nat.lt_irrefl, not_true_eq_false, not_false_eq_true, and_self, List.getElem?_cons_zero, List.getElem?_cons_succ, List.set_cons_zero, List.set_cons_succ, List.length_cons, List.length_nil, List.map_cons, List.map_nil, List.replicate, List.cons_append, List.nil_append, Nat.reduceAdd, Nat.reduceLT, Nat.reduceLeDiff, reduceIte, plainV, setLoc, Bool.not_true, Bool.not_false, if_true, if_false, Bool.false_eq_true, decide_true, decide_false, Nat.zero_lt_succ, reduceCtorEq, decide_eq_true_eq, sliceV, skOf, partN, stK, SK.of, SK.back, SK.ap, Option.bind_some, natOf, cmpV, isV, Option.map_some, Option.map_none, nat_pos, Int.toNat_natCast, Option.map_some, turned, isf S.b24, isc S (c := 4) rfl, e1, hnew, c1]
      obtain ⟨H'', y8, y13, y14, y15, ih', hg'⟩ := sp_fl14 S hd hN hN2 hp hrow hig hck (l0 := l0) (l1 := l1) (l2 := l2) (l3 := l3) (l6 := l6) (l7 := l7) (l9 := l9) (l10 := l10) m n (there + 1) H' acc (some (.int there)) (some (.str (turnAt row there))) (some .none) x15 (by omega) (by omega) (by omega)
        (B _ _ (by omega) (by omega) (hk _ _ ho)) (B _ _ (by omega) (by omega) (hk _ _ hg))
      refine ⟨H'', y8, y13, y14, y15, ?_, ?_⟩
      · rw [hb]
        simp only [q_val, q_loc, q_loc1, q_tup, q_tup1, q_list, q_list1, q_nil, q_cons, q_cons1, q_cons2, q_attr, q_attr1, q_item, q_item1, q_item2, q_ofO, q_ofB, q_slice, q_slice1, q_slice2, q_slice3, q_slice4, q_bin, q_bin1, q_bin2, q_neg, q_neg1, q_not, q_not1, q_cmp, q_cmp1, q_cmp2, q_bop, q_bop1, q_bop2, q_and, q_or, q_ite, q_ite1, q_call, q_call1, q_call2, q_fn, q_bi, q_isbi, q_meth, q_meth1, q_meth2, q_meth3, q_methf, q_methb, q_comp, q_comp1, q_comp2, q_dict, q_snil, q_scons, q_seq, q_seqr, q_seqc, q_expr, q_expr1, q_asg, q_asg1, q_so, q_tn, q_set, q_sets, q_ta, q_ta1, q_put, q_puts, q_ti, q_ti1, q_ti2, q_tt, q_tnil, q_tcons, q_tcons1, q_augN, q_augN0, q_augN1, q_augN2, q_augA, q_augA1, q_augA2, q_augA3, q_augA4, q_ret, q_ret1, q_if, q_if1, q_wh1, q_wh2, q_wh3, q_wh4, q_for1, q_for2, q_forE, q_forE1, q_fo2, q_fo3, q_fo4, q_fo5, q_cont, q_fin1, q_fin2, eq_self, Int.toNat_zero, Int.toNat_one, Int.reduceToNat, List.cons.injEq, and_true, true_and, false_and, and_false, Nat.reduceEqDiff, Int.reduceEq, Int.reduceLT, Int.reduceLE, Int.reduceNeg, Int.lt_irrefl, Nat.lt_irrefl, not_true_eq_false, not_false_eq_true, and_self, List.getElem?_cons_zero, List.getElem?_cons_succ, List.set_cons_zero, List.set_cons_succ, List.length_cons, List.length_nil, List.map_cons, List.map_nil, List.replicate, List.cons_append, List.nil_append, Nat.reduceAdd, Nat.reduceLT, Nat.reduceLeDiff, reduceIte, plainV, setLoc, Bool.not_true, Bool.not_false, if_true, if_false, Bool.false_eq_true, decide_true, decide_false, Nat.zero_lt_succ, reduceCtorEq, decide_eq_true_eq]
        exact ih'
      · simp only [turns, hd0]; exact hg'
    · obtain ⟨H', il', c1, hil, B, L⟩ := Mx (some wf) _ K.run (fun w q => by cases q; exact ⟨K.named, by have := K.len; simp; omega⟩)
      rw [zz] at c1
      have hrv : (ts.map fun t => AV.tup [.ref 6, .str t]).reverse = ts.reverse.map fun t => AV.tup [.ref 6, .str t] := by rw [List.map_reverse]
      rw [hrv] at hil
      have hsm := K.small
      have hlen0 := K.len
      have hlen : ts.reverse.length = p := by rw [List.length_reverse]; exact K.len
      have hcomp := comp_map (P := P) (call := callD P N d) (N := N) (elt := cl13) (tg := cl13t) hil sndV 3 (fun v hv l hl => by
        obtain ⟨t, _, rfl⟩ := List.mem_map.mp hv
        match l, hl with
        | [a, b, c], _ => exact ⟨[a, some (.ref 6), some (.str t)], rfl, by simp only [cl13t, q_val, q_loc, q_loc1, q_tup, q_tup1, q_list, q_list1, q_nil, q_cons, q_cons1, q_cons2, q_attr, q_attr1, q_item, q_item1, q_item2, q_ofO, q_ofB, q_slice, q_slice1, q_slice2, q_slice3, q_slice4, q_bin, q_bin1, q_bin2, q_neg, q_neg1, q_not, q_not1, q_cmp, q_cmp1, q_cmp2, q_bop, q_bop1, q_bop2, q_and, q_or, q_ite, q_ite1, q_call, q_call1, q_call2, q_fn, q_bi, q_isbi, q_meth, q_meth1, q_meth2, q_meth3, q_methf, q_methb, q_comp, q_comp1, q_comp2, q_dict, q_snil, q_scons, q_seq, q_seqr, q_seqc, q_expr, q_expr1, q_asg, q_asg1, q_so, q_tn, q_set, q_sets, q_ta, q_ta1, q_put, q_puts, q_ti, q_ti1, q_ti2, q_tt, q_tnil, q_tcons, q_tcons1, q_augN, q_augN0, q_augN1, q_augN2, q_augA, q_augA1, q_augA2, q_augA3, q_augA4, q_ret, q_ret1, q_if, q_if1, q_wh1, q_wh2, q_wh3, q_wh4, q_for1, q_for2, q_forE, q_forE1, q_fo2, q_fo3, q_fo4, q_fo5, q_cont, q_fin1, q_fin2, eq_self, Int.toNat_zero, Int.toNat_one, Int.reduceToNat, List.cons.injEq, and_true, true_and, false_and, and_false, Nat.reduceEqDiff, Int.reduceEq, Int.reduceLT, Int.reduceLE, Int.reduceNeg, Int.lt_irrefl, Nat.lt_irrefl, not_true_eq_false, not_false_eq_true, and_self, List.getElem?_cons_zero, List.getElem?_cons_succ, List.set_cons_zero, List.set_cons_succ, List.length_cons, List.length_nil, List.map_cons, List.map_nil, List.replicate, List.cons_append, List.nil_append, Nat.reduceAdd, Nat.reduceLT, Nat.reduceLeDiff, reduceIte, plainV, setLoc, Bool.not_true, Bool.not_false, if_true, if_false, Bool.false_eq_true, decide_true, decide_false, Nat.zero_lt_succ, reduceCtorEq, decide_eq_true_eq, tgV, tgVs, Option.bind_some], by simp only [cl13, q_val, q_loc, q_loc1, q_tup, q_tup1, q_list, q_list1, q_nil, q_cons, q_cons1, q_cons2, q_attr, q_attr1, q_item, q_item1, q_item2, q_ofO, q_ofB, q_slice, q_slice1, q_slice2, q_slice3, q_slice4, q_bin, q_bin1, q_bin2, q_neg, q_neg1, q_not, q_not1, q_cmp, q_cmp1, q_cmp2, q_bop, q_bop1, q_bop2, q_and, q_or, q_ite, q_ite1, q_call, q_call1, q_call2, q_fn, q_bi, q_isbi, q_meth, q_meth1, q_meth2, q_meth3, q_methf, q_methb, q_comp, q_comp1, q_comp2, q_dict, q_snil, q_scons, q_seq, q_seqr, q_seqc, q_expr, q_expr1, q_asg, q_asg1, q_so, q_tn, q_set, q_sets, q_ta, q_ta1, q_put, q_puts, q_ti, q_ti1, q_ti2, q_tt, q_tnil, q_tcons, q_tcons1, q_augN, q_augN0, q_augN1, q_augN2, q_augA, q_augA1, q_augA2, q_augA3, q_augA4, q_ret, q_ret1, q_if, q_if1, q_wh1, q_wh2, q_wh3, q_wh4, q_for1, q_for2, q_forE, q_forE1, q_fo2, q_fo3, q_fo4, q_fo5, q_cont, q_fin1, q_fin2, eq_self, Int.toNat_zero, Int.toNat_one, Int.reduceToNat, List.cons.injEq, and_true, true_and, false_and, and_false, Nat.reduceEqDiff, Int.reduceEq, Int.reduceLT, Int.reduceLE, Int.reduceNeg, Int.lt_irrefl, Nat.lt_irrefl, not_true_eq_false, not_false_eq_true, and_self, List.getElem?_cons_zero, List.getElem?_cons_succ, List.set_cons_zero, List.set_cons_succ, List.length_cons, List.length_nil, List.map_cons, List.map_nil, List.replicate, List.cons_append, List.nil_append, Nat.reduceAdd, Nat.reduceLT, Nat.reduceLeDiff, reduceIte, plainV, setLoc, Bool.not_true, Bool.not_false, if_true, if_false, Bool.false_eq_true, decide_true, decide_false, Nat.zero_lt_succ, reduceCtorEq, decide_eq_true_eq, sndV]⟩) _ N 0 [none, none, none] [] rfl rfl (by simp; omega) (by have : big = 16777216 := rfl; simp; omega)
      have hmap : (List.map (fun t => AV.tup [.ref 6, .str t]) ts.reverse).map sndV = ts.reverse.map AV.str := by rw [List.map_map]; rfl
      rw [List.drop_zero, hmap, List.nil_append, K.rev] at hcomp
      rw [K.rev] at hsm hlen
      have hwh := K.whole
      rw [K.rev] at hwh
      have hits : iterOf H' (.ref il') = some (.list il' 0) := by simp only [iterOf, hil]
      obtain ⟨TL, hTL⟩ : ∃ TL, TL = List.map AV.str (t :: rest) := ⟨_, rfl⟩
      rw [← hTL] at hcomp
      generalize hH3 : H' ++ [AObj.list TL] = H3
      have h3 : H3[H'.length]? = some (.list (List.map AV.str (t :: rest))) := by rw [← hH3, ← hTL]; exact getEnd
      have hg3 : H3[ig]? = some (.list (acc.map pairV)) := by rw [← hH3]; exact keepA (B _ _ (by omega) (by omega) (hk _ _ hg))
      have ho3 : H3[ioP p]? = some (.list ((osP p 0).map encO)) := by rw [← hH3]; exact keepA (B _ _ (by omega) (by omega) (hk _ _ ho))
      have hj : bimV H3 (.str [41]) 5 [.ref H'.length] = .ok (.str (joinL [41] (t :: rest))) H3 := by
        have : (List.map (fun x => x.length) (t :: rest)).sum + (t :: rest).length * [41].length ≤ 16777216 := by
          have q : [41].length = 1 := rfl
          rw [q]; omega
        simp only [bimV, liV, popV, extV, joinV, h3, strs_map, if_pos this]
      have hjb : (joinL [41] (t :: rest)).length + [41].length ≤ big := by
        have q := congrArg List.length hwh
        rw [List.length_append] at q
        have : big = 16777216 := rfl
        omega
      have hadd : binV H3 .Add (.str (joinL [41] (t :: rest))) (.str [41]) = .ok (.str (turnAt row there)) H3 := by simp only [binV, addV, catV, if_pos hjb, hwh]
      have hhs : headV P H3 (.str [41]) 5 = some .bim := rfl
      have hlen3 : biV H3 .len [.ref H'.length] = .ok (.int p) H3 := by simp only [biV, lenV, isiV, h3, List.length_map, hlen]
      have hat : (wf.at_ = row.length) = True := by simp only [K.at_, hT]
      have hi0 : itemV H3 (.ref H'.length) (.int 0) = some (.str t) := by simp only [itemV, itemN, natOf, Option.bind_some, natOf, h3, Int.le_refl, if_true, Int.toNat_zero, List.map_cons, List.getElem?_cons_zero]
      have hmod : ((there : Int) + (t.length : Int) + 1) % (row.length : Int) = (((there + t.length + 1) % row.length : Nat) : Int) := by rw [show ((there : Int) + (t.length : Int) + 1) = ((there + t.length + 1 : Nat) : Int) by omega, Int.natCast_emod]
      have hrp : (0 : Int) < (row.length : Int) := by omega
      have hab : acc.length < big := by have : big = 16777216 := rfl; omega
      have hap : bimV H3 (.ref ig) 0 [.tup [.int there, .int ((there + t.length + 1) % row.length : Nat)]] = .ok .none (H3.set ig (.list ((acc ++ [(there, (there + t.length + 1) % row.length)]).map pairV))) := by
        simp only [bimV, liV, popV, extV, joinV, hg3, List.length_map, if_pos hab, List.map_append, List.map_cons, List.map_nil, pairV]
      have i2 : itemV H' (.tup [.int 0, .int wf.at_, .ref il']) (.int 2) = some (.ref il') := rfl
      have hb : evSs P (callD P N d) N fl14 [l0, l1, l2, l3, some (.int p), some (.str row), l6, l7, some (.int there), l9, l10, some (.ref (ioP p)), some (.ref ig), x13, x14, x15] H =
          .ok .next [l0, l1, l2, l3, some (.int p), some (.str row), l6, l7, some (.int there), l9, l10, some (.ref (ioP p)), some (.ref ig), some (.str (turnAt row there)), some (.tup [.int 0, .int wf.at_, .ref il']), some (.ref H'.length)] (H3.set ig (.list ((acc ++ [(there, (there + t.length + 1) % row.length)]).map pairV))) := by
        have j0 : itemV H3 (.tup [.int 0, .int wf.at_, .ref il']) (.int 0) = some (.int 0) := rfl
        have j1 : itemV H3 (.tup [.int 0, .int wf.at_, .ref il']) (.int 1) = some (.int wf.at_) := rfl
        have k1 : biV H3 .len [.str row] = .ok (.int row.length) H3 := rfl
        have k2 : biV H3 .len [.str t] = .ok (.int t.length) H3 := rfl
        have b1 : binV H3 .Add (.int there) (.int t.length) = .ok (.int ((there : Int) + (t.length : Int))) H3 := rfl
        have b2 : binV H3 .Add (.int ((there : Int) + (t.length : Int))) (.int 1) = .ok (.int ((there : Int) + (t.length : Int) + 1)) H3 := rfl
        have b3 : binV H3 .Mod (.int ((there : Int) + (t.length : Int) + 1)) (.int row.length) = .ok (.int (((there + t.length + 1) % row.length : Nat) : Int)) H3 := by simp only [binV, addV, catV, if_pos hrp, hmod]
        have hdg : headV P H3 (.ref ig) 0 = some .bim := hdl hg3 (by decide)
        simp only [fl14, q_val, q_loc, q_loc1, q_tup, q_tup1, q_list, q_list1, q_nil, q_cons, q_cons1, q_cons2, q_attr, q_attr1, q_item, q_item1, q_item2, q_ofO, q_ofB, q_slice, q_slice1, q_slice2, q_slice3, q_slice4, q_bin, q_bin1, q_bin2, q_neg, q_neg1, q_not, q_not1, q_cmp, q_cmp1, q_cmp2, q_bop, q_bop1, q_bop2, q_and, q_or, q_ite, q_ite1, q_call, q_call1, q_call2, q_fn, q_bi, q_isbi, q_meth, q_meth1, q_meth2, q_meth3, q_methf, q_methb, q_comp, q_comp1, q_comp2, q_dict, q_snil, q_scons, q_seq, q_seqr, q_seqc, q_expr, q_expr1, q_asg, q_asg1, q_so, q_tn, q_set, q_sets, q_ta, q_ta1, q_put, q_puts, q_ti, q_ti1, q_ti2, q_tt, q_tnil, q_tcons, q_tcons1, q_augN, q_augN0, q_augN1, q_augN2, q_augA, q_augA1, q_augA2, q_augA3, q_augA4, q_ret, q_ret1, q_if, q_if1, q_wh1, q_wh2, q_wh3, q_wh4, q_for1, q_for2, q_forE, q_forE1, q_fo2, q_fo3, q_fo4, q_fo5, q_cont, q_fin1, q_fin2, eq_self, Int.toNat_zero, Int.toNat_one, Int.reduceToNat, List.cons.injEq, and_true, true_and, false_and, and_false, Nat.reduceEqDiff, Int.reduceEq, Int.reduceLT, Int.reduceLE, Int.reduceNeg, Int.lt_irrefl, Nat.lt_irrefl, not_true_eq_false, not_false_eq_true, and_self, List.getElem?_cons_zero, List.getElem?_cons_succ, List.set_cons_zero, List.set_cons_succ, List.length_cons, List.length_nil, List.map_cons, List.map_nil, List.replicate, List.cons_append, List.nil_append, Nat.reduceAdd, Nat.reduceLT, Nat.reduceLeDiff, reduceIte, plainV, setLoc, Bool.not_true, Bool.not_false, if_true, if_false, Bool.false_eq_true, decide_true, decide_false, Nat.zero_lt_succ, reduceCtorEq, decide_eq_true_eq, sliceV, skOf, partN, stK, SK.of, SK.back, SK.ap, Option.bind_some, natOf, cmpV, isV, Option.map_some, Option.map_none, aeq, nat_pos, Int.toNat_natCast, Option.map_some, turned, isf S.b24, isc S (c := 4) rfl, e1, hnew, c1, i2, hits, hcomp, hH3, j0, j1, k1, natCast_eq, hat, hhs, hj, hadd, hlen3, hi0, k2, b1, b2, b3, hdg, hap]
      obtain ⟨H'', y8, y13, y14, y15, ih', hg'⟩ := sp_fl14 S hd hN hN2 hp hrow hig hck (l0 := l0) (l1 := l1) (l2 := l2) (l3 := l3) (l6 := l6) (l7 := l7) (l9 := l9) (l10 := l10) m n (there + 1) _ (acc ++ [(there, (there + t.length + 1) % row.length)]) (some (.int there)) (some (.str (turnAt row there))) (some (.tup [.int 0, .int wf.at_, .ref il'])) (some (.ref H'.length)) (by omega) (by omega) (by simp; omega)
        (keepS ho3 hig) (setS' hg3)
      refine ⟨H'', y8, y13, y14, y15, ?_, ?_⟩
      · rw [hb]
        simp only [q_val, q_loc, q_loc1, q_tup, q_tup1, q_list, q_list1, q_nil, q_cons, q_cons1, q_cons2, q_attr, q_attr1, q_item, q_item1, q_item2, q_ofO, q_ofB, q_slice, q_slice1, q_slice2, q_slice3, q_slice4, q_bin, q_bin1, q_bin2, q_neg, q_neg1, q_not, q_not1, q_cmp, q_cmp1, q_cmp2, q_bop, q_bop1, q_bop2, q_and, q_or, q_ite, q_ite1, q_call, q_call1, q_call2, q_fn, q_bi, q_isbi, q_meth, q_meth1, q_meth2, q_meth3, q_methf, q_methb, q_comp, q_comp1, q_comp2, q_dict, q_snil, q_scons, q_seq, q_seqr, q_seqc, q_expr, q_expr1, q_asg, q_asg1, q_so, q_tn, q_set, q_sets, q_ta, q_ta1, q_put, q_puts, q_ti, q_ti1, q_ti2, q_tt, q_tnil, q_tcons, q_tcons1, q_augN, q_augN0, q_augN1, q_augN2, q_augA, q_augA1, q_augA2, q_augA3, q_augA4, q_ret, q_ret1, q_if, q_if1, q_wh1, q_wh2, q_wh3, q_wh4, q_for1, q_for2, q_forE, q_forE1, q_fo2, q_fo3, q_fo4, q_fo5, q_cont, q_fin1, q_fin2, eq_self, Int.toNat_zero, Int.toNat_one, Int.reduceToNat, List.cons.injEq, and_true, true_and, false_and, and_false, Nat.reduceEqDiff, Int.reduceEq, Int.reduceLT, Int.reduceLE, Int.reduceNeg, Int.lt_irrefl, Nat.lt_irrefl, not_true_eq_false, not_false_eq_true, and_self, List.getElem?_cons_zero, List.getElem?_cons_succ, List.set_cons_zero, List.set_cons_succ, List.length_cons, List.length_nil, List.map_cons, List.map_nil, List.replicate, List.cons_append, List.nil_append, Nat.reduceAdd, Nat.reduceLT, Nat.reduceLeDiff, reduceIte, plainV, setLoc, Bool.not_true, Bool.not_false, if_true, if_false, Bool.false_eq_true, decide_true, decide_false, Nat.zero_lt_succ, reduceCtorEq, decide_eq_true_eq]
        exact ih'
      · simp only [turns, K.head]
        rw [List.append_assoc] at hg'
        exact hg'
end
end Mine
end -- SpM
section -- SpN
namespace Mine
open PySem
noncomputable def kChars0 : List Nat := [99, 104, 97, 114, 115]
noncomputable def lotV : AV := .tup [.str [108, 97, 116, 101, 114], .tup [.str [97, 108, 116], .tup [.str [98, 97, 108]], .tup [.str kChars0, .str []]], .ref 6]
noncomputable def wrapV (node : AV) : AV := .tup [.str [99, 97, 116], .tup [.str [99, 97, 116], lotV, .tup [.str kChars0, .str [41]]], node]
noncomputable def wrapN : Nat → AV → AV
  | 0, v => v
  | n + 1, v => wrapN n (wrapV v)
noncomputable def rposV : AV := .tup [.str [114, 112, 111, 115], .int 0]
noncomputable def extP (p : Nat) : AH := match callD P1 100000 8 11 [wrapN p rposV] (List.replicate 7 (.list [])) with
  | .ok _ H => H.drop 7
  | _ => []
section
variable {o0 o1 o2 o3 o4 o5 o6 : AObj}
theorem comp1 : callD P1 100000 8 11 [wrapN 1 rposV] [o0, o1, o2, o3, o4, o5, o6] = .ok (.ref (ioP 1)) ([o0, o1, o2, o3, o4, o5, o6] ++ extP 1) := by kernel_rfl
theorem comp2 : callD P1 100000 8 11 [wrapN 2 rposV] [o0, o1, o2, o3, o4, o5, o6] = .ok (.ref (ioP 2)) ([o0, o1, o2, o3, o4, o5, o6] ++ extP 2) := by kernel_rfl
theorem comp3 : callD P1 100000 8 11 [wrapN 3 rposV] [o0, o1, o2, o3, o4, o5, o6] = .ok (.ref (ioP 3)) ([o0, o1, o2, o3, o4, o5, o6] ++ extP 3) := by kernel_rfl
theorem ext1 : (extP 1)[ioP 1 - 7]? = some (.list ((osP 1 0).map encO)) := by kernel_rfl
theorem ext2 : (extP 2)[ioP 2 - 7]? = some (.list ((osP 2 0).map encO)) := by kernel_rfl
theorem ext3 : (extP 3)[ioP 3 - 7]? = some (.list ((osP 3 0).map encO)) := by kernel_rfl
end
end Mine
end -- SpN
section -- SpO
namespace Mine
open PySem
/-! the row's signs -/
noncomputable def signsOf (o p x : Nat) : List Nat := (List.replicate o [40]).flatten ++ (List.replicate (o + p) [41]).flatten ++ (List.replicate x [120]).flatten
theorem flat1 (n c : Nat) : (List.replicate n [c]).flatten = List.replicate n c := by
  induction n with
  | zero => rfl
  | succ n ih => simp only [List.replicate_succ, List.flatten_cons, ih]; rfl
theorem mkRow_count (C : List Nat) (y : Nat) : ∀ (sg : List Nat) (k : Nat) (row : List Nat), (mkRow C sg k row).count y = sg.count y + row.count y
  | [], k, row => by simp [mkRow]
  | c :: r, k, row => by
    rw [mkRow, mkRow_count C y r]
    have : row.count y = (row.take (C.getD (3 + k) 0 % (row.length + 1))).count y + (row.drop (C.getD (3 + k) 0 % (row.length + 1))).count y := by rw [← List.count_append, List.take_append_drop]
    simp only [List.count_append, List.count_cons, List.count_nil]
    omega
theorem mkRow_mem (C : List Nat) (y : Nat) (sg : List Nat) (k : Nat) (row : List Nat) (h : y ∈ mkRow C sg k row) : y ∈ sg ∨ y ∈ row := by
  have := mkRow_count C y sg k row
  rw [← List.count_pos_iff] at h ⊢
  rw [← List.count_pos_iff]
  omega
theorem mkRow_len (C : List Nat) : ∀ (sg : List Nat) (k : Nat) (row : List Nat), (mkRow C sg k row).length = sg.length + row.length
  | [], k, row => by simp [mkRow]
  | c :: r, k, row => by
    rw [mkRow, mkRow_len C r]
    simp only [List.length_append, List.length_take, List.length_drop, List.length_cons, List.length_nil]
    omega
/-- what the finite check says of one row -/
theorem row_ok (hck : allChk = true) {o p x : Nat} (ho : o < 4) (hp1 : 1 ≤ p) (hp : p ≤ 3) (hx : x < 2) {C : List Nat} :
    (∀ there, check1 p (turnAt (mkRow C (signsOf o p x) 0 []) there) = true) ∧ lawRow p (mkRow C (signsOf o p x) 0 []) = true ∧ (mkRow C (signsOf o p x) 0 []).length = o + (o + p) + x := by
  obtain ⟨p, rfl⟩ : ∃ q, p = q + 1 := ⟨p - 1, by omega⟩
  have h := List.all_eq_true.mp hck p (List.mem_range.mpr (by omega))
  have h := List.all_eq_true.mp h o (List.mem_range.mpr ho)
  have h := List.all_eq_true.mp h x (List.mem_range.mpr hx)
  obtain ⟨h1, h2⟩ := Bool.and_eq_true_iff.mp h
  have cnt : ∀ y, (mkRow C (signsOf o (p + 1) x) 0 []).count y = (signsOf o (p + 1) x).count y := fun y => by rw [mkRow_count]; simp
  have c1 : (signsOf o (p + 1) x).count 40 = o := by simp [signsOf, flat1, List.count_replicate]
  have c2 : (signsOf o (p + 1) x).count 41 = o + (p + 1) := by simp [signsOf, flat1, List.count_replicate]
  have c3 : (signsOf o (p + 1) x).count 120 = x := by simp [signsOf, flat1, List.count_replicate]
  have mem : ∀ y ∈ mkRow C (signsOf o (p + 1) x) 0 [], y = 40 ∨ y = 41 ∨ y = 120 := fun y hy => by
    rcases mkRow_mem C y _ _ _ hy with q | q
    · simp only [signsOf, flat1, List.mem_append, List.mem_replicate] at q
      rcases q with (q | q) | q
      · exact .inl q.2
      · exact .inr (.inl q.2)
      · exact .inr (.inr q.2)
    · cases q
  have len : (mkRow C (signsOf o (p + 1) x) 0 []).length = o + (o + (p + 1)) + x := by rw [mkRow_len]; simp [signsOf, flat1]; omega
  generalize mkRow C (signsOf o (p + 1) x) 0 [] = row at *
  have tc : ∀ there y, (turnAt row there).count y = row.count y := fun there y => by
    unfold turnAt
    have : (row.take there).count y + (row.drop there).count y = row.count y := by rw [← List.count_append, List.take_append_drop]
    rw [List.count_append]; omega
  refine ⟨fun there => ?_, ?_, len⟩
  · have := checkAll_ok (turnAt row there) [] 11 _ _ _ h1 (by rw [tc, cnt, c1]) (by rw [tc, cnt, c2]) (by rw [tc, cnt, c3]) fun y hy => mem y (by
      rcases List.mem_append.mp hy with q | q
      · exact List.mem_of_mem_drop q
      · exact List.mem_of_mem_take q)
    simpa using this
  · have := checkAll_ok row [] 11 _ _ _ h2 (by rw [cnt, c1]) (by rw [cnt, c2]) (by rw [cnt, c3]) mem
    simpa using this

section
variable {P : P0} {N : Nat} {H : AH} {d : Nat} {call : Nat → List AV → AH → Out AV}
theorem new1 (S : Std P) (hd : 1 ≤ d) {a b c : AV} : callV P (callD P N d) (.cls 1) [a, b, c] H = .ok (.ref H.length) (H ++ [nrObj a b c]) := by
  obtain ⟨e, rfl, _⟩ := lev hd
  have p1 := fun {f : Nat} {v : AV} {fs : List (Nat × AV)} (hf : fldOf 1 f = true) => putt (P := P) (H := H ++ [AObj.inst 1 fs]) (v := v) S getEnd hf
  have hc : callD P N (e + 1) 12 [.ref H.length, a, b, c] (H ++ [AObj.inst 1 []]) = .ok .none (H ++ [nrObj a b c]) := by
    rw [callD_eq S.b12 rfl]
    simp only [b12, q_val, q_loc, q_loc1, q_tup, q_tup1, q_list, q_list1, q_nil, q_cons, q_cons1, q_cons2, q_attr, q_attr1, q_item, q_item1, q_item2, q_ofO, q_ofB, q_slice, q_slice1, q_slice2, q_slice3, q_slice4, q_bin, q_bin1, q_bin2, q_neg, q_neg1, q_not, q_not1, q_cmp, q_cmp1, q_cmp2, q_bop, q_bop1, q_bop2, q_and, q_or, q_ite, q_ite1, q_call, q_call1, q_call2, q_fn, q_bi, q_isbi, q_meth, q_meth1, q_meth2, q_meth3, q_methf, q_methb, q_comp, q_comp1, q_comp2, q_dict, q_snil, q_scons, q_seq, q_seqr, q_seqc, q_expr, q_expr1, q_asg, q_asg1, q_so, q_tn, q_set, q_sets, q_ta, q_ta1, q_put, q_puts, q_ti, q_ti1, q_ti2, q_tt, q_tnil, q_tcons, q_tcons1, q_augN, q_augN0, q_augN1, q_augN2, q_augA, q_augA1, q_augA2, q_augA3, q_augA4, q_ret, q_ret1, q_if, q_if1, q_wh1, q_wh2, q_wh3, q_wh4, q_for1, q_for2, q_forE, q_forE1, q_fo2, q_fo3, q_fo4, q_fo5, q_cont, q_fin1, q_fin2, eq_self, Int.toNat_zero, Int.toNat_one, Int.reduceToNat, List.cons.injEq, and_true, true_and, false_and, and_false, Nat.reduceEqDiff, Int.reduceEq, Int.reduceLT, Int.reduceLE, Int.reduceNeg, Int.lt_irrefl, Nat.lt_irrefl, not_true_eq_false, not_false_eq_true, and_self, List.getElem?_cons_zero, List.getElem?_cons_succ, List.set_cons_zero, List.set_cons_succ, List.length_cons, List.length_nil, List.map_cons, List.map_nil, List.replicate, List.cons_append, List.nil_append, Nat.reduceAdd, Nat.reduceLT, Nat.reduceLeDiff, reduceIte, plainV, setLoc, Bool.not_true, Bool.not_false, if_true, if_false, Bool.false_eq_true, decide_true, decide_false, Nat.zero_lt_succ, reduceCtorEq, decide_eq_true_eq, p1 (f := 24) rfl, p1 (f := 25) rfl, p1 (f := 26) rfl, setEnd, setL, Nat.reduceEqDiff, nrObj]
  exact callC S rfl hc
theorem sp_fl15 {l0 l1 l2 l3 l4 l5 l7 l8 l11 l12 l13 l14 l15 : Option AV} {p : Nat} : ∀ (m n there : Nat) (node : AV) (x6 : Option AV), m < n → there + m = p →
    ∃ y6, foG P call N fl15t fl15 n (.rng there p) [l0, l1, l2, l3, l4, l5, x6, l7, l8, some lotV, some node, l11, l12, l13, l14, l15] H = .ok .next [l0, l1, l2, l3, l4, l5, y6, l7, l8, some lotV, some (wrapN m node), l11, l12, l13, l14, l15] H
  | m, 0, _, _, _, h, _ => absurd h (Nat.not_lt_zero _)
  | 0, n + 1, there, node, x6, _, ht => by
    have hz : (there : Int) = (p : Int) := by omega
    exact ⟨x6, q_fo0 (by simp only [stepIt, hz, Int.lt_irrefl, if_false])⟩
  | m + 1, n + 1, there, node, x6, h, ht => by
    obtain ⟨y6, ih'⟩ := sp_fl15 (p := p) m n (there + 1) (wrapV node) (some (.int there)) (by omega) (by omega)
    have hlti : (there : Int) < (p : Int) := by omega
    refine ⟨y6, ?_⟩
    rw [q_fo1 (v := .int there) (i' := .rng (there + 1 : Nat) p) (by simp only [stepIt, hlti, if_true, iS])]
    have hb : evSs P call N fl15 [l0, l1, l2, l3, l4, l5, some (.int there), l7, l8, some lotV, some node, l11, l12, l13, l14, l15] H = .ok .next [l0, l1, l2, l3, l4, l5, some (.int there), l7, l8, some lotV, some (wrapV node), l11, l12, l13, l14, l15] H := by
      simp only [fl15, q_val, q_loc, q_loc1, q_tup, q_tup1, q_list, q_list1, q_nil, q_cons, q_cons1, q_cons2, q_attr, q_attr1, q_item, q_item1, q_item2, q_ofO, q_ofB, q_slice, q_slice1, q_slice2, q_slice3, q_slice4, q_bin, q_bin1, q_bin2, q_neg, q_neg1, q_not, q_not1, q_cmp, q_cmp1, q_cmp2, q_bop, q_bop1, q_bop2, q_and, q_or, q_ite, q_ite1, q_call, q_call1, q_call2, q_fn, q_bi, q_isbi, q_meth, q_meth1, q_meth2, q_meth3, q_methf, q_methb, q_comp, q_comp1, q_comp2, q_dict, q_snil, q_scons, q_seq, q_seqr, q_seqc, q_expr, q_expr1, q_asg, q_asg1, q_so, q_tn, q_set, q_sets, q_ta, q_ta1, q_put, q_puts, q_ti, q_ti1, q_ti2, q_tt, q_tnil, q_tcons, q_tcons1, q_augN, q_augN0, q_augN1, q_augN2, q_augA, q_augA1, q_augA2, q_augA3, q_augA4, q_ret, q_ret1, q_if, q_if1, q_wh1, q_wh2, q_wh3, q_wh4, q_for1, q_for2, q_forE, q_forE1, q_fo2, q_fo3, q_fo4, q_fo5, q_cont, q_fin1, q_fin2, eq_self, Int.toNat_zero, Int.toNat_one, Int.reduceToNat, List.cons.injEq, and_true, true_and, false_and, and_false, Nat.reduceEqDiff, Int.reduceEq, Int.reduceLT, Int.reduceLE, Int.reduceNeg, Int.lt_irrefl, Nat.lt_irrefl, not_true_eq_false, not_false_eq_true, and_self, List.getElem?_cons_zero, List.getElem?_cons_succ, List.set_cons_zero, List.set_cons_succ, List.length_cons, List.length_nil, List.map_cons, List.map_nil, List.replicate, List.cons_append, List.nil_append, Nat.reduceAdd, Nat.reduceLT, Nat.reduceLeDiff, reduceIte, plainV, setLoc, Bool.not_true, Bool.not_false, if_true, if_false, Bool.false_eq_true, decide_true, decide_false, Nat.zero_lt_succ, reduceCtorEq, decide_eq_true_eq, wrapV, kChars0]
    simp only [fl15t, q_val, q_loc, q_loc1, q_tup, q_tup1, q_list, q_list1, q_nil, q_cons, q_cons1, q_cons2, q_attr, q_attr1, q_item, q_item1, q_item2, q_ofO, q_ofB, q_slice, q_slice1, q_slice2, q_slice3, q_slice4, q_bin, q_bin1, q_bin2, q_neg, q_neg1, q_not, q_not1, q_cmp, q_cmp1, q_cmp2, q_bop, q_bop1, q_bop2, q_and, q_or, q_ite, q_ite1, q_call, q_call1, q_call2, q_fn, q_bi, q_isbi, q_meth, q_meth1, q_meth2, q_meth3, q_methf, q_methb, q_comp, q_comp1, q_comp2, q_dict, q_snil, q_scons, q_seq, q_seqr, q_seqc, q_expr, q_expr1, q_asg, q_asg1, q_so, q_tn, q_set, q_sets, q_ta, q_ta1, q_put, q_puts, q_ti, q_ti1, q_ti2, q_tt, q_tnil, q_tcons, q_tcons1, q_augN, q_augN0, q_augN1, q_augN2, q_augA, q_augA1, q_augA2, q_augA3, q_augA4, q_ret, q_ret1, q_if, q_if1, q_wh1, q_wh2, q_wh3, q_wh4, q_for1, q_for2, q_forE, q_forE1, q_fo2, q_fo3, q_fo4, q_fo5, q_cont, q_fin1, q_fin2, eq_self, Int.toNat_zero, Int.toNat_one, Int.reduceToNat, List.cons.injEq, and_true, true_and, false_and, and_false, Nat.reduceEqDiff, Int.reduceEq, Int.reduceLT, Int.reduceLE, Int.reduceNeg, Int.lt_irrefl, Nat.lt_irrefl, not_true_eq_false, not_false_eq_true, and_self, List.getElem?_cons_zero, List.getElem?_cons_succ, List.set_cons_zero, List.set_cons_succ, List.length_cons, List.length_nil, List.map_cons, List.map_nil, List.replicate, List.cons_append, List.nil_append, Nat.reduceAdd, Nat.reduceLT, Nat.reduceLeDiff, reduceIte, plainV, setLoc, Bool.not_true, Bool.not_false, if_true, if_false, Bool.false_eq_true, decide_true, decide_false, Nat.zero_lt_succ, reduceCtorEq, decide_eq_true_eq, tgV]
    rw [hb]
    simp only [q_val, q_loc, q_loc1, q_tup, q_tup1, q_list, q_list1, q_nil, q_cons, q_cons1, q_cons2, q_attr, q_attr1, q_item, q_item1, q_item2, q_ofO, q_ofB, q_slice, q_slice1, q_slice2, q_slice3, q_slice4, q_bin, q_bin1, q_bin2, q_neg, q_neg1, q_not, q_not1, q_cmp, q_cmp1, q_cmp2, q_bop, q_bop1, q_bop2, q_and, q_or, q_ite, q_ite1, q_call, q_call1, q_call2, q_fn, q_bi, q_isbi, q_meth, q_meth1, q_meth2, q_meth3, q_methf, q_methb, q_comp, q_comp1, q_comp2, q_dict, q_snil, q_scons, q_seq, q_seqr, q_seqc, q_expr, q_expr1, q_asg, q_asg1, q_so, q_tn, q_set, q_sets, q_ta, q_ta1, q_put, q_puts, q_ti, q_ti1, q_ti2, q_tt, q_tnil, q_tcons, q_tcons1, q_augN, q_augN0, q_augN1, q_augN2, q_augA, q_augA1, q_augA2, q_augA3, q_augA4, q_ret, q_ret1, q_if, q_if1, q_wh1, q_wh2, q_wh3, q_wh4, q_for1, q_for2, q_forE, q_forE1, q_fo2, q_fo3, q_fo4, q_fo5, q_cont, q_fin1, q_fin2, eq_self, Int.toNat_zero, Int.toNat_one, Int.reduceToNat, List.cons.injEq, and_true, true_and, false_and, and_false, Nat.reduceEqDiff, Int.reduceEq, Int.reduceLT, Int.reduceLE, Int.reduceNeg, Int.lt_irrefl, Nat.lt_irrefl, not_true_eq_false, not_false_eq_true, and_self, List.getElem?_cons_zero, List.getElem?_cons_succ, List.set_cons_zero, List.set_cons_succ, List.length_cons, List.length_nil, List.map_cons, List.map_nil, List.replicate, List.cons_append, List.nil_append, Nat.reduceAdd, Nat.reduceLT, Nat.reduceLeDiff, reduceIte, plainV, setLoc, Bool.not_true, Bool.not_false, if_true, if_false, Bool.false_eq_true, decide_true, decide_false, Nat.zero_lt_succ, reduceCtorEq, decide_eq_true_eq]
    exact ih'
/-- the numbers that the script gives -/
noncomputable def usualL : List Nat := [2, 1, 1, 0, 1, 1, 3, 4, 5, 5, 0, 0, 0]
noncomputable def cellsL (script : List Int) : List Nat := (script.take 13).map Int.natAbs ++ usualL.drop (script.take 13).length
theorem cells_len (script : List Int) : (cellsL script).length = 13 := by
  have : (script.take 13).length ≤ 13 := by simp; omega
  simp only [cellsL, List.length_append, List.length_map, List.length_drop, show usualL.length = 13 from rfl]
  omega
noncomputable def fstV : AV → AV
  | .tup [a, _] => a
  | _ => .none
theorem ints_map {α : Type} (f : α → Nat) : ∀ (l : List α), intsOf (l.map fun q => AV.int (f q)) = some (l.map fun q => (f q : Int))
  | [] => rfl
  | x :: r => by simp only [List.map_cons, intsOf, ints_map f r, Option.map_some]
end
end Mine
end -- SpO
section -- SpP
namespace Mine
open PySem
noncomputable def usV : List AV := [.int 2, .int 1, .int 1, .int 0, .int 1, .int 1, .int 3, .int 4, .int 5, .int 5, .int 0, .int 0, .int 0]
theorem law1_a (script : List Int) {call : Nat → List AV → AH → Out AV} :
    evE P1 call 100000 (.bin (.comp cl17 cl17t (.slice (.loc 0) (.val (.none)) (.val (.int 13)) (.val (.none))) []  2) .Add (.slice (.loc 1) (.call (.val (.bi .len)) [.slice (.loc 0) (.val (.none)) (.val (.int 13)) (.val (.none))]) (.val (.none)) (.val (.none)))) (some (.ilist script) :: some (.ref 0) :: List.replicate 14 none) [.list usV] =
    .ok (.ref 5) [.list usV, .list ((script.take 13).map AV.int), .list ((script.take 13).map fun i => AV.int i.natAbs), .list ((script.take 13).map AV.int), .list (usV.drop (script.take 13).length), .list ((cellsL script).map vI)] := by
  have hle : (script.take 13).length ≤ 13 := by simp; omega
  have hs : ∀ H, sliceV H (.ilist script) .none (.int 13) .none = .ok (.ref H.length) (H ++ [.list ((script.take 13).map AV.int)]) := fun H => rfl
  generalize hT : script.take 13 = T at *
  have hcm := comp_map (P := P1) (call := call) (N := 100000) (elt := cl17) (tg := cl17t) (H := [.list usV, .list (T.map AV.int)]) (il := 1) (T := T.map AV.int) rfl (fun v => match v with | .int i => .int i.natAbs | _ => .none) 2 (fun v hv l hl => by
    obtain ⟨i, _, rfl⟩ := List.mem_map.mp hv
    match l, hl with
    | [a, b], _ => exact ⟨[a, some (.int i)], rfl, rfl, rfl⟩) (T.map AV.int) 100000 0 [none, none] [] rfl rfl (by simp; omega) (by have : big = 16777216 := rfl; simp; omega)
  have hmap : ((T.map AV.int).map fun v => match v with | .int i => AV.int i.natAbs | _ => .none) = T.map fun i => AV.int i.natAbs := by rw [List.map_map]; rfl
  rw [List.nil_append, hmap] at hcm
  have hus : usV = usualL.map vI := rfl
  have hcl : cellsL script = T.map Int.natAbs ++ usualL.drop T.length := by unfold cellsL; rw [hT]
  have hlen : biV [.list usV, .list (T.map AV.int), .list (T.map fun i => AV.int i.natAbs), .list (T.map AV.int)] .len [.ref 3] = .ok (.int T.length) [.list usV, .list (T.map AV.int), .list (T.map fun i => AV.int i.natAbs), .list (T.map AV.int)] := by
    show Out.ok (AV.int (T.map AV.int).length) _ = _
    rw [List.length_map]
  have hsl : sliceV [.list usV, .list (T.map AV.int), .list (T.map fun i => AV.int i.natAbs), .list (T.map AV.int)] (.ref 0) (.int T.length) .none .none = .ok (.ref 4) [.list usV, .list (T.map AV.int), .list (T.map fun i => AV.int i.natAbs), .list (T.map AV.int), .list (usV.drop T.length)] := by
    simp only [sliceV, skOf, partN, stK, SK.of, SK.back, SK.ap, Option.bind_some, List.getElem?_cons_zero, natOf, nat_pos, if_true, Int.toNat_natCast, Option.map_some]; rfl
  have hadd : binV [.list usV, .list (T.map AV.int), .list (T.map fun i => AV.int i.natAbs), .list (T.map AV.int), .list (usV.drop T.length)] .Add (.ref 2) (.ref 4) = .ok (.ref 5) [.list usV, .list (T.map AV.int), .list (T.map fun i => AV.int i.natAbs), .list (T.map AV.int), .list (usV.drop T.length), .list ((cellsL script).map vI)] := by
    have hz : (T.map fun i => AV.int i.natAbs).length + (usV.drop T.length).length ≤ big := by have : big = 16777216 := rfl; simp [usV]; omega
    have e : (T.map fun i => AV.int i.natAbs) ++ usV.drop T.length = (cellsL script).map vI := by
      rw [hcl, hus, List.map_append, List.map_map, List.map_drop]; rfl
    show (if (T.map fun i => AV.int i.natAbs).length + (usV.drop T.length).length ≤ big then Out.ok (AV.ref 5) _ else .bad) = _
    rw [if_pos hz, ← e]; rfl
  have hit : iterOf [.list usV, .list (T.map AV.int)] (.ref 1) = some (.list 1 0) := rfl
  simp only [q_val, q_loc, q_loc1, q_tup, q_tup1, q_list, q_list1, q_nil, q_cons, q_cons1, q_cons2, q_attr, q_attr1, q_item, q_item1, q_item2, q_ofO, q_ofB, q_slice, q_slice1, q_slice2, q_slice3, q_slice4, q_bin, q_bin1, q_bin2, q_neg, q_neg1, q_not, q_not1, q_cmp, q_cmp1, q_cmp2, q_bop, q_bop1, q_bop2, q_and, q_or, q_ite, q_ite1, q_call, q_call1, q_call2, q_fn, q_bi, q_isbi, q_meth, q_meth1, q_meth2, q_meth3, q_methf, q_methb, q_comp, q_comp1, q_comp2, q_dict, q_snil, q_scons, q_seq, q_seqr, q_seqc, q_expr, q_expr1, q_asg, q_asg1, q_so, q_tn, q_set, q_sets, q_ta, q_ta1, q_put, q_puts, q_ti, q_ti1, q_ti2, q_tt, q_tnil, q_tcons, q_tcons1, q_augN, q_augN0, q_augN1, q_augN2, q_augA, q_augA1, q_augA2, q_augA3, q_augA4, q_ret, q_ret1, q_if, q_if1, q_wh1, q_wh2, q_wh3, q_wh4, q_for1, q_for2, q_forE, q_forE1, q_fo2, q_fo3, q_fo4, q_fo5, q_cont, q_fin1, q_fin2, eq_self, Int.toNat_zero, Int.toNat_one, Int.reduceToNat, List.cons.injEq, and_true, true_and, false_and, and_false, Nat.reduceEqDiff, Int.reduceEq, Int.reduceLT, Int.reduceLE, Int.reduceNeg, Int.lt_irrefl, Nat.lt_irrefl, not_true_eq_false, not_false_eq_true, and_self, List.getElem?_cons_zero, List.getElem?_cons_succ, List.set_cons_zero, List.set_cons_succ, List.length_cons, List.length_nil, List.map_cons, List.map_nil, List.replicate, List.cons_append, List.nil_append, Nat.reduceAdd, Nat.reduceLT, Nat.reduceLeDiff, reduceIte, plainV, setLoc, Bool.not_true, Bool.not_false, if_true, if_false, Bool.false_eq_true, decide_true, decide_false, Nat.zero_lt_succ, reduceCtorEq, decide_eq_true_eq, hs, hit, hcm, hlen, hsl, hadd]

theorem fin_ok {H : AH} {ig p : Nat} {good : List (Nat × Nat)} {l : Loc} {call : Nat → List AV → AH → Out AV} (h4 : l[4]? = some (some (.int p))) (h12 : l[12]? = some (some (.ref ig))) (hg : H[ig]? = some (.list (good.map pairV))) (hl : good.length = p) (hp : p ≤ 1000)
    (he : (good.drop 1 ++ good.take 1).map (·.1) = good.map (·.2)) :
    ∃ H', evE P1 call 100000 (.bop .And [.cmp (.call (.val (.bi .len)) [.loc 12]) [.Eq] [.loc 4], .cmp (.comp cl12 cl12t (.bin (.slice (.loc 12) (.val (.int 1)) (.val (.none)) (.val (.none))) .Add (.slice (.loc 12) (.val (.none)) (.val (.int 1)) (.val (.none)))) []  3) [.Eq] [.comp cl1 cl1t (.loc 12) []  3]]) l H = .ok (.bool true) H' := by
  have hlen : biV H .len [.ref ig] = .ok (.int p) H := by simp only [biV, lenV, isiV, hg, List.length_map, hl]
  have s1 : sliceV H (.ref ig) (.int 1) .none .none = .ok (.ref H.length) (H ++ [.list ((good.drop 1).map pairV)]) := by
    have : (good.map pairV).drop 1 = (good.drop 1).map pairV := by rw [List.map_drop]
    simp only [sliceV, skOf, partN, stK, SK.of, SK.back, SK.ap, Option.bind_some, hg, natOf, Int.reduceLE, if_true, Option.map_some, Int.toNat_one, this]
  have g1 := keepA (y := AObj.list ((good.drop 1).map pairV)) hg
  have gE := getEnd (G := H) (x := AObj.list ((good.drop 1).map pairV))
  have lH : (H ++ [AObj.list ((good.drop 1).map pairV)]).length = H.length + 1 := by simp
  generalize hH1 : H ++ [AObj.list ((good.drop 1).map pairV)] = H1 at *
  have s2 : sliceV H1 (.ref ig) .none (.int 1) .none = .ok (.ref (H.length + 1)) (H1 ++ [.list ((good.take 1).map pairV)]) := by
    have : (good.map pairV).take 1 = (good.take 1).map pairV := by rw [List.map_take]
    simp only [sliceV, skOf, partN, stK, SK.of, SK.back, SK.ap, Option.bind_some, g1, natOf, Int.reduceLE, if_true, Option.map_some, Int.toNat_one, this, lH]
  have g2 := keepA (y := AObj.list ((good.take 1).map pairV)) g1
  have gE1 := keepA (y := AObj.list ((good.take 1).map pairV)) gE
  have gE2 : (H1 ++ [AObj.list ((good.take 1).map pairV)])[H.length + 1]? = some (.list ((good.take 1).map pairV)) := by rw [← lH]; exact getEnd
  have lH2 : (H1 ++ [AObj.list ((good.take 1).map pairV)]).length = H.length + 2 := by simp [lH]
  generalize hH2 : H1 ++ [AObj.list ((good.take 1).map pairV)] = H2 at *
  have ga : ((good.drop 1).map pairV).length + ((good.take 1).map pairV).length ≤ big := by have : big = 16777216 := rfl; simp; omega
  have s3 : binV H2 .Add (.ref H.length) (.ref (H.length + 1)) = .ok (.ref (H.length + 2)) (H2 ++ [.list ((good.drop 1 ++ good.take 1).map pairV)]) := by
    simp only [binV, addV, catV, gE1, gE2, if_pos ga, lH2, List.map_append]
  have g3 := keepA (y := AObj.list ((good.drop 1 ++ good.take 1).map pairV)) g2
  have gE3 : (H2 ++ [AObj.list ((good.drop 1 ++ good.take 1).map pairV)])[H.length + 2]? = some (.list ((good.drop 1 ++ good.take 1).map pairV)) := by rw [← lH2]; exact getEnd
  have lH3 : (H2 ++ [AObj.list ((good.drop 1 ++ good.take 1).map pairV)]).length = H.length + 3 := by simp [lH2]
  have hdl : (good.drop 1 ++ good.take 1).length = p := by simp; omega
  generalize hH3 : H2 ++ [AObj.list ((good.drop 1 ++ good.take 1).map pairV)] = H3 at *
  have hbg : big = 16777216 := rfl
  have cm : ∀ (elt : E0) (tg : T0) (f : AV → AV) (H : AH) (il : Nat) (q : List (Nat × Nat)), H[il]? = some (.list (q.map pairV)) → q.length = p → (∀ a b : Nat, ∀ x0 x1 x2 : Option AV, ∃ l', l'.length = 3 ∧ tgV tg (pairV (a, b)) [x0, x1, x2] = some l' ∧ evE P1 call 100000 elt l' H = .ok (f (pairV (a, b))) H) →
      compG P1 call 100000 elt tg [] 100000 (.list il 0) [none, none, none] H [] = .ok ((q.map pairV).map f) H := fun elt tg f H il q hq hql hf => by
    have := comp_map (P := P1) (call := call) (N := 100000) (elt := elt) (tg := tg) hq f 3 (fun v hv l hl => by
      obtain ⟨⟨a, b⟩, _, rfl⟩ := List.mem_map.mp hv
      match l, hl with
      | [x0, x1, x2], _ => exact hf a b x0 x1 x2) (q.map pairV) 100000 0 [none, none, none] [] rfl rfl (by simp; omega) (by simp; omega)
    rw [List.nil_append] at this; exact this
  have c1 := cm cl12 cl12t fstV H3 _ _ gE3 hdl (fun a b x0 x1 x2 => ⟨[x0, some (.int a), some (.int b)], rfl, rfl, rfl⟩)
  have e1 : ((good.drop 1 ++ good.take 1).map pairV).map fstV = (good.drop 1 ++ good.take 1).map fun q => AV.int q.1 := by rw [List.map_map]; rfl
  rw [e1] at c1
  have g4 := keepA (y := AObj.list ((good.drop 1 ++ good.take 1).map fun q => AV.int q.1)) g3
  have gE4 : (H3 ++ [AObj.list ((good.drop 1 ++ good.take 1).map fun q => AV.int q.1)])[H.length + 3]? = some (.list ((good.drop 1 ++ good.take 1).map fun q => AV.int q.1)) := by rw [← lH3]; exact getEnd
  have lH4 : (H3 ++ [AObj.list ((good.drop 1 ++ good.take 1).map fun q => AV.int q.1)]).length = H.length + 4 := by simp [lH3]
  have hi3 : iterOf H3 (.ref (H.length + 2)) = some (.list (H.length + 2) 0) := by simp only [iterOf, gE3]
  obtain ⟨L1, hL1⟩ : ∃ L1, L1 = (good.drop 1 ++ good.take 1).map fun q => AV.int q.1 := ⟨_, rfl⟩
  rw [← hL1] at c1 g4 gE4 lH4
  generalize hH4 : H3 ++ [AObj.list L1] = H4 at *
  have c2 := cm cl1 cl1t sndV H4 _ _ g4 hl (fun a b x0 x1 x2 => ⟨[x0, some (.int a), some (.int b)], rfl, rfl, rfl⟩)
  have e2 : (good.map pairV).map sndV = good.map fun q => AV.int q.2 := by rw [List.map_map]; rfl
  rw [e2] at c2
  have hi4 : iterOf H4 (.ref ig) = some (.list ig 0) := by simp only [iterOf, g4]
  obtain ⟨L2, hL2⟩ : ∃ L2, L2 = good.map fun q => AV.int q.2 := ⟨_, rfl⟩
  rw [← hL2] at c2
  have gE5 := keepA (y := AObj.list L2) gE4
  have gE6 : (H4 ++ [AObj.list L2])[H.length + 4]? = some (.list L2) := by rw [← lH4]; exact getEnd
  have hq : aeq (H4 ++ [AObj.list L2]) (.ref (H.length + 3)) (.ref (H.length + 4)) = some true := by
    have hii : ((good.drop 1 ++ good.take 1).map fun q => ((q.1 : Nat) : Int)) = good.map fun q => ((q.2 : Nat) : Int) := by
      have := congrArg (List.map fun n : Nat => (n : Int)) he
      rw [List.map_map, List.map_map] at this; exact this
    simp only [aeq, aeqL, gE5, gE6]
    rw [hL1, hL2, ints_map (fun q : Nat × Nat => q.1), ints_map (fun q : Nat × Nat => q.2), hii]
    simp only [decide_true]
  refine ⟨H4 ++ [AObj.list L2], ?_⟩
  have h12' : l[12]? = some (some (.ref ig)) := h12
  simp only [q_val, q_loc, q_loc1, q_tup, q_tup1, q_list, q_list1, q_nil, q_cons, q_cons1, q_cons2, q_attr, q_attr1, q_item, q_item1, q_item2, q_ofO, q_ofB, q_slice, q_slice1, q_slice2, q_slice3, q_slice4, q_bin, q_bin1, q_bin2, q_neg, q_neg1, q_not, q_not1, q_cmp, q_cmp1, q_cmp2, q_bop, q_bop1, q_bop2, q_and, q_or, q_ite, q_ite1, q_call, q_call1, q_call2, q_fn, q_bi, q_isbi, q_meth, q_meth1, q_meth2, q_meth3, q_methf, q_methb, q_comp, q_comp1, q_comp2, q_dict, q_snil, q_scons, q_seq, q_seqr, q_seqc, q_expr, q_expr1, q_asg, q_asg1, q_so, q_tn, q_set, q_sets, q_ta, q_ta1, q_put, q_puts, q_ti, q_ti1, q_ti2, q_tt, q_tnil, q_tcons, q_tcons1, q_augN, q_augN0, q_augN1, q_augN2, q_augA, q_augA1, q_augA2, q_augA3, q_augA4, q_ret, q_ret1, q_if, q_if1, q_wh1, q_wh2, q_wh3, q_wh4, q_for1, q_for2, q_forE, q_forE1, q_fo2, q_fo3, q_fo4, q_fo5, q_cont, q_fin1, q_fin2, eq_self, Int.toNat_zero, Int.toNat_one, Int.reduceToNat, List.cons.injEq, and_true, true_and, false_and, and_false, Nat.reduceEqDiff, Int.reduceEq, Int.reduceLT, Int.reduceLE, Int.reduceNeg, Int.lt_irrefl, Nat.lt_irrefl, not_true_eq_false, not_false_eq_true, and_self, List.getElem?_cons_zero, List.getElem?_cons_succ, List.set_cons_zero, List.set_cons_succ, List.length_cons, List.length_nil, List.map_cons, List.map_nil, List.replicate, List.cons_append, List.nil_append, Nat.reduceAdd, Nat.reduceLT, Nat.reduceLeDiff, reduceIte, plainV, setLoc, Bool.not_true, Bool.not_false, if_true, if_false, Bool.false_eq_true, decide_true, decide_false, Nat.zero_lt_succ, reduceCtorEq, decide_eq_true_eq, h12', h4, hlen, cmpV, isV, Option.map_some, Option.map_none, aeq, s1, s2, s3, hi3, c1, hH4, hi4, c2, lH3, lH4]
  simp only [aeq] at hq
  simp only [hq, q_val, q_loc, q_loc1, q_tup, q_tup1, q_list, q_list1, q_nil, q_cons, q_cons1, q_cons2, q_attr, q_attr1, q_item, q_item1, q_item2, q_ofO, q_ofB, q_slice, q_slice1, q_slice2, q_slice3, q_slice4, q_bin, q_bin1, q_bin2, q_neg, q_neg1, q_not, q_not1, q_cmp, q_cmp1, q_cmp2, q_bop, q_bop1, q_bop2, q_and, q_or, q_ite, q_ite1, q_call, q_call1, q_call2, q_fn, q_bi, q_isbi, q_meth, q_meth1, q_meth2, q_meth3, q_methf, q_methb, q_comp, q_comp1, q_comp2, q_dict, q_snil, q_scons, q_seq, q_seqr, q_seqc, q_expr, q_expr1, q_asg, q_asg1, q_so, q_tn, q_set, q_sets, q_ta, q_ta1, q_put, q_puts, q_ti, q_ti1, q_ti2, q_tt, q_tnil, q_tcons, q_tcons1, q_augN, q_augN0, q_augN1, q_augN2, q_augA, q_augA1, q_augA2, q_augA3, q_augA4, q_ret, q_ret1, q_if, q_if1, q_wh1, q_wh2, q_wh3, q_wh4, q_for1, q_for2, q_forE, q_forE1, q_fo2, q_fo3, q_fo4, q_fo5, q_cont, q_fin1, q_fin2, eq_self, Int.toNat_zero, Int.toNat_one, Int.reduceToNat, List.cons.injEq, and_true, true_and, false_and, and_false, Nat.reduceEqDiff, Int.reduceEq, Int.reduceLT, Int.reduceLE, Int.reduceNeg, Int.lt_irrefl, Nat.lt_irrefl, not_true_eq_false, not_false_eq_true, and_self, List.getElem?_cons_zero, List.getElem?_cons_succ, List.set_cons_zero, List.set_cons_succ, List.length_cons, List.length_nil, List.map_cons, List.map_nil, List.replicate, List.cons_append, List.nil_append, Nat.reduceAdd, Nat.reduceLT, Nat.reduceLeDiff, reduceIte, plainV, setLoc, Bool.not_true, Bool.not_false, if_true, if_false, Bool.false_eq_true, decide_true, decide_false, Nat.zero_lt_succ, reduceCtorEq, decide_eq_true_eq]
end Mine
end -- SpP
section -- SpQ
namespace Mine
open PySem
theorem comp_any {p : Nat} (h1 : 1 ≤ p) (h3 : p ≤ 3) (o0 o1 o2 o3 o4 o5 o6 : AObj) : callD P1 100000 8 11 [wrapN p rposV] [o0, o1, o2, o3, o4, o5, o6] = .ok (.ref (ioP p)) ([o0, o1, o2, o3, o4, o5, o6] ++ extP p) ∧ (extP p)[ioP p - 7]? = some (.list ((osP p 0).map encO)) := by
  rcases (by omega : p = 1 ∨ p = 2 ∨ p = 3) with rfl | rfl | rfl
  · exact ⟨comp1, ext1⟩
  · exact ⟨comp2, ext2⟩
  · exact ⟨comp3, ext3⟩
theorem law1_pure (hck : allChk = true) (script : List Int) : ∃ H', callD P1 100000 9 38 [.ilist script] [] = .ok (.bool true) H' := by
  rw [callD_eq (P := P1) (k := 38) (np := 1) (ns := 15) (b := bl1) rfl rfl]
  have hA := law1_a script (call := callD P1 100000 8)
  have hCl := cells_len script
  generalize cellsL script = C at hA hCl
  generalize AObj.list ((script.take 13).map AV.int) = q1 at hA
  generalize AObj.list ((script.take 13).map fun i => AV.int i.natAbs) = q2 at hA
  generalize AObj.list (usV.drop (script.take 13).length) = q4 at hA
  obtain ⟨q0, hq0⟩ : ∃ q0, q0 = AObj.list usV := ⟨_, rfl⟩
  rw [← hq0] at hA
  have s1 : evS P1 (callD P1 100000 8) 100000 (.asg (.name 1) (.list [.val (.int 2), .val (.int 1), .val (.int 1), .val (.int 0), .val (.int 1), .val (.int 1), .val (.int 3), .val (.int 4), .val (.int 5), .val (.int 5), .val (.int 0), .val (.int 0), .val (.int 0)])) (some (.ilist script) :: List.replicate 15 none) [] =
      .ok .next (some (.ilist script) :: some (.ref 0) :: List.replicate 14 none) [q0] := by rw [hq0]; rfl
  -- the cells
  obtain ⟨o, ho, ho4⟩ : ∃ o, o = C.getD 0 0 % 4 ∧ o < 4 := ⟨_, rfl, by omega⟩
  obtain ⟨p, hp, hp1, hp3⟩ : ∃ p, p = 1 + C.getD 1 0 % 3 ∧ 1 ≤ p ∧ p ≤ 3 := ⟨_, rfl, by omega, by omega⟩
  obtain ⟨x, hx, hx2⟩ : ∃ x, x = C.getD 2 0 % 2 ∧ x < 2 := ⟨_, rfl, by omega⟩
  obtain ⟨hchk, hlaw, hrl⟩ := row_ok hck ho4 hp1 hp3 hx2 (C := C)
  have hcell : ∀ (H : AH) (i : Nat), i < 13 → H[5]? = some (.list (C.map vI)) → itemV H (.ref 5) (.int i) = some (.int (C.getD i 0)) := fun H i hi h => by
    have hlt : i < C.length := by omega
    simp only [itemV, itemN, natOf, Option.bind_some, natOf, nat_pos, if_true, Int.toNat_natCast, h, List.getElem?_map, List.getElem?_eq_getElem hlt, Option.map_some, vI, List.getD_eq_getElem?_getD, Option.getD_some]
  -- the row
  have hsg : (signsOf o p x).length = o + (o + p) + x := by simp [signsOf, flat1]; omega
  obtain ⟨y6, y7, y8, hrow⟩ := sp_fl16 (P := P1) (call := callD P1 100000 8) (N := 100000) (H := [q0, q1, q2, q1, q4, .list (C.map vI)]) (C := C) (ic := 5) rfl (l0 := some (.ilist script)) (l1 := some (.ref 0)) (l3 := some (.int o)) (l4 := some (.int p)) (l9 := none) (l10 := none) (l11 := none) (l12 := none) (l13 := none) (l14 := none) (l15 := none) (signsOf o p x) 100000 0 [] none none none (by omega) (by omega) (by simp; omega)
  generalize mkRow C (signsOf o p x) 0 [] = row at *
  -- the pattern
  obtain ⟨z6, hnode⟩ := sp_fl15 (P := P1) (call := callD P1 100000 8) (N := 100000) (H := [q0, q1, q2, q1, q4, .list (C.map vI), nrObj (.str [118, 97, 114]) .none (.str [80])]) (p := p) (l0 := some (.ilist script)) (l1 := some (.ref 0)) (l2 := some (.ref 5)) (l3 := some (.int o)) (l4 := some (.int p)) (l5 := some (.str row)) (l7 := y7) (l8 := y8) (l11 := none) (l12 := none) (l13 := none) (l14 := none) (l15 := none) p 100000 0 rposV y6 (by omega) (by omega)
  obtain ⟨hcomp, hext⟩ := comp_any hp1 hp3 q0 q1 q2 q1 q4 (.list (C.map vI)) (nrObj (.str [118, 97, 114]) .none (.str [80]))
  have hio : ([q0, q1, q2, q1, q4, .list (C.map vI), nrObj (.str [118, 97, 114]) .none (.str [80])] ++ extP p)[ioP p]? = some (.list ((osP p 0).map encO)) := by
    rw [List.getElem?_append_right (by simp [ioP]; omega)]; exact hext
  generalize hHc : [q0, q1, q2, q1, q4, .list (C.map vI), nrObj (.str [118, 97, 114]) .none (.str [80])] ++ extP p = Hc at hcomp hio
  have hig : Hc.length ≠ ioP p := by have := lt_of hio; omega
  -- the turnings
  obtain ⟨He, t8, t13, t14, t15, hloop, hgood⟩ := sp_fl14 (P := P1) (N := 100000) (d := 8) std1 (Nat.le_refl _) (by omega) (by omega) (row := row) (p := p) (ig := Hc.length) (by omega) (by omega) hig (fun there _ => hchk there) (l0 := some (.ilist script)) (l1 := some (.ref 0)) (l2 := some (.ref 5)) (l3 := some (.int o)) (l6 := z6) (l7 := y7) (l9 := some lotV) (l10 := some (wrapN p rposV)) row.length 100000 0 (Hc ++ [.list []]) [] y8 none none none (by omega) (by omega) (by simp; omega) (keepA hio) getEnd
  rw [List.nil_append] at hgood
  unfold lawRow at hlaw
  simp only [Bool.and_eq_true, beq_iff_eq] at hlaw
  obtain ⟨H', hfin⟩ := fin_ok (call := callD P1 100000 8) (H := He) (ig := Hc.length) (p := p) (good := turns p row row.length 0) (l := [some (.ilist script), some (.ref 0), some (.ref 5), some (.int o), some (.int p), some (.str row), z6, y7, t8, some lotV, some (wrapN p rposV), some (.ref (ioP p)), some (.ref Hc.length), t13, t14, t15]) rfl rfl hgood hlaw.1 (by omega) hlaw.2
  refine ⟨H', ?_⟩
  have zz : ((0 : Nat) : Int) = 0 := rfl
  rw [zz] at hnode hloop
  have hbig : big = 16777216 := rfl
  obtain ⟨Hq, hHq⟩ : ∃ Hq : AH, Hq = [q0, q1, q2, q1, q4, .list (C.map vI)] := ⟨_, rfl⟩
  have h5 : Hq[5]? = some (.list (C.map vI)) := by rw [hHq]; rfl
  have c0 : itemV Hq (.ref 5) (.int 0) = some (.int (C.getD 0 0)) := hcell Hq 0 (by omega) h5
  have c1 : itemV Hq (.ref 5) (.int 1) = some (.int (C.getD 1 0)) := hcell Hq 1 (by omega) h5
  have c2 : itemV Hq (.ref 5) (.int 2) = some (.int (C.getD 2 0)) := hcell Hq 2 (by omega) h5
  have b0 : binV Hq .Mod (.int (C.getD 0 0 : Nat)) (.int 4) = .ok (.int o) Hq := by
    have : ((C.getD 0 0 : Nat) : Int) % 4 = (o : Int) := by omega
    show (if (0 : Int) < 4 then Out.ok (AV.int (((C.getD 0 0 : Nat) : Int) % 4)) Hq else .bad) = _
    rw [if_pos (by decide), this]
  have b1 : binV Hq .Mod (.int (C.getD 1 0 : Nat)) (.int 3) = .ok (.int ((p : Int) - 1)) Hq := by
    have : ((C.getD 1 0 : Nat) : Int) % 3 = (p : Int) - 1 := by omega
    show (if (0 : Int) < 3 then Out.ok (AV.int (((C.getD 1 0 : Nat) : Int) % 3)) Hq else .bad) = _
    rw [if_pos (by decide), this]
  have b1' : binV Hq .Add (.int 1) (.int ((p : Int) - 1)) = .ok (.int p) Hq := by
    have : (1 : Int) + ((p : Int) - 1) = p := by omega
    show Out.ok (AV.int (1 + ((p : Int) - 1))) Hq = _
    rw [this]
  have b2 : binV Hq .Mod (.int (C.getD 2 0 : Nat)) (.int 2) = .ok (.int x) Hq := by
    have : ((C.getD 2 0 : Nat) : Int) % 2 = (x : Int) := by omega
    show (if (0 : Int) < 2 then Out.ok (AV.int (((C.getD 2 0 : Nat) : Int) % 2)) Hq else .bad) = _
    rw [if_pos (by decide), this]
  have mul : ∀ (c n : Nat), n ≤ 100 → binV Hq .Mult (.str [c]) (.int n) = .ok (.str (List.replicate n [c]).flatten) Hq := fun c n hn => by
    have h1 : (0 : Int) ≤ (n : Int) ∧ (n : Int) ≤ 1000 ∧ [c].length ≤ 1000 := ⟨by omega, by omega, by simp⟩
    simp only [binV, addV, catV, if_pos h1, Int.toNat_natCast]
  have m1 := mul 40 o (by omega)
  have m2 := mul 41 (o + p) (by omega)
  have m3 := mul 120 x (by omega)
  have ad : binV Hq .Add (.int o) (.int p) = .ok (.int ((o + p : Nat) : Int)) Hq := by
    show Out.ok (AV.int ((o : Int) + (p : Int))) Hq = _
    rw [iA]
  have a1 : binV Hq .Add (.str (List.replicate o [40]).flatten) (.str (List.replicate (o + p) [41]).flatten) = .ok (.str ((List.replicate o [40]).flatten ++ (List.replicate (o + p) [41]).flatten)) Hq := by
    have : (List.replicate o [40]).flatten.length + (List.replicate (o + p) [41]).flatten.length ≤ big := by simp [flat1]; omega
    simp only [binV, addV, catV, if_pos this]
  have a2 : binV Hq .Add (.str ((List.replicate o [40]).flatten ++ (List.replicate (o + p) [41]).flatten)) (.str (List.replicate x [120]).flatten) = .ok (.str (signsOf o p x)) Hq := by
    have : ((List.replicate o [40]).flatten ++ (List.replicate (o + p) [41]).flatten).length + (List.replicate x [120]).flatten.length ≤ big := by simp [flat1]; omega
    simp only [binV, addV, catV, if_pos this]; rfl
  rw [← hHq] at hA hrow
  have hn1 := new1 (P := P1) (N := 100000) (d := 8) (H := Hq) std1 (by omega) (a := .str [118, 97, 114]) (b := .none) (c := .str [80])
  have l6 : Hq.length = 6 := by rw [hHq]; rfl
  have hHn : [q0, q1, q2, q1, q4, .list (C.map vI), nrObj (.str [118, 97, 114]) .none (.str [80])] = Hq ++ [nrObj (.str [118, 97, 114]) .none (.str [80])] := by rw [hHq]; rfl
  rw [hHn] at hnode hcomp
  rw [l6] at hn1
  generalize Hq ++ [nrObj (.str [118, 97, 114]) .none (.str [80])] = Hn at hn1 hnode hcomp
  have r1 : biV Hn .range [.int p] = .ok (.rng 0 p) Hn := by
    have : (0 : Int) ≤ (p : Int) ∧ (p : Int) ≤ 1000000 := ⟨by omega, by omega⟩
    simp only [biV, lenV, isiV, if_pos this]
  have r2 : ∀ H, biV H .len [.str row] = .ok (.int row.length) H := fun _ => rfl
  have r3 : ∀ H, biV H .range [.int row.length] = .ok (.rng 0 row.length) H := fun H => by
    have : (0 : Int) ≤ (row.length : Int) ∧ (row.length : Int) ≤ 1000000 := ⟨by omega, by omega⟩
    simp only [biV, lenV, isiV, if_pos this]
  have i1 : ∀ H a b, iterOf H (.rng a b) = some (.rng a b) := fun _ _ _ => rfl
  have isf1 : ∀ k, k < 39 → isFn P1 (.fn k) = true := by decide
  show (evSs P1 (callD P1 100000 8) 100000 bl1 (some (.ilist script) :: List.replicate 15 none) []).fin = _
  simp only [lotV, kChars0, rposV] at hnode hcomp hloop hfin
  rw [bl1, q_scons, s1, q_seq, q_scons, q_asg, hA]
  simp only [q_val, q_loc, q_loc1, q_tup, q_tup1, q_list, q_list1, q_nil, q_cons, q_cons1, q_cons2, q_attr, q_attr1, q_item, q_item1, q_item2, q_ofO, q_ofB, q_slice, q_slice1, q_slice2, q_slice3, q_slice4, q_bin, q_bin1, q_bin2, q_neg, q_neg1, q_not, q_not1, q_cmp, q_cmp1, q_cmp2, q_bop, q_bop1, q_bop2, q_and, q_or, q_ite, q_ite1, q_call, q_call1, q_call2, q_fn, q_bi, q_isbi, q_meth, q_meth1, q_meth2, q_meth3, q_methf, q_methb, q_comp, q_comp1, q_comp2, q_dict, q_snil, q_scons, q_seq, q_seqr, q_seqc, q_expr, q_expr1, q_asg, q_asg1, q_so, q_tn, q_set, q_sets, q_ta, q_ta1, q_put, q_puts, q_ti, q_ti1, q_ti2, q_tt, q_tnil, q_tcons, q_tcons1, q_augN, q_augN0, q_augN1, q_augN2, q_augA, q_augA1, q_augA2, q_augA3, q_augA4, q_ret, q_ret1, q_if, q_if1, q_wh1, q_wh2, q_wh3, q_wh4, q_for1, q_for2, q_forE, q_forE1, q_fo2, q_fo3, q_fo4, q_fo5, q_cont, q_fin1, q_fin2, eq_self, Int.toNat_zero, Int.toNat_one, Int.reduceToNat, List.cons.injEq, and_true, true_and, false_and, and_false, Nat.reduceEqDiff, Int.reduceEq, Int.reduceLT, Int.reduceLE, Int.reduceNeg, Int.lt_irrefl, Nat.lt_irrefl, not_true_eq_false, not_false_eq_true, and_self, List.getElem?_cons_zero, List.getElem?_cons_succ, List.set_cons_zero, List.set_cons_succ, List.length_cons, List.length_nil, List.map_cons, List.map_nil, List.replicate, List.cons_append, List.nil_append, Nat.reduceAdd, Nat.reduceLT, Nat.reduceLeDiff, reduceIte, plainV, setLoc, Bool.not_true, Bool.not_false, if_true, if_false, Bool.false_eq_true, decide_true, decide_false, Nat.zero_lt_succ, reduceCtorEq, decide_eq_true_eq, q_for, c0, c1, c2, b0, b1, b1', b2, m1, m2, m3, ad, a1, a2, hrow, isc (P := P1) std1 (c := 1) rfl, hn1, r1, r2, r3, i1, hnode, isf1 11 (by omega), hcomp, hloop, hfin]
end Mine
end -- SpQ
section -- Chk
namespace Mine
theorem allChk_true : allChk = true := by decide +kernel
end Mine
end -- Chk
section -- Tab
namespace Mine
open PySem PySem.W PySem.Calls PyProof.Rows
noncomputable def nm1 : List Str := [Str.ofString "append", Str.ofString "pop", Str.ofString "extend", Str.ofString "insert", Str.ofString "reverse", Str.ofString "join", Str.ofString "get", Str.ofString "told", Str.ofString "number", Str.ofString "orders", Str.ofString "pc", Str.ofString "at", Str.ofString "named", Str.ofString "marks", Str.ofString "calls", Str.ofString "subject", Str.ofString "host", Str.ofString "history", Str.ofString "values", Str.ofString "limit", Str.ofString "refused", Str.ofString "width", Str.ofString "steps", Str.ofString "log", Str.ofString "kind", Str.ofString "owner", Str.ofString "key", Str.ofString "emit", Str.ofString "put", Str.ofString "begun", Str.ofString "choice", Str.ofString "repeat", Str.ofString "bound", Str.ofString "copied", Str.ofString "run", Str.ofString "way_back", Str.ofString "done", Str.ofString "met_once", Str.ofString "ended", Str.ofString "other", Str.ofString "met_often", Str.ofString "asked", Str.ofString "assign", Str.ofString "step", Str.ofString "value_of"]
noncomputable def gt1 : List (Str × AV) := [(Str.ofString "row_of", AV.fn 0), (Str.ofString "is_plain_text", AV.fn 1), (Str.ofString "with_texts_joined", AV.fn 2), (Str.ofString "straightened", AV.fn 10), (Str.ofString "compile_pattern", AV.fn 11), (Str.ofString "named_rows", AV.fn 23), (Str.ofString "match_orders", AV.fn 24), (Str.ofString "chars_end", AV.fn 28), (Str.ofString "len_end", AV.fn 29), (Str.ofString "rpos_end", AV.fn 30), (Str.ofString "any_at", AV.fn 31), (Str.ofString "arb_ends", AV.fn 32), (Str.ofString "bal_end", AV.fn 33), (Str.ofString "bal_ends", AV.fn 34), (Str.ofString "one_end", AV.fn 35), (Str.ofString "plain_end", AV.fn 36), (Str.ofString "ends_of", AV.fn 37), (Str.ofString "law", AV.fn 38), (Str.ofString "PatternCode", AV.cls 0), (Str.ofString "NameRef", AV.cls 1), (Str.ofString "Way", AV.cls 2), (Str.ofString "Match", AV.cls 3), (Str.ofString "PlainHost", AV.cls 4), (Str.ofString "ONE", AV.str [111, 110, 101]), (Str.ofString "WAYS", AV.str [119, 97, 121, 115]), (Str.ofString "SPLIT", AV.str [115, 112, 108, 105, 116]), (Str.ofString "JUMP", AV.str [106, 117, 109, 112]), (Str.ofString "MARK", AV.str [109, 97, 114, 107]), (Str.ofString "NAME", AV.str [110, 97, 109, 101]), (Str.ofString "SET", AV.str [115, 101, 116]), (Str.ofString "GAIN", AV.str [103, 97, 105, 110]), (Str.ofString "PLACE", AV.str [112, 108, 97, 99, 101]), (Str.ofString "ASK", AV.str [97, 115, 107]), (Str.ofString "FENCE", AV.str [102, 101, 110, 99, 101]), (Str.ofString "FAIL", AV.str [102, 97, 105, 108]), (Str.ofString "ABORT", AV.str [97, 98, 111, 114, 116]), (Str.ofString "SUCCEED", AV.str [115, 117, 99, 99, 101, 101, 100]), (Str.ofString "DONE", AV.str [100, 111, 110, 101]), (Str.ofString "PUT", AV.str [112, 117, 116]), (Str.ofString "EMIT", AV.str [101, 109, 105, 116]), (Str.ofString "OPEN", AV.str [111, 112, 101, 110]), (Str.ofString "SHUT", AV.str [115, 104, 117, 116]), (Str.ofString "MEET", AV.str [109, 101, 101, 116]), (Str.ofString "OPENING", AV.str [40]), (Str.ofString "CLOSING", AV.str [41]), (Str.ofString "MET", AV.int 0), (Str.ofString "FAILED", AV.int 1), (Str.ofString "OVER", AV.int 2), (Str.ofString "SINGLE", AV.tup [.str [99, 104, 97, 114, 115], .str [108, 101, 110], .str [112, 111, 115], .str [114, 112, 111, 115], .str [116, 97, 98], .str [114, 116, 97, 98], .str [97, 110, 121], .str [110, 111, 116, 97, 110, 121], .str [115, 112, 97, 110], .str [98, 114, 101, 97, 107], .str [114, 101, 109]]), (Str.ofString "ALONE", AV.tup [.str [102, 101, 110, 99, 101], .str [102, 97, 105, 108], .str [97, 98, 111, 114, 116], .str [115, 117, 99, 99, 101, 101, 100]]), (Str.ofString "len", AV.bi .len), (Str.ofString "isinstance", AV.bi .isi), (Str.ofString "abs", AV.bi .abs), (Str.ofString "int", AV.bi .int), (Str.ofString "range", AV.bi .range), (Str.ofString "enumerate", AV.bi .enum), (Str.ofString "sorted", AV.bi .sorted), (Str.ofString "list", AV.bi .list), (Str.ofString "str", AV.bi .str), (Str.ofString "tuple", AV.bi .tuple)]
noncomputable def fnL : List Nat := [23, 30, 37, 51, 58, 65, 70, 77, 84, 91, 105, 112, 205, 439, 446, 467, 474, 481, 488, 495, 502, 509, 516, 537, 544, 558, 572, 579, 306, 313, 327, 355, 390, 397, 404, 411, 418, 425, 591]
noncomputable def clL : List Nat := [94, 208, 449, 526, 582]
noncomputable def fnA1 (k : Nat) : Addr := fnL.getD k 0
noncomputable def clA1 (k : Nat) : Addr := clL.getD k 0
noncomputable def C1 (prog : Program) (w : World) (K : Frag) (base : Heap) : Cx := ⟨prog, w, K, base, nm1, gt1, fnA1, clA1⟩
structure FnData where
  oc : Value
  od : Option Addr
  osl : Array (Option Value)
  fd : FuncData
noncomputable def fnDat (K : Frag) (a : Addr) : FnData := match K.lookup a with
  | some ⟨oc, od, .func fd, osl⟩ => ⟨oc, od, osl, fd⟩
  | _ => ⟨.none, none, #[], default⟩
noncomputable def psOf (fd : FuncData) : List Str := fd.params.args.map (·.arg)
noncomputable def moreOf (fd : FuncData) : List Str := fd.scope.names.filterMap fun n => if (n.2 == .local || n.2 == .cell) && !(psOf fd).contains n.1 then some n.1 else none
noncomputable def bodyOf (nm : List Str) (gt : List (Str × AV)) (fd : FuncData) : List S := match fd.body with
  | .stmts b => erSs nm gt fd.scope (psOf fd ++ moreOf fd) b
  | _ => []
noncomputable def okFn (K : Frag) (fd : FuncData) : Bool :=
  ((codeIn K fd.code fd.qualname && okSs nm1 gt1 (bodyOf nm1 gt1 fd) fd.scope (psOf fd ++ moreOf fd)) && (fd.scope.kind == .function && (!fd.scope.isCoroutine && !fd.scope.isGenerator))) && (fd.scope.names.all (fun x => x.2 != .cell) && ((psOf fd).all (fun x => fd.scope.names.lookup x == some .local) && decide (psOf fd ++ moreOf fd).Nodup))
noncomputable def fdOf (fd : FuncData) : FuncData := fnOf fd.name fd.qualname fd.params (pySs (bodyOf nm1 gt1 fd)) fd.scope fd.defaults fd.kwdefaults fd.doc fd.pyModule fd.annotations fd.code fd.closureTuple
noncomputable def AllL : Nat → (List Value → Prop) → Prop
  | 0, p => p []
  | n + 1, p => ∀ a, AllL n fun vs => p (a :: vs)
theorem allL : ∀ {n : Nat} {p : List Value → Prop}, AllL n p → ∀ vs, vs.length = n → p vs
  | 0, _, h, [], _ => h
  | 0, _, _, _ :: _, e => by cases e
  | n + 1, _, _, [], e => by cases e
  | n + 1, _, h, v :: vs, e => allL (h v) vs (Nat.succ.inj e)
/-- one function's facts -/
structure FnF (K : Frag) (k n : Nat) : Prop where
  at_ : K.lookup (fnA1 k) = some ⟨(fnDat K (fnA1 k)).oc, (fnDat K (fnA1 k)).od, .func (fdOf (fnDat K (fnA1 k)).fd), (fnDat K (fnA1 k)).osl⟩
  bind : AllL n fun vs => bindArgs (fdOf (fnDat K (fnA1 k)).fd) ⟨vs, []⟩ = pure ((psOf (fnDat K (fnA1 k)).fd).zip vs)
  body : tab1[k]? = some (n, (moreOf (fnDat K (fnA1 k)).fd).length, stSs gt1 (bodyOf nm1 gt1 (fnDat K (fnA1 k)).fd))
  np : (psOf (fnDat K (fnA1 k)).fd).length = n
noncomputable def AllF (K : Frag) : Nat → List (Nat × Nat × List S0) → Prop
  | _, [] => True
  | k, b :: r => FnF K k b.1 ∧ AllF K (k + 1) r
theorem allF {K : Frag} : ∀ {r : List (Nat × Nat × List S0)} {k : Nat}, AllF K k r → ∀ i b, r[i]? = some b → FnF K (k + i) b.1
  | [], _, _, _, _, e => by cases e
  | b :: r, k, h, 0, c, e => by cases e; exact h.1
  | b :: r, k, h, i + 1, c, e => by
    have z := allF h.2 i c e
    rw [Nat.add_assoc, Nat.add_comm 1 i] at z
    exact z
noncomputable def fldB (K : Frag) (A : Addr) (x : Str) : Bool := (plainGet K A x && hasDictIn K A) && ((findIn K (.ref A) x == some none && plainOver K A) && findIn K (.ref A) "__setattr__" == some (some (.builtin "object.__setattr__")))
noncomputable def clsB (K : Frag) (A B : Addr) : Bool := (keepIn K (.ref A) && makesIn K A) && (findIn K (.ref A) "__init__" == some (some (.ref B)) && typeIn K (.ref B) == some (.type "function"))
noncomputable def mthB (K : Frag) (A B : Addr) (x : Str) : Bool := plainGet K A x && (findIn K (.ref A) x == some (some (.ref B)) && typeIn K (.ref B) == some (.type "function"))
noncomputable def strOk : AV → Value → Bool
  | .str s, .str t _ => t.cps.toList == s && decide (s.length ≤ big)
  | _, _ => false
noncomputable def strsOk : List AV → List Value → Bool
  | [], [] => true
  | a :: r, v :: vs => strOk a v && strsOk r vs
  | _, _ => false
noncomputable def vOk (K : Frag) (fnA clA : Nat → Addr) (v : AV) (rv : Value) : Bool := match v, rv with
  | .int i, .int j _ => i == j
  | .str s, .str t u => strOk (.str s) (.str t u)
  | .fn k, .ref a => a == fnA k
  | .cls c, .ref a => a == clA c
  | .tup l, .ref a => (match K.lookup a with
    | some o => o.cls == .type "tuple" && (match o.data with | .seq vs _ => strsOk l vs.toList | _ => false) && decide (l.length ≤ big)
    | none => false)
  | _, _ => false
noncomputable def okName (K : Frag) (fnA clA : Nat → Addr) (q : Str × AV) : Bool := match nsIn K mainGlobals q.1, q.2 with
  | some (some rv), v => vOk K fnA clA v rv
  | some none, .bi b => bootBuiltins q.1 == some (biVal b) && q.1 != ("__name__" : Str)
  | _, _ => false
section
variable {C : Cx} {μ : Mu} {h : Heap}
theorem strOk_ok {a : AV} {v : Value} (e : strOk a v = true) : VR C μ h a v := by
  unfold strOk at e
  split at e
  · rename_i s t u
    simp only [Bool.and_eq_true, beq_iff_eq, decide_eq_true_eq] at e
    simp only [VR]
    exact ⟨e.2, u, by rw [← e.1]⟩
  · cases e
theorem strsOk_ok : ∀ {l : List AV} {vs : List Value}, strsOk l vs = true → VRs C μ h l vs
  | [], [], _ => by simp only [VRs]
  | a :: r, v :: vs, e => by
    simp only [strsOk, Bool.and_eq_true] at e
    simp only [VRs]
    exact ⟨strOk_ok e.1, strsOk_ok e.2⟩
  | [], _ :: _, e => by simp only [strsOk] at e; cases e
  | _ :: _, [], e => by simp only [strsOk] at e; cases e
theorem vOk_ok (X : C.K.In C.base) (hst : ∀ b o, C.base.get? b = some o → h.get? b = some o) (hnew : ∀ p ∈ μ, C.base.get? p.1 = none ∧ C.base.get? p.2 = none) {v : AV} {rv : Value} (e : vOk C.K C.fnA C.clA v rv = true) : VR C μ h v rv := by
  unfold vOk at e
  split at e
  · simp only [VR]; exact ⟨_, by rw [beq_iff_eq.mp e]⟩
  · exact strOk_ok e
  · simp only [VR]; rw [beq_iff_eq.mp e]
  · simp only [VR]; rw [beq_iff_eq.mp e]
  · rename_i l a
    split at e
    · rename_i o ho
      simp only [Bool.and_eq_true, beq_iff_eq, decide_eq_true_eq] at e
      obtain ⟨⟨e1, e2⟩, e3⟩ := e
      split at e2
      · rename_i vs n hd
        simp only [VR]
        refine ⟨e3, a, o, vs, n, rfl, fun q => ?_, hst _ _ (X _ _ ho), e1, hd, strsOk_ok e2⟩
        obtain ⟨p, hp, q⟩ := q
        have b := X _ _ ho
        rcases q with rfl | rfl
        · rw [(hnew p hp).1] at b; cases b
        · rw [(hnew p hp).2] at b; cases b
      · cases e2
    · cases e
  · cases e
theorem gname_of {mg mb : Str → Option Value} {p : Program} {loose : List Str} (X : C.K.In C.base) (T : TopRead p loose mg mb C.base) (hall : C.gt.all (okName C.K C.fnA C.clA) = true) : GName C mg mb where
  g := T.g
  b := T.b
  ok := fun g x v hg => by
    have e := List.all_eq_true.mp hall (x, v) (List.mem_of_getElem? hg)
    unfold okName at e
    dsimp only at e
    split at e
    · rename_i rv hn
      exact ⟨rv, .inl (mg_of X T.g hn), fun μ h hst hnew => vOk_ok X hst hnew e⟩
    · rename_i b hn
      simp only [Bool.and_eq_true, beq_iff_eq, bne_iff_ne, ne_eq] at e
      exact ⟨biVal b, .inr ⟨ns_none_of X T.g hn, (T.builtins x e.2).trans e.1⟩, fun μ h _ _ => by simp only [VR]⟩
    · cases e
end
structure Facts (K : Frag) : Prop where
  fld : (fldL.all fun p => fldB K (clA1 p.1) (nm1.getD p.2 default)) = true
  cls : ((List.range 5).all fun c => clsB K (clA1 c) (fnA1 (initL.getD c 0))) = true
  mth : (methL.all fun p => mthB K (clA1 p.1) (fnA1 p.2.2) (nm1.getD p.2.1 default)) = true
  keep : ((List.range 39).all fun k => keepIn K (.ref (fnA1 k))) = true
  ok : ((List.range 39).all fun k => okFn K (fnDat K (fnA1 k)).fd) = true
  nms : (gt1.all (okName K fnA1 clA1)) = true
  all : AllF K 0 tab1
theorem nm_get {a : Nat} {x : Str} (h : nm1[a]? = some x) : x = nm1.getD a default := by rw [List.getD_eq_getElem?_getD, h]; rfl
theorem tab_lt {k : Nat} {b : Nat × Nat × List S0} (h : tab1[k]? = some b) : k < 39 := (List.getElem?_eq_some_iff.mp h).1
theorem nmB : (decide nm1.Nodup && (decide (nm1.length ≤ 1000) && ((fldL.all fun p => decide (p.2 < nm1.length)) && ((methL.all fun p => decide (p.2.1 < nm1.length) && decide (p.2.2 < 39)) && ((List.range 6).all fun m => nm1[m]? == some (bimName m)))))) = true := by decide +kernel
section
variable {prog : Program} {w : World} {K : Frag} {base : Heap}
theorem fnsOk (F : Facts K) : FnsOk (C1 prog w K base) P1 := fun k hk => by
  obtain ⟨b, hb⟩ := Option.isSome_iff_exists.mp hk
  have hb : tab1[k]? = some b := hb
  have W := allF F.all k b hb
  rw [Nat.zero_add] at W
  have h := List.all_eq_true.mp F.ok k (List.mem_range.mpr (tab_lt hb))
  obtain ⟨h1, h2⟩ := and2 h
  obtain ⟨h3, h4⟩ := and2 h1
  obtain ⟨h5, h6⟩ := and2 h2
  have W3 := W.body
  rw [← W.np] at W3
  exact ⟨_, _, _, _, _, _, _, _, _, _, _, _, _, _, psOf (fnDat K (fnA1 k)).fd, moreOf (fnDat K (fnA1 k)).fd, bodyOf nm1 gt1 (fnDat K (fnA1 k)).fd, W.at_, (and2 h3).1, fun vs e => allL W.bind vs (e.trans W.np), W3, (and2 h3).2,
    beq_iff_eq.mp (and2 h4).1, not1 (and2 (and2 h4).2).1, not1 (and2 (and2 h4).2).2, fun x hx => bne_iff_ne.mp (List.all_eq_true.mp h5 x hx), fun x hx => beq_iff_eq.mp (List.all_eq_true.mp (and2 h6).1 x hx), of_decide_eq_true (and2 h6).2⟩
theorem fld_mem {c a : Nat} (h : fldOf c a = true) : (c, a) ∈ fldL := by
  obtain ⟨p, hp, q⟩ := List.any_eq_true.mp h
  obtain ⟨q1, q2⟩ := and2 q
  obtain ⟨x, y⟩ := p
  rw [← beq_iff_eq.mp q1, ← beq_iff_eq.mp q2]; exact hp
theorem meth_mem {c m k : Nat} (h : methOf c m = some k) : (c, m, k) ∈ methL := by
  obtain ⟨p, hp, q⟩ := Option.map_eq_some_iff.mp h
  have z := List.find?_some hp
  obtain ⟨q1, q2⟩ := and2 z
  obtain ⟨x, y, u⟩ := p
  have e1 : x = c := beq_iff_eq.mp q1
  have e2 : y = m := beq_iff_eq.mp q2
  have e3 : u = k := q
  rw [← e1, ← e2, ← e3]
  exact List.mem_of_find?_eq_some hp
theorem getD_of {l : List Nat} {c k : Nat} (h : l[c]? = some k) : l.getD c 0 = k := by rw [List.getD_eq_getElem?_getD, h]; rfl
theorem cgood (X : K.In base) (F : Facts K) : CGood (C1 prog w K base) P1 := by
  obtain ⟨n1, n2⟩ := and2 nmB
  obtain ⟨n2, n3⟩ := and2 n2
  obtain ⟨n3, n4⟩ := and2 n3
  obtain ⟨n4, n5⟩ := and2 n4
  refine { X := X, fld := fun c a x h hx => ?_, fldN := fun c a h => ?_, nodup := of_decide_eq_true n1, nmlen := of_decide_eq_true n2, fn := fun k h => ?_, cls := fun c k h => ?_, mth := fun c m x k h hx => ?_, mthb := fun c m k h => ?_, mthx := fun c m k h => ?_, nm7 := fun m h => ?_ }
  · have z := List.all_eq_true.mp F.fld _ (fld_mem h)
    rw [nm_get hx]
    obtain ⟨z1, z2⟩ := and2 z
    obtain ⟨z2, z3⟩ := and2 z2
    exact ⟨(and2 z1).1, (and2 z1).2, beq_iff_eq.mp (and2 z2).1, (and2 z2).2, beq_iff_eq.mp z3⟩
  · exact ⟨_, List.getElem?_eq_getElem (of_decide_eq_true (List.all_eq_true.mp n3 _ (fld_mem h)))⟩
  · obtain ⟨b, hb⟩ := Option.isSome_iff_exists.mp h
    exact List.all_eq_true.mp F.keep k (List.mem_range.mpr (tab_lt hb))
  · have hc : initL[c]? = some k := h
    have z := List.all_eq_true.mp F.cls c (List.mem_range.mpr (List.getElem?_eq_some_iff.mp hc).1)
    rw [getD_of hc] at z
    obtain ⟨z1, z2⟩ := and2 z
    exact ⟨(and2 z1).1, (and2 z1).2, beq_iff_eq.mp (and2 z2).1, beq_iff_eq.mp (and2 z2).2⟩
  · have z := List.all_eq_true.mp F.mth _ (meth_mem h)
    rw [nm_get hx]
    exact ⟨(and2 z).1, beq_iff_eq.mp (and2 (and2 z).2).1, beq_iff_eq.mp (and2 (and2 z).2).2⟩
  · have z := List.all_eq_true.mp n4 _ (meth_mem h)
    have zl : k < tab1.length := of_decide_eq_true (and2 z).2
    show (tab1[k]?).isSome = true
    rw [List.getElem?_eq_getElem zl]; rfl
  · have z := List.all_eq_true.mp n4 _ (meth_mem h)
    exact ⟨_, List.getElem?_eq_getElem (of_decide_eq_true (and2 z).1)⟩
  · exact beq_iff_eq.mp (List.all_eq_true.mp n5 m (List.mem_range.mpr h))
end
end Mine
end -- Tab
section -- Fin
namespace Mine
open PySem PySem.W PySem.Calls PyProof.Rows
theorem fin {prog : Program} {w : World} {K : Frag} {s : Shared} {la : Addr} {vl : Array Value} {xs : List Int} {mg mb : Str → Option Value} {p : Program} {loose : List Str} {Q : Value → Shared → Prop} {E : Value → Shared → Prop} (X : K.In s.heap) (T : TopRead p loose mg mb s.heap) (hlen : xs.length ≤ big)
    (hL : s.heap.IsList la vl) (hI : IntsAre vl.toList xs) (F : Facts K) (hQ : ∀ μ' H' s', Step NoX [] s μ' s' → Inv (C1 prog w K s.heap) μ' H' s'.heap → Q (.bool true) s') :
    wpAny (model prog w) callerA (PySem.call (.ref 591) [.ref la]) Q E s := by
  have hA : AOk 9 [] callerA := ⟨rfl, rfl, by decide, by decide⟩
  have hcall := calls_ok (N := 100000) (cgood (prog := prog) (w := w) X F) ⟨mg, mb, gname_of (C := C1 prog w K s.heap) X T F.nms⟩ T.nolimit (fnsOk F) 9 callerA [] hA
  have I0 : Inv (C1 prog w K s.heap) [] [] s.heap := ⟨fun _ _ h => h, rfl, fun i o p h => by simp at h, fun i j p q h => by simp at h, fun p h => by cases h⟩
  have V0 : VRs (C1 prog w K s.heap) [] s.heap [.ilist xs] [.ref la] := by
    simp only [VRs, VR]
    exact ⟨⟨hlen, la, vl, rfl, hL, hI⟩, trivial⟩
  obtain ⟨H', hlaw⟩ := law1_pure allChk_true xs
  refine wpAny_call (hcall 38 _ _ [] [] s I0 V0 (by rw [hlaw]; intro q; cases q) _ _ fun μ' a H2 v s' e S I V => ?_)
  rw [hlaw] at e
  injection e with e1 e2
  subst e1
  obtain rfl : v = .bool true := V
  exact hQ μ' H2 s' S I
end Mine
end -- Fin
/-! names that the head would give to copies of its objects: taken here, so that no copy is laid -/
theorem Mine.top.tw11582926029173025856 : True := trivial
theorem Mine.top.tw14142502885225118848 : True := trivial
theorem Mine.top.tw2218668502564051296 : True := trivial
theorem Mine.top.tw13160728816969591200 : True := trivial
theorem Mine.top.tw14168018189251442112 : True := trivial
theorem Mine.top.tw4597200072644226624 : True := trivial
theorem Mine.top.tw2417791160451022400 : True := trivial
theorem Mine.top.tw3768957769849046624 : True := trivial
theorem Mine.top.tw76412952228603488 : True := trivial
theorem Mine.top.tw2741389259953327712 : True := trivial
theorem Mine.top.tw1732150942055357024 : True := trivial
theorem Mine.top.tw15874363893724204672 : True := trivial
theorem Mine.top.tw1971433849790844608 : True := trivial
theorem Mine.top.tw7847650389618582240 : True := trivial
theorem Mine.top.tw3474246075231452896 : True := trivial
theorem Mine.top.tw16104615914030681952 : True := trivial
theorem Mine.top.tw11613256710310857696 : True := trivial
theorem Mine.top.tw17795014544551873601 : True := trivial
theorem Mine.top.tw9953747333497923681 : True := trivial
theorem Mine.top.tw1400011881503588481 : True := trivial
theorem Mine.top.tw8507776931139520737 : True := trivial
theorem Mine.top.tw1068965626710143233 : True := trivial
theorem Mine.top.tw4859757453598101857 : True := trivial
theorem Mine.top.tw18289109515434150305 : True := trivial
theorem Mine.top.tw1788138344755669473 : True := trivial
theorem Mine.top.tw15177526630643400193 : True := trivial
theorem Mine.top.tw14436450140739016385 : True := trivial
theorem Mine.top.tw11845233108574324481 : True := trivial
theorem Mine.top.tw1601500998369573665 : True := trivial
theorem Mine.top.tw3696473221133414273 : True := trivial
theorem Mine.top.tw10005945817407372193 : True := trivial
theorem Mine.top.tw5303079699428457377 : True := trivial
theorem Mine.top.tw9272544492142499777 : True := trivial
theorem Mine.top.tw2405475915293451298 : True := trivial
theorem Mine.top.tw9601329371697537090 : True := trivial
theorem Mine.top.tw4177254973167742082 : True := trivial
theorem Mine.top.tw2029088862249889922 : True := trivial
theorem Mine.top.tw728428047077509346 : True := trivial
theorem Mine.top.tw3217022616335106338 : True := trivial
theorem Mine.top.tw16580785732701462914 : True := trivial
theorem Mine.top.tw1291508964198565346 : True := trivial
theorem Mine.top.tw3767615275625035234 : True := trivial
theorem Mine.top.tw1016984595167383106 : True := trivial
theorem Mine.top.tw15254643099363442306 : True := trivial
theorem Mine.top.tw9739860059890490050 : True := trivial
theorem Mine.top.tw12425085872883035938 : True := trivial
theorem Mine.top.tw17103177528636943170 : True := trivial
theorem Mine.top.tw4392038535549328194 : True := trivial
theorem Mine.top.tw16878204669230926818 : True := trivial
theorem Mine.top.tw2988451766255067171 : True := trivial
theorem Mine.top.tw14263998999751124003 : True := trivial
theorem Mine.top.tw8321918168302905379 : True := trivial
theorem Mine.top.tw2665807947273092163 : True := trivial
theorem Mine.top.tw9961057766049560675 : True := trivial
theorem Mine.top.tw9503340733035011235 : True := trivial
theorem Mine.top.tw8311017846404947139 : True := trivial
theorem Mine.top.tw6756868429301003459 : True := trivial
theorem Mine.top.tw6761616313442571491 : True := trivial
theorem Mine.top.tw1212798325632107971 : True := trivial
theorem Mine.top.tw10936122117785486979 : True := trivial
theorem Mine.top.tw3871027444623705763 : True := trivial
theorem Mine.top.tw14632489290957082403 : True := trivial
theorem Mine.top.tw15740088241188596515 : True := trivial
theorem Mine.top.tw14796646475526232899 : True := trivial
theorem Mine.top.tw13305523845174962083 : True := trivial
theorem Mine.top.tw16054190913257422852 : True := trivial
theorem Mine.top.tw7847352863974893604 : True := trivial
theorem Mine.top.tw14608685727046917156 : True := trivial
theorem Mine.top.tw2287823674025257028 : True := trivial
theorem Mine.top.tw6292954644110606532 : True := trivial
theorem Mine.top.tw12787338502077490372 : True := trivial
theorem Mine.top.tw15212760480394562756 : True := trivial
theorem Mine.top.tw8281120267493503204 : True := trivial
theorem Mine.top.tw13710211086531791108 : True := trivial
theorem Mine.top.tw10694878333477680388 : True := trivial
theorem Mine.top.tw16541100652227675460 : True := trivial
theorem Mine.top.tw14987219478266130788 : True := trivial
theorem Mine.top.tw146815374380898660 : True := trivial
theorem Mine.top.tw16058212318047004132 : True := trivial
theorem Mine.top.tw12764151676501842404 : True := trivial
theorem Mine.top.tw370947364307004932 : True := trivial
theorem Mine.top.tw13012589842206080548 : True := trivial
theorem Mine.top.tw14459580976405569124 : True := trivial
theorem Mine.top.tw12483720753089274532 : True := trivial
theorem Mine.top.tw13896958669275611876 : True := trivial
theorem Mine.top.tw18064794426631996164 : True := trivial
theorem Mine.top.tw814325599930780420 : True := trivial
theorem Mine.top.tw7671549972530922468 : True := trivial
theorem Mine.top.tw4656485037274611717 : True := trivial
theorem Mine.top.tw15646934709686841381 : True := trivial
theorem Mine.top.tw17810072253543177317 : True := trivial
theorem Mine.top.tw6505410396798821541 : True := trivial
theorem Mine.top.tw3796891538752321733 : True := trivial
theorem Mine.top.tw8892184565913893157 : True := trivial
theorem Mine.top.tw13001836021917841797 : True := trivial
theorem Mine.top.tw9227541089923242437 : True := trivial
theorem Mine.top.tw3976154599441133093 : True := trivial
theorem Mine.top.tw81815255157605957 : True := trivial
theorem Mine.top.tw196536941598035525 : True := trivial
theorem Mine.top.tw7313339093194340965 : True := trivial
theorem Mine.top.tw8212240652046128837 : True := trivial
theorem Mine.top.tw9059832203979395877 : True := trivial
theorem Mine.top.tw8363718466572441477 : True := trivial
theorem Mine.top.tw3669314199184481253 : True := trivial
theorem Mine.top.tw1294077662247117797 : True := trivial
theorem Mine.top.tw10006222313960134694 : True := trivial
theorem Mine.top.tw4840481374290595910 : True := trivial
theorem Mine.top.tw6520327441239513222 : True := trivial
theorem Mine.top.tw3140898538269762758 : True := trivial
theorem Mine.top.tw15019589843779357958 : True := trivial
theorem Mine.top.tw297971269722091814 : True := trivial
theorem Mine.top.tw6749217079512962374 : True := trivial
theorem Mine.top.tw13510920462097384806 : True := trivial
theorem Mine.top.tw8435561252592420358 : True := trivial
theorem Mine.top.tw5969682004907312646 : True := trivial
theorem Mine.top.tw8640399195822439974 : True := trivial
theorem Mine.top.tw18186074749648716422 : True := trivial
theorem Mine.top.tw7715697345341360870 : True := trivial
theorem Mine.top.tw9614876229902214918 : True := trivial
theorem Mine.top.tw4835499133494076262 : True := trivial
theorem Mine.top.tw5860347150701562758 : True := trivial
theorem Mine.top.tw2506305409684761478 : True := trivial
theorem Mine.top.tw10783980745131425670 : True := trivial
theorem Mine.top.tw8679839319945467846 : True := trivial
theorem Mine.top.tw16840627104734473223 : True := trivial
theorem Mine.top.tw3195968871104189447 : True := trivial
theorem Mine.top.tw6491118196486620199 : True := trivial
theorem Mine.top.tw3958476088257501223 : True := trivial
theorem Mine.top.tw860223938195835975 : True := trivial
theorem Mine.top.tw11459358961799972967 : True := trivial
theorem Mine.top.tw12256363837256957063 : True := trivial
theorem Mine.top.tw8043003576528973991 : True := trivial
theorem Mine.top.tw53344730913325255 : True := trivial
theorem Mine.top.tw11443710868159068359 : True := trivial
theorem Mine.top.tw1697544655201012999 : True := trivial
theorem Mine.top.tw9759319705405543751 : True := trivial
theorem Mine.top.tw6176384092110617959 : True := trivial
theorem Mine.top.tw2731995056826638727 : True := trivial
theorem Mine.top.tw6286779285267259847 : True := trivial
theorem Mine.top.tw9165953624949470791 : True := trivial
theorem Mine.top.tw17532336604752155303 : True := trivial
theorem Mine.top.tw12545222027267286695 : True := trivial
theorem Mine.top.tw6883741973766446791 : True := trivial
theorem Mine.top.tw10864713392326063847 : True := trivial
theorem Mine.top.tw13968125046926948103 : True := trivial
theorem Mine.top.tw13090165191389475591 : True := trivial
theorem Mine.top.tw775762912060472103 : True := trivial
theorem Mine.top.tw12819366960792805191 : True := trivial
theorem Mine.top.tw10361075674979980167 : True := trivial
theorem Mine.top.tw12317137736924338119 : True := trivial
theorem Mine.top.tw14145802354927516647 : True := trivial
theorem Mine.top.tw5244899138074338376 : True := trivial
theorem Mine.top.tw3484022092364678248 : True := trivial
theorem Mine.top.tw13994475860397038760 : True := trivial
theorem Mine.top.tw14615657086365298920 : True := trivial
theorem Mine.top.tw16439428074185983240 : True := trivial
theorem Mine.top.tw708234853630380328 : True := trivial
theorem Mine.top.tw17310980323187717416 : True := trivial
theorem Mine.top.tw3261557481417251176 : True := trivial
theorem Mine.top.tw18063644159110109576 : True := trivial
theorem Mine.top.tw6370870915552960936 : True := trivial
theorem Mine.top.tw12622177474791663080 : True := trivial
theorem Mine.top.tw7580748108015030792 : True := trivial
theorem Mine.top.tw10657950659306570408 : True := trivial
theorem Mine.top.tw5667650583090716360 : True := trivial
theorem Mine.top.tw10648311167861321448 : True := trivial
theorem Mine.top.tw2249405535684624136 : True := trivial
theorem Mine.top.tw594810645892935528 : True := trivial
theorem Mine.top.tw6042063481754889096 : True := trivial
theorem Mine.top.tw7115824082346440616 : True := trivial
theorem Mine.top.tw517144808224063464 : True := trivial
theorem Mine.top.tw4916261283513009128 : True := trivial
theorem Mine.top.tw13177472732611162249 : True := trivial
theorem Mine.top.tw15878805988109762761 : True := trivial
theorem Mine.top.tw10548783162686979305 : True := trivial
theorem Mine.top.tw15860264024139754761 : True := trivial
theorem Mine.top.tw13303987763403120937 : True := trivial
theorem Mine.top.tw17103585973383926153 : True := trivial
theorem Mine.top.tw16123964013534891561 : True := trivial
theorem Mine.top.tw4555866861457887817 : True := trivial
theorem Mine.top.tw15569959144833144457 : True := trivial
theorem Mine.top.tw13290321428070320777 : True := trivial
theorem Mine.top.tw16782997733028217545 : True := trivial
theorem Mine.top.tw3378803678994701225 : True := trivial
theorem Mine.top.tw4671429814451907529 : True := trivial
theorem Mine.top.tw7855079511596107753 : True := trivial
theorem Mine.top.tw10915162052029792233 : True := trivial
theorem Mine.top.tw8622502720953521162 : True := trivial
theorem Mine.top.tw339143206060000330 : True := trivial
theorem Mine.top.tw2732273902793177162 : True := trivial
theorem Mine.top.tw8729362747519067210 : True := trivial
theorem Mine.top.tw3315250197877816394 : True := trivial
theorem Mine.top.tw9059672392935016618 : True := trivial
theorem Mine.top.tw12166907935582030026 : True := trivial
theorem Mine.top.tw10187724287525710026 : True := trivial
theorem Mine.top.tw8523463495250067690 : True := trivial
theorem Mine.top.tw7204493036743257322 : True := trivial
theorem Mine.top.tw9233715247699887402 : True := trivial
theorem Mine.top.tw5058314954733539658 : True := trivial
theorem Mine.top.tw342308947776675178 : True := trivial
theorem Mine.top.tw6885214360128481674 : True := trivial
theorem Mine.top.tw501154541418245514 : True := trivial
theorem Mine.top.tw16004416686337608138 : True := trivial
theorem Mine.top.tw14372152842798730730 : True := trivial
theorem Mine.top.tw15976228082101565994 : True := trivial
theorem Mine.top.tw2369445192022557226 : True := trivial
theorem Mine.top.tw8184561461823581802 : True := trivial
theorem Mine.top.tw9919435345466941130 : True := trivial
theorem Mine.top.tw17469865338272021226 : True := trivial
theorem Mine.top.tw13889309363888878346 : True := trivial
theorem Mine.top.tw1655259298481077034 : True := trivial
theorem Mine.top.tw1321871150748368714 : True := trivial
theorem Mine.top.tw14724332232928298890 : True := trivial
theorem Mine.top.tw8443935842833279946 : True := trivial
theorem Mine.top.tw9951221954081769418 : True := trivial
theorem Mine.top.tw6624316729101989866 : True := trivial
theorem Mine.top.tw6919701780365589675 : True := trivial
theorem Mine.top.tw13370750898655102155 : True := trivial
theorem Mine.top.tw2683898200743741643 : True := trivial
theorem Mine.top.tw4828031223510198475 : True := trivial
theorem Mine.top.tw3002795768020413707 : True := trivial
theorem Mine.top.tw8598144960395782539 : True := trivial
theorem Mine.top.tw6812286434817487243 : True := trivial
theorem Mine.top.tw13706816188851595723 : True := trivial
theorem Mine.top.tw6430265229019958763 : True := trivial
theorem Mine.top.tw6674990990233134667 : True := trivial
theorem Mine.top.tw16415559393655328363 : True := trivial
theorem Mine.top.tw13272337422414781067 : True := trivial
theorem Mine.top.tw8140125068956082859 : True := trivial
theorem Mine.top.tw956942650209027819 : True := trivial
theorem Mine.top.tw17315540178315561739 : True := trivial
theorem Mine.top.tw7673058066778466091 : True := trivial
theorem Mine.top.tw14282377253939248939 : True := trivial
theorem Mine.top.tw9962302188120564619 : True := trivial
theorem Mine.top.tw9233335307524088747 : True := trivial
theorem Mine.top.tw9227057690007400460 : True := trivial
theorem Mine.top.tw5915399644114372684 : True := trivial
theorem Mine.top.tw2443449257678562572 : True := trivial
theorem Mine.top.tw17470836177267949868 : True := trivial
theorem Mine.top.tw5609151216138764652 : True := trivial
theorem Mine.top.tw3969286963782609292 : True := trivial
theorem Mine.top.tw17046948494117081484 : True := trivial
theorem Mine.top.tw13799840507378627052 : True := trivial
theorem Mine.top.tw6333448901615975916 : True := trivial
theorem Mine.top.tw9195894827357321740 : True := trivial
theorem Mine.top.tw11542710104232473196 : True := trivial
theorem Mine.top.tw17781115878593249900 : True := trivial
theorem Mine.top.tw3254097082911018636 : True := trivial
theorem Mine.top.tw12958664272152378060 : True := trivial
theorem Mine.top.tw10404823597219466188 : True := trivial
theorem Mine.top.tw17323899518341599180 : True := trivial
theorem Mine.top.tw6240723676877644813 : True := trivial
theorem Mine.top.tw14453841093610474573 : True := trivial
theorem Mine.top.tw13822267516522204269 : True := trivial
theorem Mine.top.tw16352630495959832749 : True := trivial
theorem Mine.top.tw7527032243904285869 : True := trivial
theorem Mine.top.tw17555251805378815213 : True := trivial
theorem Mine.top.tw1112988674713690477 : True := trivial
theorem Mine.top.tw4047667213573674445 : True := trivial
theorem Mine.top.tw3479634599624807885 : True := trivial
theorem Mine.top.tw10774637447528242797 : True := trivial
theorem Mine.top.tw283044589724301 : True := trivial
theorem Mine.top.tw17756597512981354157 : True := trivial
theorem Mine.top.tw4940147422707163885 : True := trivial
theorem Mine.top.tw16719718919923625709 : True := trivial
theorem Mine.top.tw2581206410525282061 : True := trivial
theorem Mine.top.tw12080426169559351053 : True := trivial
theorem Mine.top.tw8265191368974092141 : True := trivial
theorem Mine.top.tw672699306608606093 : True := trivial
theorem Mine.top.tw10574840078274726829 : True := trivial
theorem Mine.top.tw1516213087968936877 : True := trivial
theorem Mine.top.tw12427389293880184781 : True := trivial
theorem Mine.top.tw13318506193475082254 : True := trivial
theorem Mine.top.tw14502225709538309166 : True := trivial
theorem Mine.top.tw12385144161495827662 : True := trivial
theorem Mine.top.tw8472579005086612782 : True := trivial
theorem Mine.top.tw12209182163369298222 : True := trivial
theorem Mine.top.tw15451780782824253742 : True := trivial
theorem Mine.top.tw7297446738713254254 : True := trivial
theorem Mine.top.tw5476889619067714990 : True := trivial
theorem Mine.top.tw2544169868661182894 : True := trivial
theorem Mine.top.tw2462062305354472974 : True := trivial
theorem Mine.top.tw1142415686869020238 : True := trivial
theorem Mine.top.tw15240379268576122478 : True := trivial
theorem Mine.top.tw14611434983143301774 : True := trivial
theorem Mine.top.tw6124053682588569230 : True := trivial
theorem Mine.top.tw17542608870123051758 : True := trivial
theorem Mine.top.tw12718909917080609646 : True := trivial
theorem Mine.top.tw15503665604740900718 : True := trivial
theorem Mine.top.tw12958502747184954254 : True := trivial
theorem Mine.top.tw15985961358823992270 : True := trivial
theorem Mine.top.tw5938664839603501006 : True := trivial
theorem Mine.top.tw6898770573198911631 : True := trivial
theorem Mine.top.tw11334350811105764591 : True := trivial
theorem Mine.top.tw1638113669730673903 : True := trivial
theorem Mine.top.tw1123975283337734383 : True := trivial
theorem Mine.top.tw14697636140705633519 : True := trivial
theorem Mine.top.tw17565814175750979855 : True := trivial
theorem Mine.top.tw8560541052185303311 : True := trivial
theorem Mine.top.tw381845443943030031 : True := trivial
theorem Mine.top.tw16900427199656544559 : True := trivial
theorem Mine.top.tw9631074621892390191 : True := trivial
theorem Mine.top.tw4655869559712951663 : True := trivial
theorem Mine.top.tw7198060816514059695 : True := trivial
theorem Mine.top.tw13326734554550294991 : True := trivial
theorem Mine.top.tw9913501989792142831 : True := trivial
theorem Mine.top.tw619969439002989039 : True := trivial
theorem Mine.top.tw9590735534726013551 : True := trivial
theorem Mine.top.tw5604026686304666287 : True := trivial
theorem Mine.top.tw8369368087495890639 : True := trivial
theorem Mine.top.tw5581607755468803823 : True := trivial
theorem Mine.top.tw9113342356557571855 : True := trivial
theorem Mine.top.tw10567129059001840431 : True := trivial
theorem Mine.top.tw11762496359356365647 : True := trivial
theorem Mine.top.tw2126296398998916975 : True := trivial
theorem Mine.top.tw352232786441526191 : True := trivial
theorem Mine.top.tw9378254376102152143 : True := trivial
theorem Mine.top.tw1040915598704419856 : True := trivial
theorem Mine.top.tw4186445540838780016 : True := trivial
theorem Mine.top.tw1843344800811705456 : True := trivial
theorem Mine.top.tw2145171640123136144 : True := trivial
theorem Mine.top.tw12392516345856041104 : True := trivial
theorem Mine.top.tw390997316461189296 : True := trivial
theorem Mine.top.tw11982747722937265360 : True := trivial
theorem Mine.top.tw8538268897159353584 : True := trivial
theorem Mine.top.tw7414872774492366064 : True := trivial
theorem Mine.top.tw104434173382791472 : True := trivial
theorem Mine.top.tw9382581127745807760 : True := trivial
theorem Mine.top.tw1585457916280141200 : True := trivial
theorem Mine.top.tw8735323631387419056 : True := trivial
theorem Mine.top.tw16044733080236030384 : True := trivial
theorem Mine.top.tw7444641836354208208 : True := trivial
theorem Mine.top.tw7273676953221729872 : True := trivial
theorem Mine.top.tw14537839394382259888 : True := trivial
theorem Mine.top.tw8410488445778877200 : True := trivial
theorem Mine.top.tw7600245330811189008 : True := trivial
theorem Mine.top.tw15095372191486117680 : True := trivial
theorem Mine.top.tw12342655685612074800 : True := trivial
theorem Mine.top.tw14861896470697024400 : True := trivial
theorem Mine.top.tw4383139521930768336 : True := trivial
theorem Mine.top.tw7429413206186439793 : True := trivial
theorem Mine.top.tw6196800358849779857 : True := trivial
theorem Mine.top.tw18086089286151905521 : True := trivial
theorem Mine.top.tw10996937224433265937 : True := trivial
theorem Mine.top.tw1245559373397905713 : True := trivial
theorem Mine.top.tw7250933059871147345 : True := trivial
theorem Mine.top.tw14597223018079223185 : True := trivial
theorem Mine.top.tw8204474986945543665 : True := trivial
theorem Mine.top.tw11457754044182789617 : True := trivial
theorem Mine.top.tw9305691244287143441 : True := trivial
theorem Mine.top.tw2835187731363253809 : True := trivial
theorem Mine.top.tw1706793611546318481 : True := trivial
theorem Mine.top.tw9166809390415177425 : True := trivial
theorem Mine.top.tw5225153198818245361 : True := trivial
theorem Mine.top.tw9335426496214029073 : True := trivial
theorem Mine.top.tw13307591127769906961 : True := trivial
theorem Mine.top.tw18008055252877512497 : True := trivial
theorem Mine.top.tw2822501910515967889 : True := trivial
theorem Mine.top.tw4076138812419527698 : True := trivial
theorem Mine.top.tw908825868028484722 : True := trivial
theorem Mine.top.tw16597617366809209970 : True := trivial
theorem Mine.top.tw9259421805112917234 : True := trivial
theorem Mine.top.tw3855276242980373810 : True := trivial
theorem Mine.top.tw15877122091014420850 : True := trivial
theorem Mine.top.tw2907113945770861938 : True := trivial
theorem Mine.top.tw14657780768301432306 : True := trivial
theorem Mine.top.tw427420600052151026 : True := trivial
theorem Mine.top.tw8645369167282567922 : True := trivial
theorem Mine.top.tw705360758644809490 : True := trivial
theorem Mine.top.tw14399976873020721970 : True := trivial
theorem Mine.top.tw10987319290404115282 : True := trivial
theorem Mine.top.tw15092371282622821202 : True := trivial
theorem Mine.top.tw12540527436937284434 : True := trivial
theorem Mine.top.tw10090393231696489298 : True := trivial
theorem Mine.top.tw8025738503920905074 : True := trivial
theorem Mine.top.tw16550210197400561554 : True := trivial
theorem Mine.top.tw8148004212497801138 : True := trivial
theorem Mine.top.tw4699463449715708850 : True := trivial
theorem Mine.top.tw17177869089781658578 : True := trivial
theorem Mine.top.tw1483126911874232274 : True := trivial
theorem Mine.top.tw16795567611416646642 : True := trivial
theorem Mine.top.tw887695700811335699 : True := trivial
theorem Mine.top.tw9229161468869434483 : True := trivial
theorem Mine.top.tw5507162329139097715 : True := trivial
theorem Mine.top.tw2007660962349395123 : True := trivial
theorem Mine.top.tw16204670001084760307 : True := trivial
theorem Mine.top.tw11141966352661209427 : True := trivial
theorem Mine.top.tw5088376156974544275 : True := trivial
theorem Mine.top.tw11133666699803404755 : True := trivial
theorem Mine.top.tw6662652255960138227 : True := trivial
theorem Mine.top.tw1275901062530889299 : True := trivial
theorem Mine.top.tw5398424786039705171 : True := trivial
theorem Mine.top.tw877433047237710547 : True := trivial
theorem Mine.top.tw13420762306968818387 : True := trivial
theorem Mine.top.tw5278709424875269971 : True := trivial
theorem Mine.top.tw7160873610591055699 : True := trivial
theorem Mine.top.tw1492452104121835379 : True := trivial
theorem Mine.top.tw8874702517807110003 : True := trivial
theorem Mine.top.tw17486766287000646611 : True := trivial
theorem Mine.top.tw7743179893348639699 : True := trivial
theorem Mine.top.tw2758071753971750899 : True := trivial
theorem Mine.top.tw12643491718579748851 : True := trivial
theorem Mine.top.tw4526881389914513428 : True := trivial
theorem Mine.top.tw13783846897844823188 : True := trivial
theorem Mine.top.tw1676862907878916244 : True := trivial
theorem Mine.top.tw15918733279669447828 : True := trivial
theorem Mine.top.tw12415523145999629524 : True := trivial
theorem Mine.top.tw9442318146202087700 : True := trivial
theorem Mine.top.tw84136930442132756 : True := trivial
theorem Mine.top.tw14789260269991461300 : True := trivial
theorem Mine.top.tw17022078359063049780 : True := trivial
theorem Mine.top.tw11760055953109336660 : True := trivial
theorem Mine.top.tw1617357707322924660 : True := trivial
theorem Mine.top.tw1284575025550258836 : True := trivial
theorem Mine.top.tw4159251561096739476 : True := trivial
theorem Mine.top.tw12535971307161669396 : True := trivial
theorem Mine.top.tw11922380849998532372 : True := trivial
theorem Mine.top.tw16759092144687519636 : True := trivial
theorem Mine.top.tw6694047246710070196 : True := trivial
theorem Mine.top.tw6265701101103706036 : True := trivial
theorem Mine.top.tw13983857475226248213 : True := trivial
theorem Mine.top.tw5225916559131626549 : True := trivial
theorem Mine.top.tw4784893810139332661 : True := trivial
theorem Mine.top.tw2686433634493928565 : True := trivial
theorem Mine.top.tw4796303294375832693 : True := trivial
theorem Mine.top.tw11994683656316670133 : True := trivial
theorem Mine.top.tw7008692893051332821 : True := trivial
theorem Mine.top.tw10562855833978642645 : True := trivial
theorem Mine.top.tw14402358008270493973 : True := trivial
theorem Mine.top.tw3739144386018749749 : True := trivial
theorem Mine.top.tw13549259019975226677 : True := trivial
theorem Mine.top.tw1988063486488863061 : True := trivial
theorem Mine.top.tw11334203419191126389 : True := trivial
theorem Mine.top.tw7386116660499605909 : True := trivial
theorem Mine.top.tw2220570432770164149 : True := trivial
theorem Mine.top.tw575894324575664597 : True := trivial
theorem Mine.top.tw4213018616267185653 : True := trivial
theorem Mine.top.tw11203750815551599093 : True := trivial
theorem Mine.top.tw15004652626996871669 : True := trivial
theorem Mine.top.tw18371284783138465269 : True := trivial
theorem Mine.top.tw72247145696351765 : True := trivial
theorem Mine.top.tw10797620697341660853 : True := trivial
theorem Mine.top.tw4058662728301269685 : True := trivial
theorem Mine.top.tw864819663365544661 : True := trivial
theorem Mine.top.tw13345470168829271861 : True := trivial
theorem Mine.top.tw350670483859837877 : True := trivial
theorem Mine.top.tw18367679650794681301 : True := trivial
theorem Mine.top.tw8813761850579938390 : True := trivial
theorem Mine.top.tw13044034144603486326 : True := trivial
theorem Mine.top.tw9800703332001039478 : True := trivial
theorem Mine.top.tw8265311939077410998 : True := trivial
theorem Mine.top.tw10801874191123338550 : True := trivial
theorem Mine.top.tw5597187220613765494 : True := trivial
theorem Mine.top.tw17346259052997144950 : True := trivial
theorem Mine.top.tw11116745826364501430 : True := trivial
theorem Mine.top.tw4736427724481360342 : True := trivial
theorem Mine.top.tw15362295582089109014 : True := trivial
theorem Mine.top.tw9366391650621772374 : True := trivial
theorem Mine.top.tw15169761463676818070 : True := trivial
theorem Mine.top.tw8694864300669457046 : True := trivial
theorem Mine.top.tw1195175773429642966 : True := trivial
theorem Mine.top.tw4166218997396506358 : True := trivial
theorem Mine.top.tw8657480035899644758 : True := trivial
theorem Mine.top.tw3584897518013459382 : True := trivial
theorem Mine.top.tw10194810499950245846 : True := trivial
theorem Mine.top.tw17492772389151264855 : True := trivial
theorem Mine.top.tw7458633546980236471 : True := trivial
theorem Mine.top.tw16885616592811714743 : True := trivial
theorem Mine.top.tw12318557346453588183 : True := trivial
theorem Mine.top.tw7204998973626084599 : True := trivial
theorem Mine.top.tw372274921031740727 : True := trivial
theorem Mine.top.tw3712731000106771831 : True := trivial
theorem Mine.top.tw7381879191629600215 : True := trivial
theorem Mine.top.tw2312856594315299383 : True := trivial
theorem Mine.top.tw4299629679881509495 : True := trivial
theorem Mine.top.tw15349318334595610263 : True := trivial
theorem Mine.top.tw8143265674769528471 : True := trivial
theorem Mine.top.tw8139039716903228087 : True := trivial
theorem Mine.top.tw12012865196380796599 : True := trivial
theorem Mine.top.tw7830913209206220567 : True := trivial
theorem Mine.top.tw15722756333993289495 : True := trivial
theorem Mine.top.tw11520865232209809239 : True := trivial
theorem Mine.top.tw3561193834555079511 : True := trivial
theorem Mine.top.tw5868845118606482295 : True := trivial
theorem Mine.top.tw5245862010334584759 : True := trivial
theorem Mine.top.tw4331257952254489624 : True := trivial
theorem Mine.top.tw9843447840031818808 : True := trivial
theorem Mine.top.tw10008474027749305400 : True := trivial
theorem Mine.top.tw11199710921928265848 : True := trivial
theorem Mine.top.tw1139600151236580504 : True := trivial
theorem Mine.top.tw681777741448182936 : True := trivial
theorem Mine.top.tw6487610083215253720 : True := trivial
theorem Mine.top.tw7512850731694144728 : True := trivial
theorem Mine.top.tw9063741608606530840 : True := trivial
theorem Mine.top.tw2812155379371279736 : True := trivial
theorem Mine.top.tw4498253355057717688 : True := trivial
theorem Mine.top.tw4551080515912023512 : True := trivial
theorem Mine.top.tw6211089042160764376 : True := trivial
theorem Mine.top.tw13500427573557490136 : True := trivial
theorem Mine.top.tw9768079942903668216 : True := trivial
theorem Mine.top.tw8107780213005350392 : True := trivial
theorem Mine.top.tw2617719716777270872 : True := trivial
theorem Mine.top.tw1149218181149386328 : True := trivial
theorem Mine.top.tw8810280945414196856 : True := trivial
theorem Mine.top.tw8237333600419904120 : True := trivial
theorem Mine.top.tw18164388396756303480 : True := trivial
theorem Mine.top.tw6746510453823603384 : True := trivial
theorem Mine.top.tw16713831800681072344 : True := trivial
theorem Mine.top.tw6572447435987645144 : True := trivial
theorem Mine.top.tw3995942328266245912 : True := trivial
theorem Mine.top.tw17886615442053742456 : True := trivial
theorem Mine.top.tw2722852734226103192 : True := trivial
theorem Mine.top.tw15245507539482535896 : True := trivial
theorem Mine.top.tw5889316905344633881 : True := trivial
theorem Mine.top.tw11546936639936008217 : True := trivial
theorem Mine.top.tw16273406610938067001 : True := trivial
theorem Mine.top.tw17030962893124633753 : True := trivial
theorem Mine.top.tw2596539476470345881 : True := trivial
theorem Mine.top.tw10001883323181062329 : True := trivial
theorem Mine.top.tw13359135706311490777 : True := trivial
theorem Mine.top.tw9851269098105209369 : True := trivial
theorem Mine.top.tw14349089067433371257 : True := trivial
theorem Mine.top.tw795583310449317561 : True := trivial
theorem Mine.top.tw6189502492464219833 : True := trivial
theorem Mine.top.tw11466170419677230873 : True := trivial
theorem Mine.top.tw16325430554902658873 : True := trivial
theorem Mine.top.tw9178861053002065721 : True := trivial
theorem Mine.top.tw10703516329204539289 : True := trivial
theorem Mine.top.tw16196420915677631385 : True := trivial
theorem Mine.top.tw11199532085631943738 : True := trivial
theorem Mine.top.tw9743097575036673082 : True := trivial
theorem Mine.top.tw6973401727384321114 : True := trivial
theorem Mine.top.tw4347277040485782778 : True := trivial
theorem Mine.top.tw10079171474624433434 : True := trivial
theorem Mine.top.tw1047907039808853306 : True := trivial
theorem Mine.top.tw14823308797102314842 : True := trivial
theorem Mine.top.tw3195522803047326042 : True := trivial
theorem Mine.top.tw10448899703829047738 : True := trivial
theorem Mine.top.tw5105846836358774362 : True := trivial
theorem Mine.top.tw1108800333578037850 : True := trivial
theorem Mine.top.tw5702910450625016506 : True := trivial
theorem Mine.top.tw16420938139371093754 : True := trivial
theorem Mine.top.tw12105128591322288922 : True := trivial
theorem Mine.top.tw17219337458794519322 : True := trivial
theorem Mine.top.tw15353528756566410042 : True := trivial
theorem Mine.top.tw1886144042066472794 : True := trivial
theorem Mine.top.tw4713442408853163898 : True := trivial
theorem Mine.top.tw13068111086705522682 : True := trivial
theorem Mine.top.tw427269002284569659 : True := trivial
theorem Mine.top.tw10187264123177260123 : True := trivial
theorem Mine.top.tw17089494485692210459 : True := trivial
theorem Mine.top.tw995497684801637723 : True := trivial
theorem Mine.top.tw4134505453457115739 : True := trivial
theorem Mine.top.tw3422688185749166683 : True := trivial
theorem Mine.top.tw16800595933775061595 : True := trivial
theorem Mine.top.tw16821654228018055803 : True := trivial
theorem Mine.top.tw3337584539547039419 : True := trivial
theorem Mine.top.tw11858546649754279707 : True := trivial
theorem Mine.top.tw9152664641465651067 : True := trivial
theorem Mine.top.tw6127594578889010139 : True := trivial
theorem Mine.top.tw13120753694373217308 : True := trivial
theorem Mine.top.tw13134186033006778460 : True := trivial
theorem Mine.top.tw11334415319851112604 : True := trivial
theorem Mine.top.tw5523086135645875356 : True := trivial
theorem Mine.top.tw18245740138792012028 : True := trivial
theorem Mine.top.tw14826035006057030972 : True := trivial
theorem Mine.top.tw13928562000808390012 : True := trivial
theorem Mine.top.tw1869187583165140508 : True := trivial
theorem Mine.top.tw12376051458212225564 : True := trivial
theorem Mine.top.tw13802547742096326172 : True := trivial
theorem Mine.top.tw14917401599646851644 : True := trivial
theorem Mine.top.tw4321519831107876412 : True := trivial
theorem Mine.top.tw8689318265317240412 : True := trivial
theorem Mine.top.tw10195997230039290492 : True := trivial
theorem Mine.top.tw16453443671601555132 : True := trivial
theorem Mine.top.tw216529984938456764 : True := trivial
theorem Mine.top.tw1088946173253831356 : True := trivial
theorem Mine.top.tw15361541807878343388 : True := trivial
theorem Mine.top.tw18034075008235765660 : True := trivial
theorem Mine.top.tw10060563435695780796 : True := trivial
theorem Mine.top.tw3776753064480771068 : True := trivial
theorem Mine.top.tw4547018644641229820 : True := trivial
theorem Mine.top.tw11240886729373846589 : True := trivial
theorem Mine.top.tw5155950481276406077 : True := trivial
theorem Mine.top.tw2782073688633401757 : True := trivial
theorem Mine.top.tw2057334267981633021 : True := trivial
theorem Mine.top.tw17355269125676882429 : True := trivial
theorem Mine.top.tw15749434781750407773 : True := trivial
theorem Mine.top.tw10773188271377071773 : True := trivial
theorem Mine.top.tw7325726471975496349 : True := trivial
theorem Mine.top.tw11430207588045935325 : True := trivial
theorem Mine.top.tw18177719399980262173 : True := trivial
theorem Mine.top.tw3730354652608582461 : True := trivial
theorem Mine.top.tw11423202765487971197 : True := trivial
theorem Mine.top.tw1833847959688406909 : True := trivial
theorem Mine.top.tw47109162367338493 : True := trivial
theorem Mine.top.tw14901070454687303710 : True := trivial
theorem Mine.top.tw13091174067606910046 : True := trivial
theorem Mine.top.tw8973803690348224638 : True := trivial
theorem Mine.top.tw14851680436948445374 : True := trivial
theorem Mine.top.tw2555065506035805374 : True := trivial
theorem Mine.top.tw8968299171318014206 : True := trivial
theorem Mine.top.tw6930518751129746686 : True := trivial
theorem Mine.top.tw9361663168868926718 : True := trivial
theorem Mine.top.tw7994173218167792958 : True := trivial
theorem Mine.top.tw10579768621468169598 : True := trivial
theorem Mine.top.tw6859976401760118174 : True := trivial
theorem Mine.top.tw9108098604805947806 : True := trivial
theorem Mine.top.tw2878843996050045342 : True := trivial
theorem Mine.top.tw10956490626425055710 : True := trivial
theorem Mine.top.tw788273225186049534 : True := trivial
theorem Mine.top.tw5118827330378232414 : True := trivial
theorem Mine.top.tw105208000716104510 : True := trivial
theorem Mine.top.tw13889484949932952446 : True := trivial
theorem Mine.top.tw5983031951866500094 : True := trivial
theorem Mine.top.tw15058813355848621054 : True := trivial
theorem Mine.top.tw2267912224990424062 : True := trivial
theorem Mine.top.tw14371913498598963198 : True := trivial
theorem Mine.top.tw14390669486469195807 : True := trivial
theorem Mine.top.tw1754339480302792767 : True := trivial
theorem Mine.top.tw7990429038631628895 : True := trivial
theorem Mine.top.tw16975562568813534335 : True := trivial
theorem Mine.top.tw17428532607074087071 : True := trivial
theorem Mine.top.tw2464713573024523455 : True := trivial
theorem Mine.top.tw6187478851450931391 : True := trivial
theorem Mine.top.tw10341860258655708415 : True := trivial
theorem Mine.top.tw18085771088847121727 : True := trivial
theorem Mine.top.tw11279390925490393535 : True := trivial
theorem Mine.top.tw9589608677651300831 : True := trivial
theorem Mine.top.tw14762295962024373759 : True := trivial
theorem Mine.top.tw5766051744304087583 : True := trivial
theorem Mine.top.tw2514443458684651071 : True := trivial
theorem Mine.top.tw12094960947251128927 : True := trivial
theorem Mine.top.tw8345894832289464959 : True := trivial
theorem Mine.top.tw649594095290182367 : True := trivial
theorem Mine.top.tw13369591340354186047 : True := trivial
theorem Mine.top.tw2837373999431856959 : True := trivial
theorem Mine.top.tw10399464001100048223 : True := trivial
theorem Mine.top.tw3207569582813703071 : True := trivial
theorem Mine.top.tw5839659824258004927 : True := trivial
theorem Mine.top.tw5751671616551784791 : True := trivial
section
open PySem PySem.W PyProof.Rows
set_option maxHeartbeats 0 in
set_option Elab.async true in
theorem Mine.top : PySem.Challenge.rw_sj0200_01.Holds := by
  w_on
  o_law
  k_head
  case hw => w_witness2
  intro w s₀ s₁ mg mb G Y fa o pm cd doc dV kV ho hd hcd hD hmg hg args vals as hpre hlay hrd hwl hlo
  have KX := kIn_of Y
  refine Ground.open G ?_
  intro T B D TE TW
  have hmg' : mg (Str.ofString "law") = some (.ref fa) := hmg
  clear hD hcd hd ho hmg
  wrow_args hpre hlay hrd hwl hlo
  rename_i xs _ _ _ _ _ _ _ la vl _ hL _ _ _ hI _ hlen _
  have hfa : fa = 591 := by
    have h1 := mg_of (n := Str.ofString "law") KX T.g (v := .ref 591) (by kernel_rfl)
    rw [hmg'] at h1
    injection h1 with h1; injection h1
  subst hfa
  have hlen' : xs.length ≤ Mine.big := by
    have : Mine.big = 16777216 := rfl
    omega
  refine Mine.fin KX (topRead_of T) hlen' hL (by simpa using hI) ?_ fun μ' H2 s' S I => ⟨.inl ⟨_, .bool true, [], rfl, fun _ => rfl, .bool true, by kernel_rfl, unshared_nil⟩, .of_keep I.stays, S.os, .of_eq (S.gens.trans hg)⟩
  exact ⟨by kernel_rfl, by kernel_rfl, by kernel_rfl, by kernel_rfl, by kernel_rfl, by kernel_rfl, ⟨by kernel_rfl, fun a0 a1 => (by kernel_rfl : bindArgs _ _ = _), by kernel_rfl, by kernel_rfl⟩,
    ⟨by kernel_rfl, fun a0 => (by kernel_rfl : bindArgs _ _ = _), by kernel_rfl, by kernel_rfl⟩,
    ⟨by kernel_rfl, fun a0 => (by kernel_rfl : bindArgs _ _ = _), by kernel_rfl, by kernel_rfl⟩,
    ⟨by kernel_rfl, fun a0 => (by kernel_rfl : bindArgs _ _ = _), by kernel_rfl, by kernel_rfl⟩,
    ⟨by kernel_rfl, fun a0 a1 => (by kernel_rfl : bindArgs _ _ = _), by kernel_rfl, by kernel_rfl⟩,
    ⟨by kernel_rfl, fun a0 a1 => (by kernel_rfl : bindArgs _ _ = _), by kernel_rfl, by kernel_rfl⟩,
    ⟨by kernel_rfl, fun a0 a1 => (by kernel_rfl : bindArgs _ _ = _), by kernel_rfl, by kernel_rfl⟩,
    ⟨by kernel_rfl, fun a0 a1 => (by kernel_rfl : bindArgs _ _ = _), by kernel_rfl, by kernel_rfl⟩,
    ⟨by kernel_rfl, fun a0 a1 => (by kernel_rfl : bindArgs _ _ = _), by kernel_rfl, by kernel_rfl⟩,
    ⟨by kernel_rfl, fun a0 a1 a2 => (by kernel_rfl : bindArgs _ _ = _), by kernel_rfl, by kernel_rfl⟩,
    ⟨by kernel_rfl, fun a0 => (by kernel_rfl : bindArgs _ _ = _), by kernel_rfl, by kernel_rfl⟩,
    ⟨by kernel_rfl, fun a0 => (by kernel_rfl : bindArgs _ _ = _), by kernel_rfl, by kernel_rfl⟩,
    ⟨by kernel_rfl, fun a0 a1 a2 a3 => (by kernel_rfl : bindArgs _ _ = _), by kernel_rfl, by kernel_rfl⟩,
    ⟨by kernel_rfl, fun a0 a1 a2 a3 a4 a5 a6 => (by kernel_rfl : bindArgs _ _ = _), by kernel_rfl, by kernel_rfl⟩,
    ⟨by kernel_rfl, fun a0 a1 => (by kernel_rfl : bindArgs _ _ = _), by kernel_rfl, by kernel_rfl⟩,
    ⟨by kernel_rfl, fun a0 a1 a2 => (by kernel_rfl : bindArgs _ _ = _), by kernel_rfl, by kernel_rfl⟩,
    ⟨by kernel_rfl, fun a0 a1 a2 => (by kernel_rfl : bindArgs _ _ = _), by kernel_rfl, by kernel_rfl⟩,
    ⟨by kernel_rfl, fun a0 => (by kernel_rfl : bindArgs _ _ = _), by kernel_rfl, by kernel_rfl⟩,
    ⟨by kernel_rfl, fun a0 a1 a2 => (by kernel_rfl : bindArgs _ _ = _), by kernel_rfl, by kernel_rfl⟩,
    ⟨by kernel_rfl, fun a0 a1 a2 => (by kernel_rfl : bindArgs _ _ = _), by kernel_rfl, by kernel_rfl⟩,
    ⟨by kernel_rfl, fun a0 a1 a2 => (by kernel_rfl : bindArgs _ _ = _), by kernel_rfl, by kernel_rfl⟩,
    ⟨by kernel_rfl, fun a0 a1 a2 => (by kernel_rfl : bindArgs _ _ = _), by kernel_rfl, by kernel_rfl⟩,
    ⟨by kernel_rfl, fun a0 a1 a2 => (by kernel_rfl : bindArgs _ _ = _), by kernel_rfl, by kernel_rfl⟩,
    ⟨by kernel_rfl, fun a0 => (by kernel_rfl : bindArgs _ _ = _), by kernel_rfl, by kernel_rfl⟩,
    ⟨by kernel_rfl, fun a0 a1 a2 a3 => (by kernel_rfl : bindArgs _ _ = _), by kernel_rfl, by kernel_rfl⟩,
    ⟨by kernel_rfl, fun a0 a1 a2 a3 => (by kernel_rfl : bindArgs _ _ = _), by kernel_rfl, by kernel_rfl⟩,
    ⟨by kernel_rfl, fun a0 a1 a2 => (by kernel_rfl : bindArgs _ _ = _), by kernel_rfl, by kernel_rfl⟩,
    ⟨by kernel_rfl, fun a0 => (by kernel_rfl : bindArgs _ _ = _), by kernel_rfl, by kernel_rfl⟩,
    ⟨by kernel_rfl, fun a0 a1 a2 => (by kernel_rfl : bindArgs _ _ = _), by kernel_rfl, by kernel_rfl⟩,
    ⟨by kernel_rfl, fun a0 a1 a2 => (by kernel_rfl : bindArgs _ _ = _), by kernel_rfl, by kernel_rfl⟩,
    ⟨by kernel_rfl, fun a0 a1 a2 => (by kernel_rfl : bindArgs _ _ = _), by kernel_rfl, by kernel_rfl⟩,
    ⟨by kernel_rfl, fun a0 a1 a2 => (by kernel_rfl : bindArgs _ _ = _), by kernel_rfl, by kernel_rfl⟩,
    ⟨by kernel_rfl, fun a0 a1 => (by kernel_rfl : bindArgs _ _ = _), by kernel_rfl, by kernel_rfl⟩,
    ⟨by kernel_rfl, fun a0 a1 => (by kernel_rfl : bindArgs _ _ = _), by kernel_rfl, by kernel_rfl⟩,
    ⟨by kernel_rfl, fun a0 a1 => (by kernel_rfl : bindArgs _ _ = _), by kernel_rfl, by kernel_rfl⟩,
    ⟨by kernel_rfl, fun a0 a1 a2 a3 => (by kernel_rfl : bindArgs _ _ = _), by kernel_rfl, by kernel_rfl⟩,
    ⟨by kernel_rfl, fun a0 a1 a2 => (by kernel_rfl : bindArgs _ _ = _), by kernel_rfl, by kernel_rfl⟩,
    ⟨by kernel_rfl, fun a0 a1 a2 a3 => (by kernel_rfl : bindArgs _ _ = _), by kernel_rfl, by kernel_rfl⟩,
    ⟨by kernel_rfl, fun a0 => (by kernel_rfl : bindArgs _ _ = _), by kernel_rfl, by kernel_rfl⟩, trivial⟩
end
theorem PySem.Challenge.cw_sj0200_01_holds : PySem.Challenge.rw_sj0200_01.Holds :=
  Mine.top
