import PyProof.Rows.All
import Wide.All
import OpenK.AllK
import Wide.FinOn
import PySem.Challenge.RW_sj0200_02
set_option Elab.async false
set_option genSizeOf false
set_option tactic.hygienic false
set_option genInjectivity false
set_option maxRecDepth 100000
set_option linter.all false
section
namespace Mine
open PySem
inductive Bi where
  | len | isi | abs | int | range | sorted | list | str | tuple
  deriving DecidableEq
inductive AV where
  | none
  | bool (b : Bool)
  | int (i : Int)
  | str (s : List Nat)
  | tup (l : List AV)
  | ref (i : Nat)
  | fn (k : Nat)
  | cls (k : Nat)
  | bi (b : Bi)
  | ilist (l : List Int)
  | rng (a b : Int)
inductive AObj where
  | list (l : List AV)
  | inst (c : Nat) (fs : List (Nat × AV))
  | dict (n : Nat)
noncomputable abbrev AH := List AObj
noncomputable abbrev Loc := List (Option AV)
inductive Out (α : Type) where
  | ok (a : α) (h : AH)
  | exc (h : AH)
  | bad
noncomputable def Out.bind {α β : Type} (x : Out α) (f : α → AH → Out β) : Out β := match x with
  | .ok a h => f a h
  | .exc h => .exc h
  | .bad => .bad
noncomputable def Out.nx {α β : Type} (x : Out α) (f : α → AH → Out β) : Out β := match x with
  | .ok a h => f a h
  | _ => .bad
inductive Fl where
  | next | cont
  | ret (v : AV)
inductive SO where
  | ok (f : Fl) (l : Loc) (h : AH)
  | exc (l : Loc) (h : AH)
  | bad
mutual
inductive E0 where
  | bad
  | val (v : AV)
  | loc (i : Nat)
  | tup (es : List E0)
  | list (es : List E0)
  | attr (o : E0) (a : Nat)
  | item (o i : E0)
  | slice (o : E0) (lo hi st : E0)
  | bin (l : E0) (op : Operator) (r : E0)
  | neg (e : E0)
  | not (e : E0)
  | bop (op : BoolOp) (es : List E0)
  | cmp (l : E0) (ops : List CmpOp) (rs : List E0)
  | ite (c a b : E0)
  | call (f : E0) (args : List E0)
  | meth (o : E0) (m : Nat) (args : List E0)
  | comp (elt : E0) (tg : T0) (it : E0) (ifs : List E0) (n : Nat) (cap : List Nat)
  | dget (ks : List (List Nat × Int)) (x : E0) (d : Int)
  | dict (ks vs : List E0)
inductive T0 where
  | bad
  | name (i : Nat)
  | attr (o : E0) (a : Nat)
  | item (o i : E0)
  | tup (ts : List T0)
end
inductive S0 where
  | bad
  | expr (e : E0)
  | asg (t : T0) (e : E0)
  | augN (i : Nat) (op : Operator) (e : E0)
  | augA (o : E0) (a : Nat) (op : Operator) (e : E0)
  | ret (e : E0)
  | ite (c : E0) (a b : List S0)
  | while_ (c : E0) (b : List S0)
  | for_ (t : T0) (it : E0) (b : List S0)
  | cont
  | raise
  | try_ (b : S0) (i j : Nat)
noncomputable def big : Nat := 16777216
noncomputable def lookL (a : Nat) : List (Nat × AV) → Option AV
  | [] => none
  | (b, v) :: r => if a = b then some v else lookL a r
noncomputable def setL (a : Nat) (v : AV) : List (Nat × AV) → List (Nat × AV)
  | [] => [(a, v)]
  | (b, u) :: r => if a = b then (a, v) :: r else (b, u) :: setL a v r
noncomputable def intsOf : List AV → Option (List Int)
  | [] => some []
  | .int i :: r => (intsOf r).map (i :: ·)
  | _ :: _ => none
noncomputable def aeqL (H : AH) (i j : Nat) : Option Bool := match H[i]?, H[j]? with
  | some (.list x), some (.list y) => (match intsOf x, intsOf y with
    | some x, some y => some (decide (x = y))
    | _, _ => none)
  | _, _ => none
noncomputable def all2 (f : AV → AV → Bool) : List AV → List AV → Bool
  | [], [] => true
  | a :: x, b :: y => f a b && all2 f x y
  | _, _ => false
noncomputable def sameR (f : AV → AV → Bool) (H : AH) (i j : Nat) : Bool := match H[i]? with
  | some (.inst _ _) => decide (i = j)
  | some (.list x) => (match H[j]? with | some (.list y) => all2 f x y | _ => false)
  | _ => false
noncomputable def same (H : AH) : Nat → AV → AV → Bool
  | 0, _, _ => false
  | n + 1, a, b => (match a with
    | .none => (match b with | .none => true | _ => false)
    | .int x => (match b with | .int y => decide (x = y) | _ => false)
    | .str x => (match b with | .str y => decide (x = y) | _ => false)
    | .tup x => (match b with | .tup y => all2 (same H n) x y | _ => false)
    | .ref i => (match b with | .ref j => sameR (same H n) H i j | _ => false)
    | _ => false)
noncomputable def eqR (H : AH) (i j : Nat) : Option Bool := match aeqL H i j with
  | some b => some b
  | none => (match H[i]? with
    | some (.list _) => if sameR (same H 8) H i j = true then some true else none
    | _ => none)
noncomputable def aeq (H : AH) (a b : AV) : Option Bool := match a with
  | .none => (match b with | .none => some true | _ => none)
  | .int x => (match b with | .int y => some (decide (x = y)) | _ => none)
  | .str x => (match b with | .str y => some (decide (x = y)) | _ => none)
  | .tup x => (match b with | .tup y => if all2 (same H 8) x y = true then some true else none | _ => none)
  | .ref i => (match b with | .ref j => eqR H i j | _ => none)
  | _ => none
noncomputable def strsOf : List AV → Option (List (List Nat))
  | [] => some []
  | .str s :: r => (strsOf r).map (s :: ·)
  | _ :: _ => none
noncomputable def isV (a b : AV) : Option Bool := match b with
  | .none => (match a with | .none => some true | _ => some false)
  | _ => none
noncomputable def inL (H : AH) (j : Nat) (x : List Nat) : Option Bool := match H[j]? with
  | some (.list l) => (strsOf l).map fun ss => ss.any (· == x)
  | _ => none
noncomputable def inS (y x : List Nat) : Bool := !(Builtin.Str.occurrences ⟨y.toArray⟩ ⟨x.toArray⟩ 0 (⟨y.toArray⟩ : Str).length 1).isEmpty
noncomputable def cmpV (H : AH) (op : CmpOp) (a b : AV) : Option Bool := match op with
  | .Eq => aeq H a b
  | .NotEq => (aeq H a b).map fun x => !x
  | .Lt => (match a with | .int x => (match b with | .int y => some (decide (x < y)) | _ => none) | _ => none)
  | .Gt => (match a with | .int x => (match b with | .int y => some (decide (y < x)) | _ => none) | _ => none)
  | .LtE => (match a with | .int x => (match b with | .int y => some (decide (x ≤ y)) | _ => none) | _ => none)
  | .Is => isV a b
  | .IsNot => (isV a b).map fun x => !x
  | .In => (match a with | .str x => (match b with | .str l => some (inS l x) | .tup l => (strsOf l).map fun ss => ss.any (· == x) | .ref j => inL H j x | _ => none) | _ => none)
  | _ => none
noncomputable def truthV : AV → Option Bool
  | .bool b => some b
  | _ => none
noncomputable def natOf : AV → Option Nat
  | .int i => if 0 ≤ i then some i.toNat else none
  | _ => none
inductive SK where
  | all | take (b : Nat) | drop (a : Nat) | run (a b : Nat) | rev | down
noncomputable def SK.ap {α : Type} (k : SK) (l : List α) : List α := match k with
  | .all => l
  | .take b => l.take b
  | .drop a => l.drop a
  | .run a b => (l.take b).drop a
  | .rev => l.reverse
  | .down => (l.drop 1).reverse
noncomputable def SK.of (x y : Option Nat) : SK := match x with
  | none => (match y with | none => .all | some b => .take b)
  | some a => (match y with | none => .drop a | some b => .run a b)
noncomputable def SK.back (x y : Option Nat) : Option SK := match x with
  | none => (match y with | none => some .rev | some j => if j = 0 then some .down else none)
  | some _ => none
noncomputable def partN : AV → Option (Option Nat)
  | .none => some none
  | .int i => if 0 ≤ i then some (some i.toNat) else none
  | _ => none
noncomputable def stK : AV → Option Bool
  | .none => some true
  | .int s => if s = -1 then some false else none
  | _ => none
noncomputable def skOf (lo hi st : AV) : Option SK := (partN lo).bind fun x => (partN hi).bind fun y => (stK st).bind fun p => if p = true then some (SK.of x y) else SK.back x y
noncomputable def sliceV (H : AH) (v lo hi st : AV) : Out AV := match skOf lo hi st with
  | none => .bad
  | some k => (match v with
    | .str s => (match st with | .none => .ok (.str (k.ap s)) H | _ => .bad)
    | .ref i => (match H[i]? with
      | some (.list l) => .ok (.ref H.length) (H ++ [.list (k.ap l)])
      | _ => .bad)
    | .ilist l => .ok (.ref H.length) (H ++ [.list ((k.ap l).map AV.int)])
    | _ => .bad)
noncomputable def itemN (H : AH) (v : AV) (k : Nat) : Option AV := match v with
  | .tup l => l[k]?
  | .str s => s[k]?.map fun c => .str [c]
  | .ref j => (match H[j]? with | some (.list l) => l[k]? | _ => none)
  | _ => none
noncomputable def itemV (H : AH) (v i : AV) : Option AV := (natOf i).bind fun k => itemN H v k
noncomputable def attrV (fld : Nat → Nat → Bool) (H : AH) (v : AV) (a : Nat) : Option AV := match v with
  | .ref i => (match H[i]? with | some (.inst c fs) => if fld c a then lookL a fs else none | _ => none)
  | _ => none
noncomputable def dgetL (ks : List (List Nat × Int)) (k : List Nat) (d : Int) : Int := match ks with
  | [] => d
  | (x, v) :: r => if k = x then v else dgetL r k d
noncomputable def dgV (ks : List (List Nat × Int)) (d : Int) (v : AV) (H : AH) : Out AV := match v with | .str k => .ok (.int (dgetL ks k d)) H | _ => .bad
noncomputable def catV (H : AH) (i j : Nat) : Out AV := match H[i]?, H[j]? with
  | some (.list x), some (.list y) => if x.length + y.length ≤ big then .ok (.ref H.length) (H ++ [.list (x ++ y)]) else .bad
  | _, _ => .bad
noncomputable def addV (H : AH) (a b : AV) : Out AV := match a with
  | .int x => (match b with | .int y => .ok (.int (x + y)) H | _ => .bad)
  | .str x => (match b with | .str y => if x.length + y.length ≤ big then .ok (.str (x ++ y)) H else .bad | _ => .bad)
  | .ref i => (match b with | .ref j => catV H i j | _ => .bad)
  | _ => .bad
noncomputable def binV (H : AH) (op : Operator) (a b : AV) : Out AV := match op with
  | .Add => addV H a b
  | .Sub => (match a with | .int x => (match b with | .int y => .ok (.int (x - y)) H | _ => .bad) | _ => .bad)
  | .Mod => (match a with | .int x => (match b with | .int y => if 0 < y then .ok (.int (x % y)) H else .bad | _ => .bad) | _ => .bad)
  | _ => .bad
noncomputable def lenV (H : AH) (a : AV) : Out AV := match a with
  | .str s => .ok (.int s.length) H
  | .tup l => .ok (.int l.length) H
  | .ref i => (match H[i]? with | some (.list l) => .ok (.int l.length) H | _ => .bad)
  | _ => .bad
noncomputable def isiV (H : AH) (a b : AV) : Out AV := match b with
  | .bi .str => (match a with | .str _ => .ok (.bool true) H | _ => .bad)
  | .bi .tuple => (match a with | .str _ => .ok (.bool false) H | .int _ => .ok (.bool false) H | .none => .ok (.bool false) H | _ => .bad)
  | _ => .bad
noncomputable def ascL : List Int → Bool
  | [] => true
  | [_] => true
  | x :: y :: r => decide (x ≤ y) && ascL (y :: r)
noncomputable def sortedV (H : AH) (a : AV) : Out AV := match a with
  | .ref i => (match H[i]? with
    | some (.list l) => (match intsOf l with
      | some x => if ascL x = true ∧ x.length < 64 then .ok (.ref H.length) (H ++ [.list l]) else .bad
      | none => .bad)
    | _ => .bad)
  | _ => .bad
noncomputable def listV (H : AH) (a : AV) : Out AV := match a with
  | .rng x y => if x ≤ y ∧ y ≤ 1000000 ∧ 0 ≤ x then .ok (.ref H.length) (H ++ [.list ((List.range (y - x).toNat).map fun k : Nat => AV.int (x + (k : Int)))]) else .bad
  | _ => .bad
noncomputable def rngV (H : AH) (a b : AV) : Out AV := match a with
  | .int x => (match b with | .int y => if 0 ≤ x ∧ x ≤ 1000000 ∧ 0 ≤ y ∧ y ≤ 1000000 then .ok (.rng x y) H else .bad | _ => .bad)
  | _ => .bad
noncomputable def biV (H : AH) (b : Bi) (args : List AV) : Out AV := match args with
  | [a] => (match b with
    | .len => lenV H a
    | .sorted => sortedV H a
    | .list => listV H a
    | .abs => (match a with | .int i => .ok (.int i.natAbs) H | _ => .bad)
    | .int => (match a with | .int i => .ok (.int i) H | _ => .bad)
    | .range => (match a with | .int b => if 0 ≤ b ∧ b ≤ 1000000 then .ok (.rng 0 b) H else .bad | _ => .bad)
    | _ => .bad)
  | [a, c] => (match b with | .isi => isiV H a c | .range => rngV H a c | _ => .bad)
  | _ => .bad
noncomputable def joinL (sep : List Nat) : List (List Nat) → List Nat
  | [] => []
  | [x] => x
  | x :: r => x ++ sep ++ joinL sep r
inductive Hd where
  | fn (k : Nat)
  | bim
noncomputable def popV (H : AH) (i : Nat) (l : List AV) : Out AV := match l.getLast? with | some v => .ok v (H.set i (.list l.dropLast)) | none => .bad
noncomputable def extV (H : AH) (i : Nat) (l : List AV) (a : AV) : Out AV := match a with
  | .ref j => (match H[j]? with
    | some (.list x) => if l.length + x.length < big then .ok .none (H.set i (.list (l ++ x))) else .bad
    | _ => .bad)
  | _ => .bad
noncomputable def pop0 (H : AH) (i : Nat) (l : List AV) (k : AV) : Out AV := match k with
  | .int z => if z = 0 then (match l with | v :: r => .ok v (H.set i (.list r)) | [] => .bad) else .bad
  | _ => .bad
noncomputable def insV (H : AH) (i : Nat) (l : List AV) (k v : AV) : Out AV := match k with
  | .int z => if z = 0 ∧ l.length < big then .ok .none (H.set i (.list (v :: l))) else .bad
  | _ => .bad
noncomputable def liV (H : AH) (i : Nat) (l : List AV) (m : Nat) (args : List AV) : Out AV := match args with
  | [] => (match m with
    | 1 => popV H i l
    | 4 => .ok .none (H.set i (.list l.reverse))
    | _ => .bad)
  | [k, v] => (match m with
    | 3 => insV H i l k v
    | _ => .bad)
  | [v] => (match m with
    | 1 => pop0 H i l v
    | 0 => if l.length < big then .ok .none (H.set i (.list (l ++ [v]))) else .bad
    | 2 => extV H i l v
    | _ => .bad)
  | _ => .bad
noncomputable def joinV (H : AH) (s : List Nat) (a : AV) : Out AV := match a with
  | .ref i => (match H[i]? with
    | some (.list l) => (match strsOf l with
      | some x => if (x.map (·.length)).sum + x.length * s.length ≤ 16777216 then .ok (.str (joinL s x)) H else .bad
      | none => .bad)
    | _ => .bad)
  | _ => .bad
noncomputable def bimV (H : AH) (o : AV) (m : Nat) (args : List AV) : Out AV := match o with
  | .ref i => (match H[i]? with
    | some (.list l) => liV H i l m args
    | _ => .bad)
  | .str s => (match args with | [a] => joinV H s a | _ => .bad)
  | _ => .bad
inductive It where
  | list (r k : Nat)
  | rng (a b : Int)
noncomputable def iterOf (H : AH) : AV → Option It
  | .ref r => (match H[r]? with | some (.list _) => some (.list r 0) | _ => none)
  | .rng a b => some (.rng a b)
  | _ => none
noncomputable def stepIt (H : AH) : It → Option (Option (AV × It))
  | .list r k => (match H[r]? with | some (.list xs) => some (xs[k]?.map fun v => (v, .list r (k + 1))) | _ => none)
  | .rng a b => some (if a < b then some (.int a, .rng (a + 1) b) else none)
structure P0 where
  body : Nat → Option (Nat × Nat × List S0)
  init : Nat → Option Nat
  meth : Nat → Nat → Option Nat
  fld : Nat → Nat → Bool
section
variable (P : P0) (call : Nat → List AV → AH → Out AV) (N : Nat)
noncomputable def callV (f : AV) (args : List AV) (H : AH) : Out AV := match f with
  | .fn k => call k args H
  | .cls c => (match P.init c with
    | some k => (call k (.ref H.length :: args) (H ++ [.inst c []])).bind fun v H' => match v with | .none => .ok (.ref H.length) H' | _ => .bad
    | none => .bad)
  | .bi b => biV H b args
  | _ => .bad
noncomputable def isFn : AV → Bool
  | .fn k => (P.body k).isSome
  | .cls c => (P.init c).isSome
  | .bi _ => true
  | _ => false
noncomputable def headV (H : AH) (o : AV) (m : Nat) : Option Hd := match o with
  | .ref i => (match H[i]? with
    | some (.inst c fs) => (match lookL m fs, P.meth c m with
      | none, some k => some (.fn k)
      | _, _ => none)
    | some (.list _) => if m < 5 then some .bim else none
    | _ => none)
  | .str _ => if m = 5 then some .bim else none
  | _ => none
noncomputable def methV (hd : Hd) (o : AV) (m : Nat) (args : List AV) (H : AH) : Out AV := match hd with
  | .fn k => call k (o :: args) H
  | .bim => bimV H o m args
noncomputable def cmpGo (H : AH) (a : AV) : List CmpOp → List (AH → Out AV) → Out AV
  | [op], [r] => (r H).bind fun b H => match cmpV H op a b with | some x => .ok (.bool x) H | none => .bad
  | [op, op2], [r, r2] => (r H).bind fun b H => match cmpV H op a b with
    | some true => (r2 H).bind fun c H => match cmpV H op2 b c with | some x => .ok (.bool x) H | none => .bad
    | some false => .ok (.bool false) H
    | none => .bad
  | _, _ => .bad
noncomputable def bopGo (op : BoolOp) (H : AH) : List (AH → Out AV) → Out AV
  | [] => .bad
  | [x] => x H
  | x :: r => (x H).bind fun v H => match op, truthV v with
    | .And, some false => .ok v H
    | .Or, some true => .ok v H
    | _, some _ => bopGo op H r
    | _, none => .bad
noncomputable def compIn (k : Loc → AH → List AV → Out (List AV)) (ifs elt : Loc → AH → Out AV) (l : Loc) (H : AH) (acc : List AV) : Out (List AV) := match ifs l H with
  | .ok (.bool true) H1 => (match elt l H1 with
    | .ok x H2 => if acc.length < big then k l H2 (acc ++ [x]) else .bad
    | _ => .bad)
  | .ok (.bool false) H1 => k l H1 acc
  | _ => .bad
noncomputable def compGo (tg : AV → Loc → Option Loc) (ifs : Loc → AH → Out AV) (elt : Loc → AH → Out AV) : Nat → It → Loc → AH → List AV → Out (List AV)
  | 0, _, _, _, _ => .bad
  | n + 1, it, l, H, acc => match stepIt H it with
    | none => .bad
    | some none => .ok acc H
    | some (some (v, it')) => match tg v l with
      | none => .bad
      | some l' => compIn (compGo tg ifs elt n it') ifs elt l' H acc
noncomputable def setLoc (l : Loc) (i : Nat) (v : AV) : Option Loc := if i < l.length then some (l.set i (some v)) else none
mutual
noncomputable def tgV : T0 → AV → Loc → Option Loc
  | .name i, v, l => setLoc l i v
  | .tup ts, .tup vs, l => tgVs ts vs l
  | _, _, _ => none
noncomputable def tgVs : List T0 → List AV → Loc → Option Loc
  | [], [], l => some l
  | t :: ts, v :: vs, l => (tgV t v l).bind fun l => tgVs ts vs l
  | _, _, _ => none
end
mutual
noncomputable def evE : E0 → Loc → AH → Out AV
  | .bad, _, _ => .bad
  | .val v, _, H => .ok v H
  | .loc i, l, H => (match l[i]? with | some (some v) => .ok v H | _ => .bad)
  | .tup es, l, H => (evEs es l H).bind fun vs H => .ok (.tup vs) H
  | .list es, l, H => (evEs es l H).bind fun vs H => .ok (.ref H.length) (H ++ [.list vs])
  | .attr o a, l, H => (evE o l H).bind fun v H => match attrV P.fld H v a with | some r => .ok r H | none => .bad
  | .item o i, l, H => (evE o l H).bind fun v H => (evE i l H).bind fun k H => match itemV H v k with | some r => .ok r H | none => .bad
  | .slice o lo hi st, l, H => (evE o l H).bind fun v H => (evE lo l H).bind fun a H => (evE hi l H).bind fun b H => (evE st l H).bind fun c H => sliceV H v a b c
  | .bin x op y, l, H => (evE x l H).bind fun a H => (evE y l H).bind fun b H => binV H op a b
  | .neg e, l, H => (evE e l H).bind fun v H => match v with | .int i => .ok (.int (-i)) H | _ => .bad
  | .not e, l, H => (evE e l H).bind fun v H => match truthV v with | some b => .ok (.bool (!b)) H | none => .bad
  | .bop op es, l, H => bopGo op H (evFs es l)
  | .cmp x ops rs, l, H => (evE x l H).bind fun a H => cmpGo H a ops (evFs rs l)
  | .ite c a b, l, H => (evE c l H).bind fun v H => match truthV v with
    | some true => evE a l H
    | some false => evE b l H
    | none => .bad
  | .call f args, l, H => (evE f l H).bind fun f H => if isFn P f = true then (evEs args l H).bind fun vs H => callV P call f vs H else .bad
  | .meth o m args, l, H => (evE o l H).bind fun o H => match headV P H o m with
    | some hd => (evEs args l H).bind fun vs H => methV call hd o m vs H
    | none => .bad
  | .comp elt tg it ifs n cap, l, H => (evE it l H).bind fun v H => match iterOf H v with
    | some i => (compGo (tgV tg) (fun l H => evIfs ifs l H) (fun l H => evE elt l H) N i (cap.map (fun j => (l[j]?).getD none) ++ List.replicate n none) H []).bind fun xs H => .ok (.ref H.length) (H ++ [.list xs])
    | none => .bad
  | .dict _ _, _, H => .ok (.ref H.length) (H ++ [.dict 0])
  | .dget ks x d, l, H => (evE x l H).bind fun v H => dgV ks d v H
noncomputable def evEs : List E0 → Loc → AH → Out (List AV)
  | [], _, H => .ok [] H
  | e :: r, l, H => (evE e l H).bind fun v H => (evEs r l H).bind fun vs H => .ok (v :: vs) H
noncomputable def evFs : List E0 → Loc → List (AH → Out AV)
  | [], _ => []
  | e :: r, l => (fun H => evE e l H) :: evFs r l
noncomputable def evIfs : List E0 → Loc → AH → Out AV
  | [], _, H => .ok (.bool true) H
  | e :: r, l, H => (evE e l H).bind fun v H => match truthV v with
    | some true => evIfs r l H
    | some false => .ok (.bool false) H
    | none => .bad
end
noncomputable def augV (H : AH) (op : Operator) (a b : AV) : Out AV := match a with
  | .int x => (match b with
    | .int y => (match op with | .Add => .ok (.int (x + y)) H | .Sub => .ok (.int (x - y)) H | _ => .bad)
    | _ => .bad)
  | _ => .bad
noncomputable def Out.so (x : Out Loc) (l : Loc) : SO := match x with
  | .ok l H => .ok .next l H
  | .exc H => .exc l H
  | .bad => .bad
noncomputable def putA (fld : Nat → Nat → Bool) (H : AH) (o : AV) (a : Nat) (v : AV) : Option AH := match o with
  | .ref i => (match H[i]? with
    | some (.inst c fs) => if fld c a then some (H.set i (.inst c (setL a v fs))) else none
    | _ => none)
  | _ => none
noncomputable def putI (H : AH) (o k v : AV) : Option AH := match o with
  | .ref i => (match H[i]? with
    | some (.dict n) => (match k with | .str _ => if n < big then some (H.set i (.dict (n + 1))) else none | _ => none)
    | some (.list l) => (match natOf k with | some j => if j < l.length then some (H.set i (.list (l.set j v))) else none | none => none)
    | _ => none)
  | _ => none
mutual
noncomputable def asT : T0 → AV → Loc → AH → Out Loc
  | .bad, _, _, _ => .bad
  | .name i, v, l, H => (match setLoc l i v with | some l => .ok l H | none => .bad)
  | .attr o a, v, l, H => (evE P call N o l H).nx fun o H => match putA P.fld H o a v with | some H => .ok l H | none => .bad
  | .item o i, v, l, H => (evE P call N o l H).nx fun o H => (evE P call N i l H).nx fun k H => match putI H o k v with | some H => .ok l H | none => .bad
  | .tup ts, v, l, H => (match v with | .tup vs => if ts.length = vs.length then asTs ts vs l H else .bad | _ => .bad)
noncomputable def asTs : List T0 → List AV → Loc → AH → Out Loc
  | [], [], l, H => .ok l H
  | t :: ts, v :: vs, l, H => (asT t v l H).nx fun l H => asTs ts vs l H
  | _, _, _, _ => .bad
end
noncomputable def SO.loop (x : SO) (k : Loc → AH → SO) : SO := match x with
  | .ok .next l H => k l H
  | .ok .cont l H => k l H
  | .ok (.ret v) l H => .ok (.ret v) l H
  | .exc l H => .exc l H
  | .bad => .bad
noncomputable def whileGo (test : Loc → AH → Out AV) (body : Loc → AH → SO) : Nat → Loc → AH → SO
  | 0, _, _ => .bad
  | n + 1, l, H => match test l H with
    | .ok (.bool true) H1 => (body l H1).loop (whileGo test body n)
    | .ok (.bool false) H1 => .ok .next l H1
    | .exc H1 => .exc l H1
    | _ => .bad
noncomputable def forGo (tg : AV → Loc → Option Loc) (body : Loc → AH → SO) : Nat → It → Loc → AH → SO
  | 0, _, _, _ => .bad
  | n + 1, it, l, H => match stepIt H it with
    | none => .bad
    | some none => .ok .next l H
    | some (some (v, it')) => match tg v l with
      | none => .bad
      | some l1 => (body l1 H).loop (forGo tg body n it')
noncomputable def SO.tried (x : SO) (i j : Nat) : SO := match x with
  | .exc l H => (match setLoc l j (.int 22) with | some l => .ok .next (l.set i none) H | none => .bad)
  | x => x
noncomputable def SO.andThen (x : SO) (k : Loc → AH → SO) : SO := match x with
  | .ok .next l H => k l H
  | x => x
noncomputable def Out.thenS {α : Type} (x : Out α) (l : Loc) (k : α → AH → SO) : SO := match x with
  | .ok a H => k a H
  | .exc H => .exc l H
  | .bad => .bad
noncomputable def plainV : AV → Bool
  | .none | .bool _ | .int _ | .str _ => true
  | _ => false
mutual
noncomputable def evS : S0 → Loc → AH → SO
  | .bad, _, _ => .bad
  | .expr e, l, H => (evE P call N e l H).thenS l fun v H => if plainV v then .ok .next l H else .bad
  | .asg t e, l, H => (evE P call N e l H).thenS l fun v H => (asT P call N t v l H).so l
  | .augN i op e, l, H => (match l[i]? with
    | some (some old) => (evE P call N e l H).thenS l fun v H => (augV H op old v).thenS l fun r H => (match setLoc l i r with | some l => .ok .next l H | none => .bad)
    | _ => .bad)
  | .augA o a op e, l, H => (evE P call N o l H).thenS l fun o H => match attrV P.fld H o a with
    | some old => (evE P call N e l H).thenS l fun v H => (augV H op old v).thenS l fun r H => (match putA P.fld H o a r with | some H => .ok .next l H | none => .bad)
    | none => .bad
  | .ret e, l, H => (evE P call N e l H).thenS l fun v H => .ok (.ret v) l H
  | .ite c a b, l, H => (evE P call N c l H).thenS l fun v H => match truthV v with
    | some true => evSs a l H
    | some false => evSs b l H
    | none => .bad
  | .while_ c b, l, H => whileGo (fun l H => evE P call N c l H) (fun l H => evSs b l H) N l H
  | .for_ t it b, l, H => (evE P call N it l H).thenS l fun v H => match iterOf H v with
    | some i => forGo (tgV t) (fun l H => evSs b l H) N i l H
    | none => .bad
  | .cont, l, H => .ok .cont l H
  | .raise, l, H => .exc l H
  | .try_ b i j, l, H => (evS b l H).tried i j
noncomputable def evSs : List S0 → Loc → AH → SO
  | [], l, H => .ok .next l H
  | s :: r, l, H => (evS s l H).andThen fun l H => evSs r l H
end
noncomputable def runFn (k : Nat) (args : List AV) (H : AH) : Out AV := match P.body k with
  | none => .bad
  | some (np, ns, b) => if args.length = np then
      match evSs P call N b (args.map some ++ List.replicate ns none) H with
      | .ok (.ret v) _ H => .ok v H
      | .ok .next _ H => .ok .none H
      | .ok _ _ _ => .bad
      | .exc _ H => .exc H
      | .bad => .bad
    else .bad
end
noncomputable def callD (P : P0) (N : Nat) : Nat → Nat → List AV → AH → Out AV
  | 0 => fun _ _ _ => .bad
  | d + 1 => runFn P (callD P N d) N
end Mine
end
section
namespace Mine
open PySem
mutual
inductive E where
  | bad
  | cint (i : Int) (k : Nat) (p : Pos)
  | cstr (s : Str) (k : Nat) (p : Pos)
  | cbool (b : Bool) (k : Nat) (p : Pos)
  | cnone (k : Nat) (p : Pos)
  | non
  | loc (x : Str) (i : Nat) (p : Pos)
  | glob (x : Str) (g : Nat) (p : Pos)
  | gbad (x : Str) (p : Pos)
  | tup (es : List E) (k : Nat) (p : Pos)
  | list (es : List E) (p : Pos)
  | attr (o : E) (x : Str) (a : Nat) (p : Pos)
  | item (o i : E) (p : Pos)
  | slice (o : E) (lo hi st : E) (p1 p : Pos)
  | bin (l : E) (op : Operator) (r : E) (p : Pos)
  | neg (e : E) (p : Pos)
  | not (e : E) (p : Pos)
  | bop (op : BoolOp) (es : List E) (p : Pos)
  | cmp (l : E) (ops : List CmpOp) (rs : List E) (p : Pos)
  | ite (c a b : E) (p : Pos)
  | call (f : E) (args : List E) (p : Pos)
  | meth (o : E) (x : Str) (m : Nat) (args : List E) (ap p : Pos)
  | comp (elt : E) (tg : T) (it : E) (ifs : List E) (sc : Scope) (slots : List Str) (caps : List (Str × Nat)) (p : Pos)
  | dict (ks vs : List E) (p : Pos)
  | dget (ks vs : List E) (dp : Pos) (x d : E) (ap p : Pos)
inductive T where
  | bad
  | name (x : Str) (i : Nat) (p : Pos)
  | attr (o : E) (x : Str) (a : Nat) (p : Pos)
  | item (o i : E) (p : Pos)
  | tup (ts : List T) (k : Nat) (p : Pos)
end
inductive S where
  | bad (t : Stmt)
  | expr (e : E) (p : Pos)
  | asg (t : T) (e : E) (p : Pos)
  | augN (x : Str) (i : Nat) (np : Pos) (op : Operator) (e : E) (p : Pos)
  | augA (o : E) (x : Str) (a : Nat) (tp : Pos) (op : Operator) (e : E) (p : Pos)
  | ret (e : E) (p : Pos)
  | ite (c : E) (a b : List S) (p : Pos)
  | while_ (c : E) (b : List S) (p : Pos)
  | for_ (t : T) (it : E) (b : List S) (p : Pos)
  | cont (p : Pos)
  | raise (num k1 k2 : Nat) (told : Str) (np cp p1 p2 p : Pos)
  | try_ (b : S) (x : Str) (i : Nat) (y : Str) (j : Nat) (np xp ap sp sq hp p : Pos)
noncomputable def litS : E → List Nat
  | .cstr s _ _ => s.cps.toList
  | _ => []
noncomputable def litI : E → Int
  | .cint i _ _ => i
  | .neg (.cint i _ _) _ => -i
  | _ => 0
noncomputable def dgs : List E → List E → List (List Nat × Int)
  | k :: ks, v :: vs => (litS k, litI v) :: dgs ks vs
  | _, _ => []
noncomputable def str0 (s : Str) : AV := .str s.cps.toList
section
variable (gt : List (Str × AV))
mutual
noncomputable def st : E → E0
  | .bad => .bad
  | .cint i _ _ => .val (.int i)
  | .cstr s _ _ => .val (str0 s)
  | .cbool b _ _ => .val (.bool b)
  | .cnone _ _ => .val .none
  | .non => .val .none
  | .loc _ i _ => .loc i
  | .glob _ g _ => .val (((gt[g]?).map (·.2)).getD .none)
  | .gbad _ _ => .bad
  | .tup es _ _ => .tup (sts es)
  | .list es _ => .list (sts es)
  | .attr o _ a _ => .attr (st o) a
  | .item o i _ => .item (st o) (st i)
  | .slice o lo hi s _ _ => .slice (st o) (st lo) (st hi) (st s)
  | .bin l op r _ => .bin (st l) op (st r)
  | .neg e _ => .neg (st e)
  | .not e _ => .not (st e)
  | .bop op es _ => .bop op (sts es)
  | .cmp l ops rs _ => .cmp (st l) ops (sts rs)
  | .ite c a b _ => .ite (st c) (st a) (st b)
  | .call f args _ => .call (st f) (sts args)
  | .meth o _ m args _ _ => .meth (st o) m (sts args)
  | .comp elt tg it ifs _ slots caps _ => .comp (st elt) (stT tg) (st it) (sts ifs) slots.length (caps.map (·.2))
  | .dict ks vs _ => .dict (sts ks) (sts vs)
  | .dget ks vs _ x d _ _ => .dget (dgs ks vs) (st x) (litI d)
noncomputable def sts : List E → List E0
  | [] => []
  | e :: r => st e :: sts r
noncomputable def stT : T → T0
  | .bad => .bad
  | .name _ i _ => .name i
  | .attr o _ a _ => .attr (st o) a
  | .item o i _ => .item (st o) (st i)
  | .tup ts _ _ => .tup (stTs ts)
noncomputable def stTs : List T → List T0
  | [] => []
  | t :: r => stT t :: stTs r
end
mutual
noncomputable def stS : S → S0
  | .bad _ => .bad
  | .expr e _ => .expr (st gt e)
  | .asg t e _ => .asg (stT gt t) (st gt e)
  | .augN _ i _ op e _ => .augN i op (st gt e)
  | .augA o _ a _ op e _ => .augA (st gt o) a op (st gt e)
  | .ret e _ => .ret (st gt e)
  | .ite c a b _ => .ite (st gt c) (stSs a) (stSs b)
  | .while_ c b _ => .while_ (st gt c) (stSs b)
  | .for_ t it b _ => .for_ (stT gt t) (st gt it) (stSs b)
  | .cont _ => .cont
  | .raise .. => .raise
  | .try_ b _ i _ j .. => .try_ (stS b) i j
noncomputable def stSs : List S → List S0
  | [] => []
  | s :: r => stS s :: stSs r
end
end
noncomputable def onNon : E → Expr → Option Expr
  | .non, _ => none
  | _, x => some x
noncomputable def noExpr : Expr := .Constant .ellipsis 0 ⟨0, 0, 0, 0⟩
mutual
noncomputable def py : E → Expr
  | .bad => noExpr
  | .cint i k p => .Constant (.int i) k p
  | .cstr s k p => .Constant (.str s) k p
  | .cbool b k p => .Constant (.bool b) k p
  | .cnone k p => .Constant .none k p
  | .non => noExpr
  | .loc x _ p => .Name x p
  | .glob x _ p => .Name x p
  | .gbad x p => .Name x p
  | .tup es k p => .Tuple (pys es) k p
  | .list es p => .List (pys es) p
  | .attr o x _ p => .Attribute (py o) x p
  | .item o i p => .Subscript (py o) (py i) p
  | .slice o lo hi s p1 p => .Subscript (py o) (.Slice (onNon lo (py lo)) (onNon hi (py hi)) (onNon s (py s)) p1) p
  | .bin l op r p => .BinOp (py l) op (py r) p
  | .neg e p => .UnaryOp .USub (py e) p
  | .not e p => .UnaryOp .Not (py e) p
  | .bop op es p => .BoolOp op (pys es) p
  | .cmp l ops rs p => .Compare (py l) ops (pys rs) p
  | .ite c a b p => .IfExp (py c) (py a) (py b) p
  | .call f args p => .Call (py f) (pys args) [] p
  | .meth o x _ args ap p => .Call (.Attribute (py o) x ap) (pys args) [] p
  | .comp elt tg it ifs sc _ _ p => .ListComp (py elt) [⟨pyT tg, py it, pys ifs, 0⟩] sc p
  | .dict ks vs p => .Dict (pyos ks) (pys vs) p
  | .dget ks vs dp x d ap p => .Call (.Attribute (.Dict (pyos ks) (pys vs) dp) "get" ap) [py x, py d] [] p
noncomputable def pys : List E → List Expr
  | [] => []
  | e :: r => py e :: pys r
noncomputable def pyos : List E → List (Option Expr)
  | [] => []
  | e :: r => some (py e) :: pyos r
noncomputable def pyT : T → Expr
  | .bad => noExpr
  | .name x _ p => .Name x p
  | .attr o x _ p => .Attribute (py o) x p
  | .item o i p => .Subscript (py o) (py i) p
  | .tup ts k p => .Tuple (pyTs ts) k p
noncomputable def pyTs : List T → List Expr
  | [] => []
  | t :: r => pyT t :: pyTs r
end
noncomputable abbrev pyO (e : E) : Option Expr := onNon e (py e)
mutual
noncomputable def pyS : S → Stmt
  | .bad t => t
  | .expr e p => .Expr (py e) p
  | .asg t e p => .Assign [pyT t] (py e) p
  | .augN x _ np op e p => .AugAssign (.Name x np) op (py e) p
  | .augA o x _ tp op e p => .AugAssign (.Attribute (py o) x tp) op (py e) p
  | .ret e p => .Return (some (py e)) p
  | .ite c a b p => .If (py c) (pySs a) (pySs b) p
  | .while_ c b p => .While (py c) (pySs b) [] p
  | .for_ t it b p => .For (pyT t) (py it) (pySs b) [] p
  | .cont p => .Continue p
  | .raise num k1 k2 told np cp p1 p2 p => .Raise (some (.Call (.Name "SnobolError" np) [.Constant (.int num) k1 p1, .Constant (.str told) k2 p2] [] cp)) none p
  | .try_ b x _ y _ np xp ap sp sq hp p => .Try [pyS b] [.ExceptHandler (some (.Name "SnobolError" np)) (some x) [.Assign [.Name y sp] (.Attribute (.Name x xp) "number" ap) sq] hp] [] [] p
noncomputable def pySs : List S → List Stmt
  | [] => []
  | s :: r => pyS s :: pySs r
end
noncomputable def idx (x : Str) : List Str → Nat → Option Nat
  | [], _ => none
  | y :: r, k => if x == y then some k else idx x r (k + 1)
section
variable (nm : List Str) (gt : List (Str × AV))
noncomputable def erName (sc : Scope) (slots : List Str) (x : Str) (p : Pos) : E :=
  match sc.names.lookup x with
  | some .local => (match idx x slots 0 with | some i => .loc x i p | none => .bad)
  | some .cell => (match idx x slots 0 with | some i => .loc x i p | none => .bad)
  | some .globalImplicit => (match idx x (gt.map (·.1)) 0 with | some g => .glob x g p | none => .gbad x p)
  | _ => .bad
noncomputable def locals (sc : Scope) : List Str := sc.names.filterMap fun n => if n.2 == .local then some n.1 else none
noncomputable def relab (sc outer : Scope) : Scope :=
  { sc with names := sc.names.map fun (n, k) => if (k == .free && outer.kind == .function && outer.names.lookup n == some .cell) then (n, .cell) else (n, k) }
noncomputable def capsOf (sc : Scope) (slots : List Str) : List (Str × Nat) := sc.names.filterMap fun n => if n.2 == .free then (idx n.1 slots 0).map fun i => (n.1, i) else none
end
noncomputable def ePos (e : E) : Pos := E.casesOn (motive_1 := fun _ => Pos) e (⟨0, 0, 0, 0⟩) (fun _ _ v => v) (fun _ _ v => v) (fun _ _ v => v) (fun _ v => v) (⟨0, 0, 0, 0⟩) (fun _ _ v => v) (fun _ _ v => v) (fun _ v => v) (fun _ _ v => v) (fun _ v => v) (fun _ _ _ v => v) (fun _ _ v => v) (fun _ _ _ _ _ v => v) (fun _ _ _ v => v) (fun _ v => v) (fun _ v => v) (fun _ _ v => v) (fun _ _ _ v => v) (fun _ _ _ v => v) (fun _ _ v => v) (fun _ _ _ _ _ v => v) (fun _ _ _ _ _ _ _ v => v) (fun _ _ v => v) (fun _ _ _ _ _ _ v => v)
noncomputable def eStr (e : E) : Str := E.casesOn (motive_1 := fun _ => Str) e ("") (fun _ _ _ => "") (fun v _ _ => v) (fun _ _ _ => "") (fun _ _ => "") ("") (fun v _ _ => v) (fun v _ _ => v) (fun _ _ => "") (fun _ _ _ => "") (fun _ _ => "") (fun _ v _ _ => v) (fun _ _ _ => "") (fun _ _ _ _ _ _ => "") (fun _ _ _ _ => "") (fun _ _ => "") (fun _ _ => "") (fun _ _ _ => "") (fun _ _ _ _ => "") (fun _ _ _ _ => "") (fun _ _ _ => "") (fun _ _ _ _ _ _ => "") (fun _ _ _ _ _ _ _ _ => "") (fun _ _ _ => "") (fun _ _ _ _ _ _ _ => "")
noncomputable def eInt (e : E) : Int := E.casesOn (motive_1 := fun _ => Int) e (0) (fun v _ _ => v) (fun _ _ _ => 0) (fun _ _ _ => 0) (fun _ _ => 0) (0) (fun _ _ _ => 0) (fun _ _ _ => 0) (fun _ _ => 0) (fun _ _ _ => 0) (fun _ _ => 0) (fun _ _ _ _ => 0) (fun _ _ _ => 0) (fun _ _ _ _ _ _ => 0) (fun _ _ _ _ => 0) (fun _ _ => 0) (fun _ _ => 0) (fun _ _ _ => 0) (fun _ _ _ _ => 0) (fun _ _ _ _ => 0) (fun _ _ _ => 0) (fun _ _ _ _ _ _ => 0) (fun _ _ _ _ _ _ _ _ => 0) (fun _ _ _ => 0) (fun _ _ _ _ _ _ _ => 0)
noncomputable def eNat (e : E) : Nat := E.casesOn (motive_1 := fun _ => Nat) e (0) (fun _ v _ => v) (fun _ v _ => v) (fun _ _ _ => 0) (fun _ _ => 0) (0) (fun _ v _ => v) (fun _ _ _ => 0) (fun _ _ => 0) (fun _ _ _ => 0) (fun _ _ => 0) (fun _ _ _ _ => 0) (fun _ _ _ => 0) (fun _ _ _ _ _ _ => 0) (fun _ _ _ _ => 0) (fun _ _ => 0) (fun _ _ => 0) (fun _ _ _ => 0) (fun _ _ _ _ => 0) (fun _ _ _ _ => 0) (fun _ _ _ => 0) (fun _ _ _ _ _ _ => 0) (fun _ _ _ _ _ _ _ _ => 0) (fun _ _ _ => 0) (fun _ _ _ _ _ _ _ => 0)
noncomputable def eObj (e : E) : E := E.casesOn (motive_1 := fun _ => E) e (E.bad) (fun _ _ _ => E.bad) (fun _ _ _ => E.bad) (fun _ _ _ => E.bad) (fun _ _ => E.bad) (E.bad) (fun _ _ _ => E.bad) (fun _ _ _ => E.bad) (fun _ _ => E.bad) (fun _ _ _ => E.bad) (fun _ _ => E.bad) (fun v _ _ _ => v) (fun v _ _ => v) (fun _ _ _ _ _ _ => E.bad) (fun _ _ _ _ => E.bad) (fun _ _ => E.bad) (fun _ _ => E.bad) (fun _ _ _ => E.bad) (fun _ _ _ _ => E.bad) (fun _ _ _ _ => E.bad) (fun v _ _ => v) (fun _ _ _ _ _ _ => E.bad) (fun _ _ _ _ _ _ _ _ => E.bad) (fun _ _ _ => E.bad) (fun _ _ _ _ _ _ _ => E.bad)
noncomputable def eArgs (e : E) : List E := E.casesOn (motive_1 := fun _ => List E) e ([]) (fun _ _ _ => []) (fun _ _ _ => []) (fun _ _ _ => []) (fun _ _ => []) ([]) (fun _ _ _ => []) (fun _ _ _ => []) (fun _ _ => []) (fun _ _ _ => []) (fun _ _ => []) (fun _ _ _ _ => []) (fun _ _ _ => []) (fun _ _ _ _ _ _ => []) (fun _ _ _ _ => []) (fun _ _ => []) (fun _ _ => []) (fun _ _ _ => []) (fun _ _ _ _ => []) (fun _ _ _ _ => []) (fun _ v _ => v) (fun _ _ _ _ _ _ => []) (fun _ _ _ _ _ _ _ _ => []) (fun _ _ _ => []) (fun _ _ _ _ _ _ _ => [])
noncomputable def sTg (e : S) : T := S.casesOn (motive_1 := fun _ => T) e (fun _ => T.bad) (fun _ _ => T.bad) (fun v _ _ => v) (fun _ _ _ _ _ _ => T.bad) (fun _ _ _ _ _ _ _ => T.bad) (fun _ _ => T.bad) (fun _ _ _ _ => T.bad) (fun _ _ _ => T.bad) (fun _ _ _ _ => T.bad) (fun _ => T.bad) (fun _ _ _ _ _ _ _ _ _ => T.bad) (fun _ _ _ _ _ _ _ _ _ _ _ _ => T.bad)
noncomputable def sEx (e : S) : E := S.casesOn (motive_1 := fun _ => E) e (fun _ => E.bad) (fun v _ => v) (fun _ v _ => v) (fun _ _ _ _ _ _ => E.bad) (fun _ _ _ _ _ _ _ => E.bad) (fun _ _ => E.bad) (fun _ _ _ _ => E.bad) (fun _ _ _ => E.bad) (fun _ _ _ _ => E.bad) (fun _ => E.bad) (fun _ _ _ _ _ _ _ _ _ => E.bad) (fun _ _ _ _ _ _ _ _ _ _ _ _ => E.bad)
noncomputable def sPos (e : S) : Pos := S.casesOn (motive_1 := fun _ => Pos) e (fun _ => ⟨0, 0, 0, 0⟩) (fun _ _ => ⟨0, 0, 0, 0⟩) (fun _ _ v => v) (fun _ _ _ _ _ _ => ⟨0, 0, 0, 0⟩) (fun _ _ _ _ _ _ _ => ⟨0, 0, 0, 0⟩) (fun _ _ => ⟨0, 0, 0, 0⟩) (fun _ _ _ _ => ⟨0, 0, 0, 0⟩) (fun _ _ _ => ⟨0, 0, 0, 0⟩) (fun _ _ _ _ => ⟨0, 0, 0, 0⟩) (fun _ => ⟨0, 0, 0, 0⟩) (fun _ _ _ _ _ _ _ _ _ => ⟨0, 0, 0, 0⟩) (fun _ _ _ _ _ _ _ _ _ _ _ _ => ⟨0, 0, 0, 0⟩)
noncomputable def tStr (e : T) : Str := T.casesOn (motive_2 := fun _ => Str) e ("") (fun v _ _ => v) (fun _ _ _ _ => "") (fun _ _ _ => "") (fun _ _ _ => "")
noncomputable def tNat (e : T) : Nat := T.casesOn (motive_2 := fun _ => Nat) e (0) (fun _ v _ => v) (fun _ _ _ _ => 0) (fun _ _ _ => 0) (fun _ _ _ => 0)
noncomputable def tPos (e : T) : Pos := T.casesOn (motive_2 := fun _ => Pos) e (⟨0, 0, 0, 0⟩) (fun _ _ v => v) (fun _ _ _ _ => ⟨0, 0, 0, 0⟩) (fun _ _ _ => ⟨0, 0, 0, 0⟩) (fun _ _ _ => ⟨0, 0, 0, 0⟩)
mutual
noncomputable def toT : E → T
  | .loc x i p => .name x i p
  | .attr o x a p => .attr o x a p
  | .item o i p => .item o i p
  | .tup es k p => .tup (toTs es) k p
  | _ => .bad
noncomputable def toTs : List E → List T
  | [] => []
  | e :: r => toT e :: toTs r
end
noncomputable def erC (k : Nat) (p : Pos) : Const → E
  | .int i => .cint i k p
  | .str s => .cstr s k p
  | .bool b => .cbool b k p
  | .none => .cnone k p
  | _ => .bad
noncomputable def erUn (e : E) (p : Pos) : UnaryOp → E
  | .USub => .neg e p
  | .Not => .not e p
  | _ => .bad
noncomputable def erSub (o : E) (p : Pos) : E → E
  | .slice _ lo hi s p1 _ => .slice o lo hi s p1 p
  | i => .item o i p
noncomputable def erMeth (x : Str) (a : Nat) (ap : Pos) (args : List E) (p : Pos) : E → E
  | .dict ks vs dp => .dget ks vs dp (args.getD 0 .bad) (args.getD 1 .bad) ap p
  | o => .meth o x a args ap p
noncomputable def erCall (args : List E) (p : Pos) : E → E
  | .attr o x a ap => erMeth x a ap args p o
  | .bad => .bad
  | f => .call f args p
noncomputable def erRaise (e : E) (p : Pos) : S :=
  .raise (eInt ((eArgs e).getD 0 .bad)).toNat (eNat ((eArgs e).getD 0 .bad)) (eNat ((eArgs e).getD 1 .bad)) (eStr ((eArgs e).getD 1 .bad)) (ePos (eObj e)) (ePos e) (ePos ((eArgs e).getD 0 .bad)) (ePos ((eArgs e).getD 1 .bad)) p
noncomputable def erAug (op : Operator) (e : E) (p : Pos) : T → S
  | .name x i np => .augN x i np op e p
  | .attr o x a tp => .augA o x a tp op e p
  | _ => .bad (.Pass p)
noncomputable def erTry (slots : List Str) (b : S) (nm : E) (x : Str) (st : S) (hp p : Pos) : S :=
  .try_ b x ((idx x slots 0).getD 0) (tStr (sTg st)) (tNat (sTg st)) (ePos nm) (ePos (eObj (sEx st))) (ePos (sEx st)) (tPos (sTg st)) (sPos st) hp p
section
variable (nm : List Str) (gt : List (Str × AV))
mutual
noncomputable def er (sc : Scope) (slots : List Str) : Expr → E
  | .Constant c k p => erC k p c
  | .Name x p => erName gt sc slots x p
  | .Tuple es k p => .tup (ers sc slots es) k p
  | .List es p => .list (ers sc slots es) p
  | .Attribute o x p => (match idx x nm 0 with | some a => .attr (er sc slots o) x a p | none => .bad)
  | .Slice lo hi s p => .slice .bad (erO sc slots lo) (erO sc slots hi) (erO sc slots s) p p
  | .Subscript o i p => erSub (er sc slots o) p (er sc slots i)
  | .BinOp l op r p => .bin (er sc slots l) op (er sc slots r) p
  | .UnaryOp op e p => erUn (er sc slots e) p op
  | .BoolOp op es p => .bop op (ers sc slots es) p
  | .Compare l ops rs p => .cmp (er sc slots l) ops (ers sc slots rs) p
  | .IfExp c a b p => .ite (er sc slots c) (er sc slots a) (er sc slots b) p
  | .Call f args _ p => erCall (ers sc slots args) p (er sc slots f)
  | .ListComp elt [⟨tg, it, ifs, _⟩] sc' p => .comp (er (relab sc' sc) ((capsOf sc' slots).map (·.1) ++ locals sc') elt) (toT (er (relab sc' sc) ((capsOf sc' slots).map (·.1) ++ locals sc') tg)) (er sc slots it) (ers (relab sc' sc) ((capsOf sc' slots).map (·.1) ++ locals sc') ifs) sc' (locals sc') (capsOf sc' slots) p
  | .Dict ks vs p => .dict (eros sc slots ks) (ers sc slots vs) p
  | _ => .bad
noncomputable def erO (sc : Scope) (slots : List Str) : Option Expr → E
  | none => .non
  | some e => er sc slots e
noncomputable def ers (sc : Scope) (slots : List Str) : List Expr → List E
  | [] => []
  | e :: r => er sc slots e :: ers sc slots r
noncomputable def eros (sc : Scope) (slots : List Str) : List (Option Expr) → List E
  | [] => []
  | none :: r => .bad :: eros sc slots r
  | some e :: r => er sc slots e :: eros sc slots r
end
mutual
noncomputable def erS (sc : Scope) (slots : List Str) : Stmt → S
  | .Expr e p => .expr (er nm gt sc slots e) p
  | .Assign t e p => .asg (toT (er nm gt sc slots (t.headD noExpr))) (er nm gt sc slots e) p
  | .AugAssign t op e p => erAug op (er nm gt sc slots e) p (toT (er nm gt sc slots t))
  | .Return e p => .ret (erO nm gt sc slots e) p
  | .If c a b p => .ite (er nm gt sc slots c) (erSs sc slots a) (erSs sc slots b) p
  | .While c b _ p => .while_ (er nm gt sc slots c) (erSs sc slots b) p
  | .For t it b _ p => .for_ (toT (er nm gt sc slots t)) (er nm gt sc slots it) (erSs sc slots b) p
  | .Continue p => .cont p
  | .Raise e _ p => erRaise (erO nm gt sc slots e) p
  | .Try [b] [.ExceptHandler h x [st] hp] _ _ p => erTry slots (erS sc slots b) (erO nm gt sc slots h) (x.getD "") (erS sc slots st) hp p
  | t => .bad t
noncomputable def erSs (sc : Scope) (slots : List Str) : List Stmt → List S
  | [] => []
  | s :: r => erS sc slots s :: erSs sc slots r
end
end
end Mine
end
section
namespace Mine
open PySem PySem.W PySem.Calls PyProof.Rows
structure Cx where
  prog : Program
  w : World
  K : Frag
  base : Heap
  nm : List Str
  gt : List (Str × AV)
  fnA : Nat → Addr
  clA : Nat → Addr
  exK : Nat
noncomputable abbrev Cx.ex (C : Cx) : Addr := C.clA C.exK
noncomputable abbrev Mu := List (Addr × Addr)
noncomputable def Own (μ : Mu) (a : Addr) : Prop := ∃ p ∈ μ, a = p.1 ∨ a = p.2
noncomputable def biVal : Bi → Value
  | .len => .builtin "len"
  | .isi => .builtin "isinstance"
  | .abs => .builtin "abs"
  | .int => .type "int"
  | .range => .type "range"
  | .sorted => .builtin "sorted"
  | .list => .type "list"
  | .str => .type "str"
  | .tuple => .type "tuple"
section
variable (C : Cx) (μ : Mu) (h : Heap)
mutual
noncomputable def VR : AV → Value → Prop
  | .none, v => v = .none
  | .bool b, v => v = .bool b
  | .int i, v => ∃ t, v = .int i t
  | .str s, v => s.length ≤ big ∧ ∃ t, v = .str ⟨s.toArray⟩ t
  | .tup l, v => l.length ≤ big ∧ ∃ a o vs n, v = .ref a ∧ ¬ Own μ a ∧ h.get? a = some o ∧ o.cls = .type "tuple" ∧ o.data = .seq vs n ∧ VRs l vs.toList
  | .ref i, v => ∃ p, μ[i]? = some p ∧ v = .ref p.1
  | .fn k, v => v = .ref (C.fnA k)
  | .cls k, v => v = .ref (C.clA k)
  | .bi b, v => v = biVal b
  | .ilist l, v => l.length ≤ big ∧ ∃ a vs, v = .ref a ∧ C.base.IsList a vs ∧ IntsAre vs.toList l
  | .rng a b, v => (-(2 ^ 61) ≤ a ∧ a < 2 ^ 61 ∧ -(2 ^ 61) ≤ b ∧ b < 2 ^ 61) ∧ ∃ r t u w, v = .ref r ∧ ¬ Own μ r ∧ IsRange h r a b 1 t u w
noncomputable def VRs : List AV → List Value → Prop
  | [], [] => True
  | a :: r, v :: s => VR a v ∧ VRs r s
  | _, _ => False
end
noncomputable def OR : AObj → Addr × Addr → Prop
  | .list l, p => p.2 = p.1 ∧ l.length ≤ big ∧ ∃ vs n, IsL h p.1 vs n ∧ VRs C μ h l vs.toList
  | .inst c fs, p => h.get? p.1 = some (instObj (C.clA c) p.2) ∧ p.1 ≠ p.2 ∧ ∃ (m : Str → Option Value), h.Ns1 p.2 m ∧ (∀ y, m y ≠ none → y ∈ C.nm) ∧
      ∀ a x, C.nm[a]? = some x → match lookL a fs with
        | some v => ∃ rv, m x = some rv ∧ VR C μ h v rv
        | none => m x = none
  | .dict n, p => p.2 = p.1 ∧ n ≤ big ∧ ∃ kvs : List (Str × Value), kvs.length ≤ n ∧ h.DictOf (strKind C.prog C.w) p.1 kvs
end
structure Inv (C : Cx) (μ : Mu) (H : AH) (h : Heap) : Prop where
  stays : ∀ b o, C.base.get? b = some o → h.get? b = some o
  len : μ.length = H.length
  objs : ∀ (i : Nat) (o : AObj) (p : Addr × Addr), H[i]? = some o → μ[i]? = some p → OR C μ h o p
  sep : ∀ (i j : Nat) (p q : Addr × Addr), μ[i]? = some p → μ[j]? = some q → i ≠ j → p.1 ≠ q.1 ∧ p.1 ≠ q.2 ∧ p.2 ≠ q.1 ∧ p.2 ≠ q.2
  new : ∀ p ∈ μ, C.base.get? p.1 = none ∧ C.base.get? p.2 = none
structure Step (X : Addr → Prop) (μ : Mu) (s : Shared) (μ' : Mu) (s' : Shared) : Prop where
  pre : ∃ t, μ' = μ ++ t
  fresh : ∀ a, Own μ' a → Own μ a ∨ s.heap.get? a = none
  live : ∀ b o, s.heap.get? b = some o → ∃ o', s'.heap.get? b = some o'
  kept : ∀ b o, s.heap.get? b = some o → ¬ Own μ b → ¬ X b → ∃ sl, s'.heap.get? b = some { o with slots := sl } ∧ ((∀ es n, o.data ≠ .dict es n) → sl = o.slots)
  gens : s'.gens = s.gens
  os : s'.os = s.os
noncomputable abbrev NoX : Addr → Prop := fun _ => False
theorem Step.refl {X : Addr → Prop} {μ : Mu} {s : Shared} : Step X μ s μ s :=
  ⟨⟨[], by simp⟩, fun _ h => .inl h, fun _ o e => ⟨o, e⟩, fun _ o e _ _ => ⟨o.slots, e, fun _ => rfl⟩, rfl, rfl⟩
theorem own_mono {μ t : Mu} {a : Addr} (h : Own μ a) : Own (μ ++ t) a := let ⟨p, hp, e⟩ := h; ⟨p, List.mem_append_left _ hp, e⟩
theorem Step.own {X : Addr → Prop} {μ μ' : Mu} {s s' : Shared} (S : Step X μ s μ' s') {a : Addr} (h : Own μ a) : Own μ' a := by
  obtain ⟨t, rfl⟩ := S.pre; exact own_mono h
theorem Step.notOwn {X : Addr → Prop} {μ μ' : Mu} {s s' : Shared} (S : Step X μ s μ' s') {a : Addr} {o : Obj} (h : ¬ Own μ a) (e : s.heap.get? a = some o) : ¬ Own μ' a := fun q => by
  rcases S.fresh a q with q | q
  · exact h q
  · rw [e] at q; injection q
theorem Step.at {X : Addr → Prop} {μ μ' : Mu} {s s' : Shared} (S : Step X μ s μ' s') {i : Nat} {p : Addr × Addr} (h : μ[i]? = some p) : μ'[i]? = some p := by
  obtain ⟨t, rfl⟩ := S.pre
  rw [List.getElem?_append_left (List.getElem?_eq_some_iff.mp h).1]; exact h
theorem Step.trans {X Y : Addr → Prop} {μ₁ μ₂ μ₃ : Mu} {s₁ s₂ s₃ : Shared} (S : Step X μ₁ s₁ μ₂ s₂) (T : Step Y μ₂ s₂ μ₃ s₃) (hXY : ∀ a, Y a → X a ∨ s₁.heap.get? a = none) : Step X μ₁ s₁ μ₃ s₃ := by
  have S0 := S
  obtain ⟨t, rfl⟩ := S.pre
  obtain ⟨u, rfl⟩ := T.pre
  refine ⟨⟨t ++ u, by simp⟩, fun a h => ?_, fun b o e => ?_, fun b o e hn hx => ?_, T.gens.trans S.gens, T.os.trans S.os⟩
  · rcases T.fresh a h with q | q
    · exact S0.fresh a q
    · cases e : s₁.heap.get? a with
      | none => exact .inr rfl
      | some o =>
        obtain ⟨o', e'⟩ := S0.live a o e
        rw [e'] at q; injection q
  · obtain ⟨o', e'⟩ := S0.live b o e
    exact T.live b o' e'
  · obtain ⟨sl, e', q⟩ := S0.kept b o e hn hx
    obtain ⟨sl', e'', q'⟩ := T.kept b _ e' (S0.notOwn hn e) fun hy => (hXY b hy).elim hx fun z => by rw [e] at z; injection z
    exact ⟨sl', e'', fun hc => (q' hc).trans (q hc)⟩
theorem Step.exact {X : Addr → Prop} {μ μ' : Mu} {s s' : Shared} (S : Step X μ s μ' s') {b : Addr} {o : Obj} (e : s.heap.get? b = some o) (hn : ¬ Own μ b) (hx : ¬ X b) (hc : ∀ es n, o.data ≠ .dict es n) : s'.heap.get? b = some o := by
  obtain ⟨sl, e', q⟩ := S.kept b o e hn hx
  rw [q hc] at e'; exact e'
theorem Step.trans0 {X : Addr → Prop} {μ₁ μ₂ μ₃ : Mu} {s₁ s₂ s₃ : Shared} (S : Step X μ₁ s₁ μ₂ s₂) (T : Step X μ₂ s₂ μ₃ s₃) : Step X μ₁ s₁ μ₃ s₃ := S.trans T fun _ h => .inl h
theorem Step.weak {X Y : Addr → Prop} {μ μ' : Mu} {s s' : Shared} (S : Step X μ s μ' s') (h : ∀ a, X a → Y a) : Step Y μ s μ' s' :=
  ⟨S.pre, S.fresh, S.live, fun b o e hn hx => S.kept b o e hn fun z => hx (h b z), S.gens, S.os⟩
noncomputable def Plainly (o : Obj) : Prop := (∃ es n, o.data = .dict es n) ∨ (∃ v, o.data = .cell v) ∨ (o.cls ≠ .type "tuple" ∧ o.cls ≠ .type "range")
theorem plainly_tuple {o : Obj} {vs : Array Value} {n : Nat} (hc : o.cls = .type "tuple") (hd : o.data = .seq vs n) : ¬ Plainly o := fun h => by
  rcases h with ⟨es, k, q⟩ | ⟨v, q⟩ | h
  · rw [hd] at q; injection q
  · rw [hd] at q; injection q
  · exact h.1 hc
theorem plainly_range {o : Obj} {vs : Array Value} (hc : o.cls = .type "range") (hd : o.data = .fields vs) : ¬ Plainly o := fun h => by
  rcases h with ⟨es, k, q⟩ | ⟨v, q⟩ | h
  · rw [hd] at q; injection q
  · rw [hd] at q; injection q
  · exact h.2 hc
theorem VR.mono {C : Cx} {μ μ' : Mu} {h h' : Heap} (hat : ∀ (i : Nat) (p : Addr × Addr), μ[i]? = some p → μ'[i]? = some p)
    (hk : ∀ b o, h.get? b = some o → ¬ Own μ b → ¬ Plainly o → ¬ Own μ' b ∧ ∃ sl, h'.get? b = some { o with slots := sl } ∧ ((∀ es n, o.data ≠ .dict es n) → sl = o.slots)) :
    ∀ (a : AV) {v : Value}, VR C μ h a v → VR C μ' h' a v := by
  intro a
  refine AV.rec (motive_1 := fun a => ∀ {v}, VR C μ h a v → VR C μ' h' a v) (motive_2 := fun l => ∀ {v}, VRs C μ h l v → VRs C μ' h' l v)
    ?_ ?_ ?_ ?_ ?_ ?_ ?_ ?_ ?_ ?_ ?_ ?_ ?_ a
  · intro v h; simpa only [VR] using h
  · intro b v h; simpa only [VR] using h
  · intro i v h; simpa only [VR] using h
  · intro x v h; simpa only [VR] using h
  · intro l ih v h
    simp only [VR] at h ⊢
    obtain ⟨hl, a, o, vs, n, rfl, ho, e, hc, hd, hv⟩ := h
    obtain ⟨ho', sl, e', _⟩ := hk a o e ho (plainly_tuple hc hd)
    exact ⟨hl, a, _, vs, n, rfl, ho', e', hc, hd, ih hv⟩
  · intro i v h
    simp only [VR] at h ⊢
    obtain ⟨p, hp, e⟩ := h
    exact ⟨p, hat _ _ hp, e⟩
  · intro k v h; simpa only [VR] using h
  · intro k v h; simpa only [VR] using h
  · intro k v h; simpa only [VR] using h
  · intro k v h; simpa only [VR] using h
  · intro a b v h
    simp only [VR] at h ⊢
    obtain ⟨hl, r, t, u, w, rfl, ho, e⟩ := h
    obtain ⟨ho', sl, e', q⟩ := hk r _ e ho (plainly_range rfl rfl)
    rw [q (by simp)] at e'
    exact ⟨hl, r, t, u, w, rfl, ho', e'⟩
  · intro v h; induction v using List.casesOn <;> simpa only [VRs] using h
  · intro a l ih1 ih2 v h
    induction v using List.casesOn with
    | nil => simp only [VRs] at h
    | cons x r => simp only [VRs] at h ⊢; exact ⟨ih1 h.1, ih2 h.2⟩
theorem VRs.of {C : Cx} {μ μ' : Mu} {h h' : Heap} (V : ∀ a v, VR C μ h a v → VR C μ' h' a v) : ∀ (l : List AV) {vs : List Value}, VRs C μ h l vs → VRs C μ' h' l vs
  | [], [], _ => by simp only [VRs]
  | a :: r, v :: vs, h => by simp only [VRs] at h ⊢; exact ⟨V a v h.1, VRs.of V r h.2⟩
  | [], _ :: _, h => by simp only [VRs] at h
  | _ :: _, [], h => by simp only [VRs] at h
theorem VR.step {C : Cx} {X : Addr → Prop} {μ μ' : Mu} {s s' : Shared} (S : Step X μ s μ' s') (hX : ∀ a o, X a → s.heap.get? a = some o → Plainly o) :
    ∀ (a : AV) {v : Value}, VR C μ s.heap a v → VR C μ' s'.heap a v :=
  VR.mono (fun _ _ h => S.at h) fun b o e hn hp => ⟨S.notOwn hn e, S.kept b o e hn fun x => hp (hX b o x e)⟩
theorem VRs.step {C : Cx} {X : Addr → Prop} {μ μ' : Mu} {s s' : Shared} (S : Step X μ s μ' s') (hX : ∀ a o, X a → s.heap.get? a = some o → Plainly o) :
    ∀ (l : List AV) {vs : List Value}, VRs C μ s.heap l vs → VRs C μ' s'.heap l vs := VRs.of fun a _ => VR.step S hX a
structure Fm where
  env : Env
  slots : List Str
  fr : List Env
  A : Around
  wr : List Addr
noncomputable def At (F : Fm) (m : Str → Option Value) (h : Heap) (x : Str) (rv : Value) : Prop := match F.env.kindOf x with
  | some .cell => ∃ c, F.env.cells.lookup x = some c ∧ h.IsCell c (some rv)
  | _ => m x = some rv
structure Frs (C : Cx) (μ : Mu) (h : Heap) (fs : List Env) : Prop where
  fun_ : h.FunFrames C.base fs
  each : ∀ L ∈ fs.filterMap (·.frame), ¬ Own μ L ∧ ∃ o es n, h.get? L = some o ∧ o.data = .dict es n
structure FR (C : Cx) (F : Fm) (μ : Mu) (l : Loc) (h : Heap) : Prop where
  ns : ∃ m, h.Ns F.env.locals m ∧ ∀ (i : Nat) (x : Str) (v : AV), F.slots[i]? = some x → l[i]? = some (some v) → ∃ rv, At F m h x rv ∧ VR C μ h v rv
  off : ¬ Own μ F.env.locals
  new : C.base.get? F.env.locals = none
  len : l.length = F.slots.length
  cell : ∀ p ∈ F.env.cells, ¬ Own μ p.2 ∧ C.base.get? p.2 = none ∧ p.2 ≠ F.env.locals ∧ ∃ v, h.IsCell p.2 v
  frs : Frs C μ h F.fr
theorem ns_not_tuple {h : Heap} {L : Addr} {m : Str → Option Value} (hn : h.Ns L m) : ∀ o vs n, h.get? L = some o → o.data ≠ .seq vs n := by
  obtain ⟨o, es, ep, e, hd, _⟩ := hn
  intro o' vs n e' q
  rw [e] at e'; (injection e' with j1; subst j1); rw [hd] at q; injection q
theorem ns_slots {h h' : Heap} {L : Addr} {m : Str → Option Value} (hn : h.Ns L m) (k : ∀ o, h.get? L = some o → ∃ sl, h'.get? L = some { o with slots := sl }) : h'.Ns L m := by
  obtain ⟨o, es, ep, e, hd, r⟩ := hn
  obtain ⟨sl, e'⟩ := k o e
  exact ⟨_, es, ep, e', hd, r⟩
theorem Frs.moved {C : Cx} {μ μ' : Mu} {h h' : Heap} {fs : List Env} (R : Frs C μ h fs) (k : ∀ L ∈ fs.filterMap (·.frame), ¬ Own μ L → ∀ o es n, h.get? L = some o → o.data = .dict es n → ¬ Own μ' L ∧ ∃ o' es n, h'.get? L = some o' ∧ o'.data = .dict es n) : Frs C μ' h' fs := by
  obtain ⟨hf, he⟩ := R
  refine ⟨?_, fun L hL => ?_⟩
  · induction fs with
    | nil => trivial
    | cons env rest ih =>
      obtain ⟨hk, ⟨L, o, hfr, hn, ho, hd⟩, hr⟩ := hf
      rw [List.filterMap_cons, hfr] at k he
      obtain ⟨h1, o1, es, n, e1, d1⟩ := he L List.mem_cons_self
      obtain ⟨_, o', es', n', ho', hd'⟩ := k L List.mem_cons_self h1 o1 es n e1 d1
      exact ⟨hk, ⟨L, o', hfr, hn, ho', fun vs q => by rw [hd'] at q; injection q⟩, ih (fun b hb => k b (List.mem_cons_of_mem _ hb)) hr fun b hb => he b (List.mem_cons_of_mem _ hb)⟩
  · obtain ⟨hn, o, es, n, e, hd⟩ := he L hL
    exact k L hL hn o es n e hd
theorem Frs.step {C : Cx} {X : Addr → Prop} {μ μ' : Mu} {s s' : Shared} {fs : List Env} (R : Frs C μ s.heap fs) (S : Step X μ s μ' s') (hX : ∀ L ∈ fs.filterMap (·.frame), ¬ X L) : Frs C μ' s'.heap fs :=
  R.moved fun L hL hn o es n e hd => by
    obtain ⟨sl, e', _⟩ := S.kept L o e hn (hX L hL)
    exact ⟨S.notOwn hn e, _, es, n, e', hd⟩
theorem IsCell.step {X : Addr → Prop} {μ μ' : Mu} {s s' : Shared} (S : Step X μ s μ' s') {c : Addr} {v : Option Value} (h : s.heap.IsCell c v) (ho : ¬ Own μ c) (hx : ¬ X c) : s'.heap.IsCell c v := by
  obtain ⟨o, e, hd⟩ := h
  obtain ⟨sl, e', _⟩ := S.kept c o e ho hx
  exact ⟨_, e', hd⟩
theorem At.of {F : Fm} {m : Str → Option Value} {h h' : Heap} {x : Str} {rv : Value} (a : At F m h x rv) (k : ∀ c v, F.env.cells.lookup x = some c → h.IsCell c v → h'.IsCell c v) : At F m h' x rv := by
  unfold At at a ⊢
  split at a
  · obtain ⟨c, hc, hv⟩ := a
    exact ⟨c, hc, k c _ hc hv⟩
  · exact a
theorem lookup_mem {α : Type} {x : Str} {c : α} : ∀ {l : List (Str × α)}, l.lookup x = some c → ∃ p ∈ l, p.2 = c
  | [], h => by injection h
  | (y, d) :: r, h => by
    rw [List.lookup_cons] at h
    split at h
    · (injection h with j1; subst j1); exact ⟨_, List.mem_cons_self, rfl⟩
    · obtain ⟨p, hp, e⟩ := lookup_mem h
      exact ⟨p, List.mem_cons_of_mem _ hp, e⟩
theorem FR.step {C : Cx} {F : Fm} {X : Addr → Prop} {μ μ' : Mu} {s s' : Shared} {l : Loc} (R : FR C F μ l s.heap) (S : Step X μ s μ' s') (hX : ∀ a o, X a → s.heap.get? a = some o → Plainly o)
    (hL : ¬ X F.env.locals) (hC : ∀ p ∈ F.env.cells, ¬ X p.2) (hF : ∀ L ∈ F.fr.filterMap (·.frame), ¬ X L) : FR C F μ' l s'.heap := by
  obtain ⟨⟨m, hn, hv⟩, off, new, len, cell, frs⟩ := R
  refine ⟨⟨m, ns_slots hn fun o e => (S.kept _ o e off hL).elim fun sl z => ⟨sl, z.1⟩, fun i x v hi hl => ?_⟩, ?_, new, len, fun p hp => ?_, frs.step S hF⟩
  · obtain ⟨rv, e, V⟩ := hv i x v hi hl
    refine ⟨rv, e.of fun c w hc hw => ?_, V.step S hX⟩
    obtain ⟨p, hp, rfl⟩ := lookup_mem hc
    exact IsCell.step S hw (cell p hp).1 (hC p hp)
  · obtain ⟨o, _, _, e, _⟩ := hn
    exact S.notOwn off e
  · obtain ⟨c1, c2, c3, v, c4⟩ := cell p hp
    have c4' := c4
    obtain ⟨o, e, _⟩ := c4'
    exact ⟨S.notOwn c1 e, c2, c3, v, IsCell.step S c4 c1 (hC p hp)⟩
theorem noX_tuple {h : Heap} : ∀ (a : Addr) (o : Obj), NoX a → h.get? a = some o → Plainly o := fun _ _ h => h.elim
theorem FR.step0 {C : Cx} {F : Fm} {μ μ' : Mu} {s s' : Shared} {l : Loc} (R : FR C F μ l s.heap) (S : Step NoX μ s μ' s') : FR C F μ' l s'.heap := R.step S noX_tuple id (fun _ _ => id) fun _ _ => id
theorem VR.step0 {C : Cx} {μ μ' : Mu} {s s' : Shared} {a : AV} {v : Value} (S : Step NoX μ s μ' s') (h : VR C μ s.heap a v) : VR C μ' s'.heap a v := VR.step S noX_tuple a h
theorem VRs.step0 {C : Cx} {μ μ' : Mu} {s s' : Shared} {l : List AV} {vs : List Value} (S : Step NoX μ s μ' s') (h : VRs C μ s.heap l vs) : VRs C μ' s'.heap l vs := VRs.step S noX_tuple l h
structure TbAt (C : Cx) (μ : Mu) (h0 h : Heap) (x T : Addr) (ts : Array Value) (fl : Value) : Prop where
  ne : T ≠ x
  off : ¬ Own μ T
  bT : C.base.get? T = none
  fT : h0.get? T = none
  at_ : ∃ oT, h.get? T = some oT ∧ oT.cls = .type "traceback" ∧ oT.data = .fields ts
  fl : ts[3]? = some fl
inductive TbOk (C : Cx) (μ : Mu) (h0 h : Heap) (x : Addr) : Value → Prop
  | none : TbOk C μ h0 h x .none
  | at_ (T : Addr) (ts : Array Value) (fl : Value) (A : TbAt C μ h0 h x T ts fl) : TbOk C μ h0 h x (.ref T)
inductive ExO (C : Cx) (μ : Mu) (h0 h : Heap) (x : Addr) (vs : Array Value) : Prop where
  | mk (oe : Obj) (he : h.get? x = some oe) (hc : oe.cls = .ref C.ex) (hda : oe.data = .fields vs) (d : Addr) (m : Str → Option Value) (t : Tok) (hd : oe.dict = some d) (h1 : ¬ Own μ d) (h2 : C.base.get? d = Option.none) (h3 : h0.get? d = Option.none) (h4 : h.Ns d m) (h5 : m "number" = some (.int 22 t))
structure ExAt (C : Cx) (μ : Mu) (h0 h : Heap) (x : Addr) (vs : Array Value) : Prop where
  ho : ¬ Own μ x
  bx : C.base.get? x = none
  fx : h0.get? x = none
  at_ : ExO C μ h0 h x vs
inductive ExSt (C : Cx) (μ : Mu) (h0 h : Heap) : Value → Prop
  | mk (x : Addr) (vs : Array Value) (tb : Value) (A : ExAt C μ h0 h x vs) (h1 : vs[1]? = some tb) (ht : TbOk C μ h0 h x tb) : ExSt C μ h0 h (.ref x)
inductive ExIn (C : Cx) (μ : Mu) (h0 h : Heap) (fl : Value) : Value → Prop
  | mk (x : Addr) (vs : Array Value) (T : Addr) (ts : Array Value) (A : ExAt C μ h0 h x vs) (h1 : vs[1]? = some (.ref T)) (B : TbAt C μ h0 h x T ts fl) : ExIn C μ h0 h fl (.ref x)
theorem ExIn.st {C : Cx} {μ : Mu} {h0 h : Heap} {fl e : Value} (x : ExIn C μ h0 h fl e) : ExSt C μ h0 h e := by
  obtain ⟨x, vs, T, ts, A, h1, B⟩ := x
  exact .mk x vs _ A h1 (.at_ T ts fl B)
theorem ExSt.older {C : Cx} {μ : Mu} {h0 h1 h : Heap} {e : Value} (hl : ∀ a, h1.get? a = none → h0.get? a = none) (x : ExSt C μ h1 h e) : ExSt C μ h0 h e := by
  obtain ⟨x, vs, tb, ⟨a1, a2, a3, oe, b1, b2, b3, d, m, t, c1, c2, c3, c4, c5, c6⟩, h1, ht⟩ := x
  refine .mk x vs tb ⟨a1, a2, hl _ a3, oe, b1, b2, b3, d, m, t, c1, c2, c3, hl _ c4, c5, c6⟩ h1 ?_
  cases ht with
  | none => exact .none
  | at_ T ts fl B => exact .at_ T ts fl ⟨B.ne, B.off, B.bT, hl _ B.fT, B.at_, B.fl⟩
theorem Step.older {X : Addr → Prop} {μ μ' : Mu} {s s' : Shared} (S : Step X μ s μ' s') (a : Addr) (h : s'.heap.get? a = none) : s.heap.get? a = none := by
  cases e : s.heap.get? a with
  | none => rfl
  | some o => obtain ⟨o', e'⟩ := S.live a o e; rw [h] at e'; injection e'
noncomputable abbrev VRel (C : Cx) : Mu → Heap → AV → Value → Prop := fun μ h a v => VR C μ h a v
noncomputable abbrev VRels (C : Cx) : Mu → Heap → List AV → List Value → Prop := fun μ h a v => VRs C μ h a v
structure Post {α β : Type} (C : Cx) (X : Addr → Prop) (rel : Mu → Heap → α → β → Prop) (μ : Mu) (s : Shared) (r : Out α) (Q : β → Shared → Prop) (E : Value → Shared → Prop) : Prop where
  ok : ∀ μ' a H' v s', r = .ok a H' → Step X μ s μ' s' → Inv C μ' H' s'.heap → rel μ' s'.heap a v → Q v s'
  exc : ∀ μ' H' e s', r = .exc H' → Step X μ s μ' s' → Inv C μ' H' s'.heap → ExSt C μ' s.heap s'.heap e → E e s'
noncomputable def WE {α β : Type} (C : Cx) (F : Fm) (X : Addr → Prop) (rel : Mu → Heap → α → β → Prop) (t : Sem β) (r : Out α) (μ : Mu) (s : Shared) : Prop :=
  r ≠ .bad → ∀ Q E, Post C X rel μ s r Q E → wpAny (model C.prog C.w) F.A t Q E s
theorem nn {α : Type} {x : α} {P : Prop} (h : (none : Option α) = some x) : P := by injection h
theorem ff {P : Prop} (h : false = true) : P := absurd h Bool.false_ne_true
theorem at_list {H : AH} {j : Nat} {P : Prop} (h : ∀ l, H[j]? = some (.list l) → P) (h0 : (∀ l, H[j]? ≠ some (.list l)) → P) : P := by
  cases q : H[j]? with
  | none => exact h0 fun l e => nn (q.symm.trans e)
  | some o =>
    induction o using AObj.casesOn with
    | list l => exact h l q
    | _ => exact h0 fun l e => by have e := Option.some.inj (q.symm.trans e); injection e
theorem WE.bad {α β : Type} {C : Cx} {F : Fm} {X : Addr → Prop} {rel : Mu → Heap → α → β → Prop} {t : Sem β} {μ : Mu} {s : Shared} : WE C F X rel t .bad μ s := fun h => absurd rfl h
theorem Post.re {α β : Type} {C : Cx} {X Y : Addr → Prop} {rel : Mu → Heap → α → β → Prop} {μ μ₁ : Mu} {s s₁ : Shared} {r : Out α} {Q : β → Shared → Prop} {E : Value → Shared → Prop}
    (P : Post C X rel μ s r Q E) (S : Step X μ s μ₁ s₁) (hXY : ∀ a, Y a → X a ∨ s.heap.get? a = none) : Post C Y rel μ₁ s₁ r Q E :=
  ⟨fun _ _ _ _ _ e T I V => P.ok _ _ _ _ _ e (S.trans T hXY) I V, fun _ _ _ _ e T I V => P.exc _ _ _ _ e (S.trans T hXY) I (V.older S.older)⟩
section
variable {α β γ δ : Type} {C : Cx} {F : Fm} {rel : Mu → Heap → α → β → Prop} {rel' : Mu → Heap → γ → δ → Prop} {μ : Mu} {s : Shared} {t : Sem β} {r : Out α} {g : α → AH → Out γ} {Q : β → Shared → Prop} {Q₀ : δ → Shared → Prop} {E : Value → Shared → Prop}
theorem WE.bind {X : Addr → Prop} (h : WE C F NoX rel t r μ s) (hb : r.bind g ≠ .bad) (P : Post C X rel' μ s (r.bind g) Q₀ E)
    (k : ∀ μ₁ a H₁ v s₁, r = .ok a H₁ → Step NoX μ s μ₁ s₁ → Inv C μ₁ H₁ s₁.heap → rel μ₁ s₁.heap a v → g a H₁ ≠ .bad → Post C X rel' μ₁ s₁ (g a H₁) Q₀ E → Q v s₁) :
    wpAny (model C.prog C.w) F.A t Q E s := by
  refine h (fun q => hb (by rw [q]; rfl)) Q E ⟨fun μ' a H' v s' e S I V => ?_, fun μ' H' e s' q S I V => ?_⟩
  · subst e
    exact k μ' a H' v s' rfl S I V hb (P.re (S.weak fun _ h => h.elim) fun _ h => .inl h)
  · subst q
    exact P.exc μ' H' e s' rfl (S.weak fun _ h => h.elim) I V
end
end Mine
end
section
namespace Mine
open PySem PySem.W PySem.Calls PyProof.Rows
section
variable {C : Cx} {μ : Mu} {H : AH} {s : Shared}
theorem own_lt {i : Nat} {p : Addr × Addr} (h : μ[i]? = some p) : Own μ p.1 ∧ Own μ p.2 :=
  ⟨⟨p, List.mem_of_getElem? h, .inl rfl⟩, ⟨p, List.mem_of_getElem? h, .inr rfl⟩⟩
theorem OR.there {h : Heap} {o : AObj} {p : Addr × Addr} (x : OR C μ h o p) : (∃ o1, h.get? p.1 = some o1) ∧ ∃ o2, h.get? p.2 = some o2 := by
  induction o using Mine.AObj.casesOn with
  | list l => simp only [OR] at x; obtain ⟨e, _, vs, n, hl, _⟩ := x; rw [e]; exact ⟨⟨_, hl⟩, ⟨_, hl⟩⟩
  | inst c fs => simp only [OR] at x; obtain ⟨e, _, m, ⟨o, es, n, e2, _⟩, _⟩ := x; exact ⟨⟨_, e⟩, ⟨_, e2⟩⟩
  | dict n => simp only [OR] at x; obtain ⟨e, _, kvs, _, ⟨o, es, n, e2, _⟩⟩ := x; rw [e]; exact ⟨⟨_, e2⟩, ⟨_, e2⟩⟩
theorem Inv.some_of {h : Heap} (I : Inv C μ H h) {i : Nat} {p : Addr × Addr} (e : μ[i]? = some p) : ∃ o, H[i]? = some o := by
  have hi := (List.getElem?_eq_some_iff.mp e).1
  rw [I.len] at hi
  exact ⟨H[i], List.getElem?_eq_getElem hi⟩
theorem Inv.mu_of {h : Heap} (I : Inv C μ H h) {i : Nat} {o : AObj} (e : H[i]? = some o) : ∃ p, μ[i]? = some p := by
  have hi := (List.getElem?_eq_some_iff.mp e).1
  rw [← I.len] at hi
  exact ⟨μ[i], List.getElem?_eq_getElem hi⟩
theorem Inv.there {h : Heap} (I : Inv C μ H h) {a : Addr} (ha : Own μ a) : ∃ o, h.get? a = some o := by
  obtain ⟨p, hp, e⟩ := ha
  obtain ⟨i, hi⟩ := List.getElem?_of_mem hp
  obtain ⟨o, ho⟩ := I.some_of hi
  have := (I.objs i o p ho hi).there
  rcases e with rfl | rfl
  · exact this.1
  · exact this.2
theorem Inv.free {h : Heap} (I : Inv C μ H h) {a : Addr} (ha : h.get? a = none) : ¬ Own μ a := fun q => by
  obtain ⟨o, e⟩ := I.there q; rw [ha] at e; injection e
theorem size_none (h : Heap) : h.get? h.objs.size = none := by
  cases e : h.get? h.objs.size with
  | none => rfl
  | some o => exact absurd (Heap.lt_size e) (Nat.lt_irrefl _)
theorem OR.move {μ' : Mu} {h h' : Heap} {o : AObj} {p : Addr × Addr} (x : OR C μ h o p) (e1 : h'.get? p.1 = h.get? p.1) (e2 : h'.get? p.2 = h.get? p.2) (V : ∀ a v, VR C μ h a v → VR C μ' h' a v) (Vs : ∀ a v, VRs C μ h a v → VRs C μ' h' a v) : OR C μ' h' o p := by
  induction o using Mine.AObj.casesOn with
  | list l =>
    simp only [OR] at x ⊢
    obtain ⟨e, hl, vs, n, hL, hv⟩ := x
    exact ⟨e, hl, vs, n, e1.trans hL, Vs _ _ hv⟩
  | inst c fs =>
    simp only [OR] at x ⊢
    obtain ⟨e, hne, m, hn, hw, ha⟩ := x
    refine ⟨e1.trans e, hne, m, hn.at fun o q => e2.trans q, hw, fun a y hy => ?_⟩
    have := ha a y hy
    revert this
    cases lookL a fs with
    | none => exact id
    | some v => rintro ⟨rv, q, hv⟩; exact ⟨rv, q, V _ _ hv⟩
  | dict n =>
    simp only [OR] at x ⊢
    obtain ⟨e, hn, kvs, hk, ⟨o, es, ep, q, r⟩⟩ := x
    exact ⟨e, hn, kvs, hk, ⟨o, es, ep, e1.trans q, r⟩⟩
theorem Inv.moved {h h' : Heap} (I : Inv C μ H h) (hst : ∀ b o, C.base.get? b = some o → h'.get? b = some o) (he : ∀ a, Own μ a → h'.get? a = h.get? a) (V : ∀ a v, VR C μ h a v → VR C μ h' a v) : Inv C μ H h' :=
  ⟨hst, I.len, fun i o p ho hp => (I.objs i o p ho hp).move (he _ (own_lt hp).1) (he _ (own_lt hp).2) V (fun a _ => VRs.of V a), I.sep, I.new⟩
theorem Inv.same {X : Addr → Prop} {s' : Shared} (I : Inv C μ H s.heap) (S : Step X μ s μ s') (hX : ∀ a o, X a → s.heap.get? a = some o → Plainly o)
    (hst : ∀ b o, C.base.get? b = some o → s'.heap.get? b = some o) (he : ∀ a, Own μ a → s'.heap.get? a = s.heap.get? a) : Inv C μ H s'.heap :=
  ⟨hst, I.len, fun i o p ho hp => (I.objs i o p ho hp).move (he _ (own_lt hp).1) (he _ (own_lt hp).2) (fun a v h => VR.step S hX a h) (fun a v h => VRs.step S hX a h), I.sep, I.new⟩
theorem Step.push0 (I : Inv C μ H s.heap) (o : Obj) (t : Nat) : Step NoX μ s μ { s with heap := s.heap.push o, toks := t } :=
  ⟨⟨[], by simp⟩, fun _ h => .inl h, fun b x e => ⟨x, Heap.get?_push_of_some o e⟩, fun b x e _ _ => ⟨x.slots, Heap.get?_push_of_some o e, fun _ => rfl⟩, rfl, rfl⟩
theorem Inv.push0 (I : Inv C μ H s.heap) (o : Obj) : Inv C μ H (s.heap.push o) :=
  I.same (s' := { s with heap := s.heap.push o }) (Step.push0 I o s.toks) noX_tuple (fun b x e => Heap.get?_push_of_some o (I.stays b x e)) fun a ha => by
    obtain ⟨x, e⟩ := I.there ha
    rw [e]; exact Heap.get?_push_of_some o e
theorem Step.toks (μ : Mu) (s : Shared) (t : Nat) : Step NoX μ s μ { s with toks := t } :=
  ⟨⟨[], by simp⟩, fun _ h => .inl h, fun b x e => ⟨x, e⟩, fun b x e _ _ => ⟨x.slots, e, fun _ => rfl⟩, rfl, rfl⟩
theorem Inv.add {s' : Shared} {p : Addr × Addr} {o0 : AObj} (I : Inv C μ H s.heap) (S : Step NoX μ s (μ ++ [p]) s') (hst : ∀ b o, C.base.get? b = some o → s'.heap.get? b = some o)
    (he : ∀ a, Own μ a → s'.heap.get? a = s.heap.get? a) (h1 : s.heap.get? p.1 = none) (h2 : s.heap.get? p.2 = none) (ho : OR C (μ ++ [p]) s'.heap o0 p) : Inv C (μ ++ [p]) (H ++ [o0]) s'.heap := by
  have fr : ∀ {j : Nat} {q : Addr × Addr}, μ[j]? = some q → q.1 ≠ p.1 ∧ q.1 ≠ p.2 ∧ q.2 ≠ p.1 ∧ q.2 ≠ p.2 := fun {j q} hq => by
    obtain ⟨a, b⟩ := own_lt hq
    obtain ⟨x, ex⟩ := I.there a
    obtain ⟨y, ey⟩ := I.there b
    refine ⟨?_, ?_, ?_, ?_⟩ <;> intro e
    · rw [e, h1] at ex; injection ex
    · rw [e, h2] at ex; injection ex
    · rw [e, h1] at ey; injection ey
    · rw [e, h2] at ey; injection ey
  have bn : ∀ a, s.heap.get? a = none → C.base.get? a = none := fun a e => by
    cases q : C.base.get? a with
    | none => rfl
    | some o => have := I.stays a o q; rw [e] at this; injection this
  refine ⟨hst, by simp [I.len], fun i o q hi hq => ?_, fun i j q r hq hr hij => ?_, fun q hq => ?_⟩
  · rcases Nat.lt_or_ge i μ.length with hlt | hge
    · rw [List.getElem?_append_left hlt] at hq
      rw [List.getElem?_append_left (I.len ▸ hlt)] at hi
      exact (I.objs i o q hi hq).move (he _ (own_lt hq).1) (he _ (own_lt hq).2) (fun a v h => h.step0 S) fun a v h => h.step0 S
    · rw [List.getElem?_append_right hge] at hq
      rw [List.getElem?_append_right (I.len ▸ hge)] at hi
      rw [← I.len] at hi
      cases hk : i - μ.length with
      | zero =>
        rw [hk] at hq hi
        (injection hq with j1; subst j1); (injection hi with j1; subst j1); exact ho
      | succ k => rw [hk] at hq; simp at hq
  · rcases Nat.lt_or_ge i μ.length with hi | hi <;> rcases Nat.lt_or_ge j μ.length with hj | hj
    · rw [List.getElem?_append_left hi] at hq
      rw [List.getElem?_append_left hj] at hr
      exact I.sep i j q r hq hr hij
    · rw [List.getElem?_append_left hi] at hq
      rw [List.getElem?_append_right hj] at hr
      cases hk : j - μ.length with
      | zero => rw [hk] at hr; (injection hr with j1; subst j1); exact fr hq
      | succ k => rw [hk] at hr; simp at hr
    · rw [List.getElem?_append_right hi] at hq
      rw [List.getElem?_append_left hj] at hr
      cases hk : i - μ.length with
      | zero => rw [hk] at hq; (injection hq with j1; subst j1); obtain ⟨a, b, c, d⟩ := fr hr; exact ⟨a.symm, c.symm, b.symm, d.symm⟩
      | succ k => rw [hk] at hq; simp at hq
    · rw [List.getElem?_append_right hi] at hq
      rw [List.getElem?_append_right hj] at hr
      cases hk : i - μ.length with
      | zero => cases hk' : j - μ.length with
        | zero => lia
        | succ k => rw [hk'] at hr; simp at hr
      | succ k => rw [hk] at hq; simp at hq
  · rcases List.mem_append.mp hq with hq | hq
    · exact I.new q hq
    · obtain rfl := List.mem_singleton.mp hq; exact ⟨bn _ h1, bn _ h2⟩
theorem Step.upd {h' : Heap} {a : Addr} {o' : Obj} (ha : Own μ a) (hs : Heap.SameBut a s.heap h') (ho : h'.get? a = some o') (t : Nat) : Step NoX μ s μ { s with heap := h', toks := t } := by
  refine ⟨⟨[], by simp⟩, fun _ h => .inl h, fun b x e => ?_, fun b x e hn _ => ?_, rfl, rfl⟩
  · by_cases hb : b = a
    · subst hb; exact ⟨_, ho⟩
    · exact ⟨x, (hs.2 b hb).trans e⟩
  · exact ⟨x.slots, (hs.2 b fun q => hn (q ▸ ha)).trans e, fun _ => rfl⟩
theorem Inv.upd {h' : Heap} {a : Addr} {o' : Obj} {i : Nat} {p : Addr × Addr} {o0 : AObj} (I : Inv C μ H s.heap) (hp : μ[i]? = some p) (ha : a = p.1 ∨ a = p.2) (hs : Heap.SameBut a s.heap h') (ho : h'.get? a = some o')
    (hO : OR C μ h' o0 p) : Inv C μ (H.set i o0) h' := by
  have hown : Own μ a := ha.elim (fun e => e ▸ (own_lt hp).1) fun e => e ▸ (own_lt hp).2
  have S : Step NoX μ s μ { s with heap := h', toks := s.toks } := Step.upd hown hs ho s.toks
  refine ⟨fun b x e => (hs.2 b fun q => ?_).trans (I.stays b x e), by simp [I.len], fun j o q hj hq => ?_, I.sep, I.new⟩
  · obtain ⟨n1, n2⟩ := I.new p (List.mem_of_getElem? hp)
    rcases ha with rfl | rfl
    · rw [q, n1] at e; injection e
    · rw [q, n2] at e; injection e
  · by_cases hij : i = j
    · subst hij
      rw [hp] at hq; (injection hq with j1; subst j1)
      rw [List.getElem?_set_self (by have := (List.getElem?_eq_some_iff.mp hp).1; rw [← I.len]; exact this)] at hj
      (injection hj with j1; subst j1); exact hO
    · rw [List.getElem?_set_ne hij] at hj
      obtain ⟨a1, a2, a3, a4⟩ := I.sep i j p q hp hq hij
      refine (I.objs j o q hj hq).move (hs.2 _ ?_) (hs.2 _ ?_) (fun b v h => h.step0 S) fun b v h => h.step0 S
      · rcases ha with rfl | rfl
        · exact a1.symm
        · exact a3.symm
      · rcases ha with rfl | rfl
        · exact a2.symm
        · exact a4.symm
end
end Mine
end
section
namespace Mine
open PySem PySem.W PySem.Calls PyProof.Rows
theorem big_eq : sizeLine = big := by rw [sizeLine_eq]; rfl
theorem str_len (x : List Nat) : (⟨x.toArray⟩ : Str).length = x.length := by simp [Str.length]
theorem str_add (x y : List Nat) : (⟨x.toArray⟩ : Str) ++ ⟨y.toArray⟩ = ⟨(x ++ y).toArray⟩ := by
  show Str.append _ _ = _
  simp [Str.append]
theorem str_beq (x y : List Nat) : ((⟨x.toArray⟩ : Str) == ⟨y.toArray⟩) = decide (x = y) := by
  rw [Bool.eq_iff_iff]; simp
theorem str_eta (x : Str) : (⟨x.cps.toList.toArray⟩ : Str) = x := by induction x using PySem.Str.casesOn; simp
section
variable {C : Cx} {F : Fm} {μ : Mu} {H : AH} {s : Shared} {a b : AV} {v u : Value}
theorem Post.done {α β : Type} {X : Addr → Prop} {rel : Mu → Heap → α → β → Prop} {r : Out α} {Q : β → Shared → Prop} {E : Value → Shared → Prop} {x : α} {y : β} {t : Nat}
    (P : Post C X rel μ s r Q E) (e : r = .ok x H) (I : Inv C μ H s.heap) (V : rel μ s.heap x y) : Q y { s with toks := t } :=
  P.ok μ x H y _ e ((Step.toks μ s t).weak fun _ h => h.elim) I V
theorem Post.newObj {r : Out AV} {Q : Value → Shared → Prop} {E : Value → Shared → Prop} {ob : Obj} {o0 : AObj} {t : Nat}
    (P : Post C NoX (VRel C) μ s r Q E) (e : r = .ok (.ref H.length) (H ++ [o0])) (I : Inv C μ H s.heap)
    (h : Step NoX μ s (μ ++ [(s.heap.objs.size, s.heap.objs.size)]) { s with heap := s.heap.push ob, toks := t } → OR C (μ ++ [(s.heap.objs.size, s.heap.objs.size)]) (s.heap.push ob) o0 (s.heap.objs.size, s.heap.objs.size)) :
    Q (.ref s.heap.objs.size) { s with heap := s.heap.push ob, toks := t } := by
  have S : Step NoX μ s (μ ++ [(s.heap.objs.size, s.heap.objs.size)]) { s with heap := s.heap.push ob, toks := t } := by
    refine ⟨⟨_, rfl⟩, fun a h => ?_, fun b x e => ⟨x, Heap.get?_push_of_some _ e⟩, fun b x e _ _ => ⟨x.slots, Heap.get?_push_of_some _ e, fun _ => rfl⟩, rfl, rfl⟩
    obtain ⟨p, hp, q⟩ := h
    rcases List.mem_append.mp hp with hp | hp
    · exact .inl ⟨p, hp, q⟩
    · obtain rfl := List.mem_singleton.mp hp
      have : a = s.heap.objs.size := q.elim id id
      exact .inr (this ▸ size_none _)
  have I' := Inv.add (p := (s.heap.objs.size, s.heap.objs.size)) (o0 := o0) I S (fun b o q => Heap.get?_push_of_some _ (I.stays b o q)) (fun a ha => by
    obtain ⟨x, ex⟩ := I.there ha
    rw [ex]; exact Heap.get?_push_of_some _ ex) (size_none _) (size_none _) (h S)
  refine P.ok _ _ _ _ _ e S I' ?_
  simp only [VRel, VR]
  exact ⟨(s.heap.objs.size, s.heap.objs.size), by rw [← I.len]; exact List.getElem?_concat_length, rfl⟩
theorem Post.newList {r : Out AV} {Q : Value → Shared → Prop} {E : Value → Shared → Prop} {l : List AV} {vs : Array Value} {t : Nat}
    (P : Post C NoX (VRel C) μ s r Q E) (e : r = .ok (.ref H.length) (H ++ [.list l])) (I : Inv C μ H s.heap) (V : VRs C μ s.heap l vs.toList) (hl : l.length ≤ big) :
    Q (.ref s.heap.objs.size) { s with heap := s.heap.push { cls := .type "list", data := .seq vs }, toks := t } := P.newObj e I fun S => by
  simp only [OR]
  exact ⟨trivial, hl, vs, 0, IsL.new _ _, V.step0 S⟩
theorem Post.newTuple {r : Out AV} {Q : Value → Shared → Prop} {E : Value → Shared → Prop} {l : List AV} {vs : List Value} {t : Nat}
    (P : Post C NoX (VRel C) μ s r Q E) (e : r = .ok (.tup l) H) (I : Inv C μ H s.heap) (V : VRs C μ s.heap l vs) (hl : l.length ≤ big) :
    Q (.ref s.heap.objs.size) { s with heap := s.heap.push { cls := .type "tuple", data := .seq vs.toArray }, toks := t } := by
  have S := Step.push0 I { cls := .type "tuple", data := .seq vs.toArray } t
  refine P.ok _ _ _ _ _ e S (I.push0 _) ?_
  simp only [VRel, VR]
  exact ⟨hl, _, _, _, _, rfl, I.free (size_none _), Heap.get?_push_size _ rfl, rfl, rfl, V.step0 S⟩
theorem VRs.len {h : Heap} : ∀ {l : List AV} {vs : List Value}, VRs C μ h l vs → l.length = vs.length
  | [], [], _ => rfl
  | _ :: _, _ :: _, h => by simp only [VRs] at h; simp [h.2.len]
  | [], _ :: _, h => by simp only [VRs] at h
  | _ :: _, [], h => by simp only [VRs] at h
theorem VRs.append {h : Heap} : ∀ {l m : List AV} {vs us : List Value}, VRs C μ h l vs → VRs C μ h m us → VRs C μ h (l ++ m) (vs ++ us)
  | [], _, [], _, _, k => k
  | _ :: _, _, _ :: _, _, h, k => by simp only [VRs, List.cons_append] at h ⊢; exact ⟨h.1, h.2.append k⟩
  | [], _, _ :: _, _, h, _ => by simp only [VRs] at h
  | _ :: _, _, [], _, h, _ => by simp only [VRs] at h
theorem VRs.get {h : Heap} : ∀ {l : List AV} {vs : List Value} {k : Nat} {x : AV}, VRs C μ h l vs → l[k]? = some x → ∃ y, vs[k]? = some y ∧ VR C μ h x y
  | a :: _, v :: _, 0, x, h, e => by simp only [VRs] at h; simp at e; subst e; exact ⟨v, rfl, h.1⟩
  | _ :: l, _ :: vs, k + 1, x, h, e => by simp only [VRs] at h; simp at e ⊢; exact h.2.get e
  | [], [], _, _, _, e => by simp at e
  | [], _ :: _, _, _, h, _ => by simp only [VRs] at h
  | _ :: _, [], _, _, h, _ => by simp only [VRs] at h
theorem VRs.take {h : Heap} : ∀ {l : List AV} {vs : List Value} (k : Nat), VRs C μ h l vs → VRs C μ h (l.take k) (vs.take k)
  | [], [], _, _ => by simp [VRs]
  | _ :: _, _ :: _, 0, _ => by simp [VRs]
  | _ :: _, _ :: _, k + 1, h => by simp only [VRs, List.take_succ_cons] at h ⊢; exact ⟨h.1, h.2.take k⟩
  | [], _ :: _, _, h => by simp only [VRs] at h
  | _ :: _, [], _, h => by simp only [VRs] at h
theorem VRs.drop {h : Heap} : ∀ {l : List AV} {vs : List Value} (k : Nat), VRs C μ h l vs → VRs C μ h (l.drop k) (vs.drop k)
  | [], [], _, _ => by simp [VRs]
  | _ :: _, _ :: _, 0, h => h
  | _ :: _, _ :: _, k + 1, h => by simp only [VRs, List.drop_succ_cons] at h ⊢; exact h.2.drop k
  | [], _ :: _, _, h => by simp only [VRs] at h
  | _ :: _, [], _, h => by simp only [VRs] at h
theorem VRs.rev {h : Heap} : ∀ {l : List AV} {vs : List Value}, VRs C μ h l vs → VRs C μ h l.reverse vs.reverse
  | [], [], _ => by simp [VRs]
  | _ :: _, _ :: _, h => by simp only [VRs, List.reverse_cons] at h ⊢; exact h.2.rev.append (by simpa only [VRs, and_true] using h.1)
  | [], _ :: _, h => by simp only [VRs] at h
  | _ :: _, [], h => by simp only [VRs] at h
theorem VRs.set {h : Heap} {x : AV} {y : Value} (V : VR C μ h x y) : ∀ {l : List AV} {vs : List Value} (k : Nat), VRs C μ h l vs → VRs C μ h (l.set k x) (vs.set k y)
  | [], [], _, _ => by simp [VRs]
  | _ :: _, _ :: _, 0, h => by simp only [VRs, List.set_cons_zero] at h ⊢; exact ⟨V, h.2⟩
  | _ :: _, _ :: _, k + 1, h => by simp only [VRs, List.set_cons_succ] at h ⊢; exact ⟨h.1, VRs.set V k h.2⟩
  | [], _ :: _, _, h => by simp only [VRs] at h
  | _ :: _, [], _, h => by simp only [VRs] at h
inductive Inv_listR (C : Cx) (μ : Mu) (v : Value) (h : Heap) (i : Nat) (l : List AV) : Prop where
  | mk (p : Addr × Addr) (vs : Array Value) (n : Nat) (zc1 : μ[i]? = some p) (zc2 : v = .ref p.1) (zc3 : p.2 = p.1) (zc4 : IsL h p.1 vs n) (zc5 : VRs C μ h l vs.toList) (zc6 : l.length ≤ big)
theorem Inv.list {h : Heap} (I : Inv C μ H h) {i : Nat} {l : List AV} (e : H[i]? = some (.list l)) (V : VR C μ h (.ref i) v) :
    Inv_listR C μ v h i l := by
  simp only [VR] at V
  obtain ⟨p, hp, rfl⟩ := V
  have := I.objs i _ p e hp
  simp only [OR] at this
  obtain ⟨e1, hl, vs, n, hL, hv⟩ := this
  exact ⟨p, vs, n, hp, rfl, e1, hL, hv, hl⟩
theorem catV_list {i j : Nat} {x y : List AV} (hx : H[i]? = some (.list x)) (hy : H[j]? = some (.list y)) : catV H i j = if x.length + y.length ≤ big then .ok (.ref H.length) (H ++ [.list (x ++ y)]) else .bad := by
  unfold catV
  rw [hx, hy]
set_option tactic.hygienic true
theorem catV_bad {i j : Nat} (h : ∀ x y, H[i]? = some (.list x) → H[j]? ≠ some (.list y)) : catV H i j = .bad := by
  unfold catV
  split
  · rename_i x y hx hy; exact absurd hy (h x y hx)
  · rfl
set_option tactic.hygienic false
theorem cat_snd {i j : Nat} (I : Inv C μ H s.heap) (va : VR C μ s.heap (.ref i) v) (vb : VR C μ s.heap (.ref j) u) : WE C F NoX (VRel C) (binaryOp .Add v u) (catV H i j) μ s := by
  refine at_list (H := H) (j := i) (fun x hx => at_list (H := H) (j := j) (fun y hy => ?_) fun h => by rw [catV_bad fun _ y _ => h y]; exact WE.bad) fun h => by rw [catV_bad fun x _ e => absurd e (h x)]; exact WE.bad
  rw [catV_list hx hy]
  by_cases hz : x.length + y.length ≤ big
  · rw [if_pos hz]
    intro hb Q E P
    obtain ⟨p, vs, n, hp, rfl, e1, hL, hv, hl⟩ := I.list hx va
    obtain ⟨q, us, m, hq, rfl, f1, hM, hu, hm⟩ := I.list hy vb
    have z1 := hv.len
    have z2 := hu.len
    simp only [Array.length_toList] at z1 z2
    exact PySem.P.add_list hL hM (P.newList (t := s.toks) rfl I (by rw [Array.toList_append]; exact hv.append hu) (by rw [List.length_append]; exact hz)) (by rw [big_eq, ← z1, ← z2]; exact hz)
  · rw [if_neg hz]; exact WE.bad
theorem add_snd (I : Inv C μ H s.heap) (va : VR C μ s.heap a v) (vb : VR C μ s.heap b u) : WE C F NoX (VRel C) (binaryOp .Add v u) (addV H a b) μ s := by
  induction a using AV.casesOn with
  | int x =>
    induction b using AV.casesOn with
    | int y =>
      simp only [VR] at va vb
      obtain ⟨t, rfl⟩ := va; obtain ⟨t', rfl⟩ := vb
      intro hb Q E P
      exact wpAny_add_int (P.done rfl I (by simp only [VRel, VR]; exact ⟨_, rfl⟩))
    | _ => exact WE.bad
  | str x =>
    induction b using AV.casesOn with
    | str y =>
      simp only [VR] at va vb
      obtain ⟨h1, t, rfl⟩ := va; obtain ⟨h2, t', rfl⟩ := vb
      intro hb Q E P
      by_cases hy : x.length + y.length ≤ big
      · refine PyProof.Rows.add_str (fun t tk => P.done (if_pos hy) I ?_) (by rw [big_eq, str_len, str_len]; exact hy)
        simp only [VRel, VR]
        exact ⟨by rw [List.length_append]; exact hy, t, by rw [str_add]⟩
      · exact absurd (if_neg hy) hb
    | _ => exact WE.bad
  | ref i =>
    induction b using AV.casesOn with
    | ref j => exact cat_snd I va vb
    | _ => exact WE.bad
  | _ => exact WE.bad
theorem bin_snd {op : Operator} (I : Inv C μ H s.heap) (va : VR C μ s.heap a v) (vb : VR C μ s.heap b u) : WE C F NoX (VRel C) (binaryOp op v u) (binV H op a b) μ s := by
  induction op using PySem.Operator.casesOn with
  | Add => exact add_snd I va vb
  | Sub =>
    induction a using AV.casesOn with
    | int x =>
      induction b using AV.casesOn with
      | int y =>
        simp only [VR] at va vb
        obtain ⟨t, rfl⟩ := va; obtain ⟨t', rfl⟩ := vb
        intro hb Q E P
        exact PyProof.Rows.sub_int (P.done rfl I (by simp only [VRel, VR]; exact ⟨_, rfl⟩))
      | _ => exact WE.bad
    | _ => exact WE.bad
  | Mod =>
    induction a using AV.casesOn with
    | int x =>
      induction b using AV.casesOn with
      | int y =>
        simp only [VR] at va vb
        obtain ⟨t, rfl⟩ := va; obtain ⟨t', rfl⟩ := vb
        intro hb Q E P
        by_cases hy : 0 < y
        · exact PyProof.Rows.mod_int (by lia) (P.done (if_pos hy) I (by simp only [VRel, VR]; rw [Int.fmod_eq_emod_of_nonneg _ (by lia)]; exact ⟨_, rfl⟩))
        · exact absurd (if_neg hy) hb
      | _ => exact WE.bad
    | _ => exact WE.bad
  | _ => exact WE.bad
end
end Mine
end
section
namespace Mine
open PySem PySem.W PySem.Calls PyProof.Rows
inductive PartIs : AV → Option Int → Prop where
  | none : PartIs .none none
  | int (i : Int) : PartIs (.int i) (some i)
theorem clip_nat (n : Nat) (i : Int) (h : 0 ≤ i) : clipAt n i = min i.toNat n := by
  obtain ⟨k, rfl⟩ := Int.eq_ofNat_of_zero_le h
  unfold clipAt
  rw [if_neg (Int.not_lt.mpr h), Int.max_eq_right (Int.le_min.mpr ⟨h, Int.natCast_nonneg n⟩)]
  show (min (k : Int) n).toNat = min k n
  rcases Nat.le_total k n with q | q
  · rw [Int.min_eq_left (Int.ofNat_le.mpr q), Nat.min_eq_left q]; rfl
  · rw [Int.min_eq_right (Int.ofNat_le.mpr q), Nat.min_eq_right q]; rfl
noncomputable def pickL {α : Type} (l : List α) (lo hi st : Option Int) : List α :=
  (sliceRange (sliceBounds lo hi st l.length).1 (sliceBounds lo hi st l.length).2.1 (sliceBounds lo hi st l.length).2.2).filterMap (l[·]?)
theorem pick_plain {α : Type} (l : List α) (lo hi : Option Int) : pickL l lo hi none = (l.drop (lo.elim 0 (clipAt l.length))).take (hi.elim l.length (clipAt l.length) - lo.elim 0 (clipAt l.length)) := by
  unfold pickL
  rw [sliceBounds_plain]
  dsimp only
  rw [sliceRange_one]
  have := pick_run l.toArray (lo.elim 0 (clipAt l.length)) (hi.elim l.length (clipAt l.length) - lo.elim 0 (clipAt l.length))
  simpa using this
theorem pick_rev {α : Type} (l : List α) : pickL l none none (some (-1)) = l.reverse := by
  unfold pickL
  rw [krv_bounds]
  dsimp only
  rw [krv_sliceRange, krv_range, List.filterMap_reverse]
  have := krv_all l.toArray
  simp only [List.size_toArray, List.getElem?_toArray] at this
  rw [this]
theorem range_down (n : Nat) (h : 0 < n) : sliceRange ((n : Int) - 1) 0 (-1) = (List.range (n - 1)).map fun k => n - 1 - k := by
  unfold sliceRange
  have h1 : ¬ ((-1 : Int) > 0) := by decide
  by_cases h2 : (n : Int) - 1 > 0
  · have e : ((n : Int) - 1 - 0 - -1 - 1) / (- -1) = ((n - 1 : Nat) : Int) := by rw [show (- -1 : Int) = 1 by decide, Int.ediv_one]; lia
    simp only [h1, if_false, h2, if_true, e, Int.toNat_natCast]
    apply List.map_congr_left
    intro k hk
    have := List.mem_range.mp hk
    lia
  · have e : n = 1 := by lia
    subst e; simp
theorem pick_down {α : Type} (l : List α) : pickL l none (some 0) (some (-1)) = (l.drop 1).reverse := by
  induction l using List.casesOn with
  | nil => rfl
  | cons x r =>
    unfold pickL
    have e : sliceBounds none (some 0) (some (-1)) (x :: r).length = (((x :: r).length : Int) - 1, 0, -1) := by
      simp only [sliceBounds, Option.getD_some]
      rw [if_neg (by decide), if_neg (by decide)]
      congr 2
      simp only [List.length_cons]; lia
    rw [e]
    dsimp only
    rw [range_down _ (by simp)]
    rw [List.drop_succ_cons, List.drop_zero]
    have key : ((List.range ((x :: r).length - 1)).map fun k => (x :: r).length - 1 - k) = ((List.range r.length).map fun k => k + 1).reverse := by
      apply List.ext_getElem
      · simp
      · intro i h1 h2
        simp at h1 h2 ⊢
        lia
    rw [key, List.filterMap_reverse, List.filterMap_map]
    have := krv_all r.toArray
    simp only [List.size_toArray, List.getElem?_toArray] at this
    have e2 : ((fun x_1 => (x :: r)[x_1]?) ∘ fun k => k + 1) = fun k => r[k]? := by funext k; simp
    rw [e2, this]
theorem slicePick_eq (vs : Array Value) (lo hi st : Option Int) : (slicePick vs lo hi st).toList = pickL vs.toList lo hi st := by
  unfold slicePick pickL
  simp
set_option tactic.hygienic true
theorem natOf_int {a : AV} {k : Nat} (h : natOf a = some k) : ∃ i, a = .int i ∧ 0 ≤ i ∧ i.toNat = k := by
  induction a using Mine.AV.casesOn <;> first | (injection h; done) | skip
  rename_i i
  by_cases h0 : 0 ≤ i
  · rw [natOf, if_pos h0] at h; (injection h with j1; subst j1); exact ⟨i, rfl, h0, rfl⟩
  · rw [natOf, if_neg h0] at h; injection h
set_option tactic.hygienic false
theorem pick_all {α : Type} (l : List α) : pickL l none none none = l := by
  rw [pick_plain]
  show (l.drop 0).take (l.length - 0) = l
  rw [List.drop_zero, Nat.sub_zero, List.take_length]
theorem pick_take {α : Type} (l : List α) {j : Int} (h : 0 ≤ j) : pickL l none (some j) none = l.take j.toNat := by
  rw [pick_plain]
  show (l.drop 0).take (clipAt l.length j - 0) = _
  rw [List.drop_zero, Nat.sub_zero, clip_nat _ _ h, kmk_take_min]
theorem pick_drop {α : Type} (l : List α) {i : Int} (h : 0 ≤ i) : pickL l (some i) none none = l.drop i.toNat := by
  rw [pick_plain]
  show (l.drop (clipAt l.length i)).take (l.length - clipAt l.length i) = _
  rw [clip_nat _ _ h, ← List.length_drop, List.take_length]
  rcases Nat.le_total i.toNat l.length with q | q
  · rw [Nat.min_eq_left q]
  · rw [Nat.min_eq_right q, List.drop_length, List.drop_eq_nil_of_le q]
theorem pick_some {α : Type} (l : List α) {i j : Int} (h : 0 ≤ i) (h' : 0 ≤ j) : pickL l (some i) (some j) none = (l.take j.toNat).drop i.toNat := by
  rw [pick_plain]
  show (l.drop (clipAt l.length i)).take (clipAt l.length j - clipAt l.length i) = _
  rw [clip_nat _ _ h, clip_nat _ _ h', List.drop_take]
  rcases Nat.le_total i.toNat l.length with q | q
  · rw [Nat.min_eq_left q, ← Nat.sub_min_sub_right, ← List.length_drop, kmk_take_min]
  · rw [Nat.min_eq_right q, List.drop_length, List.drop_eq_nil_of_le q, List.take_nil, List.take_nil]
theorem partN_ok {a : AV} {x : Option Nat} (e : partN a = some x) : (a = .none ∧ x = none) ∨ ∃ i, a = .int i ∧ 0 ≤ i ∧ x = some i.toNat := by
  induction a using AV.casesOn with
  | none => exact .inl ⟨rfl, (Option.some.inj e).symm⟩
  | int i =>
    have e : (if 0 ≤ i then some (some i.toNat) else none) = some x := e
    by_cases h0 : 0 ≤ i
    · rw [if_pos h0] at e; exact .inr ⟨i, rfl, h0, (Option.some.inj e).symm⟩
    · rw [if_neg h0] at e; exact nn e
  | _ => exact nn e
theorem stK_ok {a : AV} {b : Bool} (e : stK a = some b) : (a = .none ∧ b = true) ∨ (a = .int (-1) ∧ b = false) := by
  induction a using AV.casesOn with
  | none => exact .inl ⟨rfl, (Option.some.inj e).symm⟩
  | int i =>
    have e : (if i = -1 then some false else none) = some b := e
    by_cases h0 : i = -1
    · rw [if_pos h0] at e; subst h0; exact .inr ⟨rfl, (Option.some.inj e).symm⟩
    · rw [if_neg h0] at e; exact nn e
  | _ => exact nn e
inductive Sk_okR (lo : AV) (hi : AV) (st : AV) (k : SK) : Prop where
  | mk (x : Option Int) (y : Option Int) (z : Option Int) (zc1 : PartIs lo x) (zc2 : PartIs hi y) (zc3 : PartIs st z) (zc4 : z ≠ some 0) (zc5 : ∀ {α : Type} (l : List α), pickL l x y z = k.ap l)
theorem sk_fwd {lo hi : AV} {x y : Option Nat} (hx : partN lo = some x) (hy : partN hi = some y) : Sk_okR lo hi .none (SK.of x y) := by
  have n0 : (none : Option Int) ≠ some 0 := fun e => nn e
  rcases partN_ok hx with ⟨rfl, rfl⟩ | ⟨i, rfl, h0, rfl⟩
  · rcases partN_ok hy with ⟨rfl, rfl⟩ | ⟨j, rfl, h1, rfl⟩
    · exact ⟨_, _, _, .none, .none, .none, n0, pick_all⟩
    · exact ⟨_, _, _, .none, .int j, .none, n0, fun l => pick_take l h1⟩
  · rcases partN_ok hy with ⟨rfl, rfl⟩ | ⟨j, rfl, h1, rfl⟩
    · exact ⟨_, _, _, .int i, .none, .none, n0, fun l => pick_drop l h0⟩
    · exact ⟨_, _, _, .int i, .int j, .none, n0, fun l => pick_some l h0 h1⟩
theorem sk_ok {lo hi st : AV} {k : SK} (e : skOf lo hi st = some k) : Sk_okR lo hi st k := by
  obtain ⟨x, hx, e⟩ := Option.bind_eq_some_iff.mp e
  obtain ⟨y, hy, e⟩ := Option.bind_eq_some_iff.mp e
  obtain ⟨p, hp, e⟩ := Option.bind_eq_some_iff.mp e
  rcases stK_ok hp with ⟨rfl, rfl⟩ | ⟨rfl, rfl⟩
  · obtain rfl : SK.of x y = k := Option.some.inj e
    exact sk_fwd hx hy
  · have e : SK.back x y = some k := e
    have n1 : some (-1 : Int) ≠ some 0 := fun e => absurd (Option.some.inj e) (by decide)
    rcases partN_ok hx with ⟨rfl, rfl⟩ | ⟨i, rfl, h0, rfl⟩
    · rcases partN_ok hy with ⟨rfl, rfl⟩ | ⟨j, rfl, h1, rfl⟩
      · obtain rfl := Option.some.inj (show some SK.rev = some k from e); exact ⟨_, _, _, .none, .none, .int _, n1, pick_rev⟩
      · obtain ⟨n, rfl⟩ := Int.eq_ofNat_of_zero_le h1
        rcases n with _ | n
        · obtain rfl := Option.some.inj (show some SK.down = some k from e); exact ⟨_, _, _, .none, .int _, .int _, n1, pick_down⟩
        · exact nn e
    · exact nn e
theorem SK.rel {C : Cx} {μ : Mu} {h : Heap} {l : List AV} {vs : List Value} (k : SK) (V : VRs C μ h l vs) : VRs C μ h (k.ap l) (k.ap vs) := match k with
  | .all => V
  | .take b => V.take b
  | .drop a => V.drop a
  | .run a b => (V.take b).drop a
  | .rev => V.rev
  | .down => (V.drop 1).rev
theorem SK.len {α : Type} (k : SK) (l : List α) : (k.ap l).length ≤ l.length := match k with
  | .all => Nat.le_refl _
  | .take b => List.length_take_le' b l
  | .drop a => List.length_drop ▸ Nat.sub_le _ _
  | .run a b => Nat.le_trans (List.length_drop ▸ Nat.sub_le _ _) (List.length_take_le' b l)
  | .rev => Nat.le_of_eq List.length_reverse
  | .down => Nat.le_trans (Nat.le_of_eq List.length_reverse) (List.length_drop ▸ Nat.sub_le _ _)
theorem SK.map {α β : Type} (f : α → β) (k : SK) (l : List α) : k.ap (l.map f) = (k.ap l).map f := match k with
  | .all => rfl
  | .take b => List.map_take.symm
  | .drop a => List.map_drop.symm
  | .run a b => by show ((l.map f).take b).drop a = _; rw [← List.map_take, ← List.map_drop]; rfl
  | .rev => List.map_reverse.symm
  | .down => by show ((l.map f).drop 1).reverse = _; rw [← List.map_drop, ← List.map_reverse]; rfl
end Mine
end
section
namespace Mine
open PySem PySem.W PySem.Calls PyProof.Rows Builtin Builtin.ObjectAttr
structure FldOk (K : Frag) (C : Addr) (x : Str) : Prop where
  get : plainGet K C x = true
  dict : hasDictIn K C = true
  none : findIn K (.ref C) x = some none
  over : plainOver K C = true
  set : findIn K (.ref C) "__setattr__" = some (some (.builtin "object.__setattr__"))
structure Good (C : Cx) (P : P0) : Prop where
  X : C.K.In C.base
  fld : ∀ c a x, P.fld c a = true → C.nm[a]? = some x → FldOk C.K (C.clA c) x
  fldN : ∀ c a, P.fld c a = true → ∃ x, C.nm[a]? = some x
  nodup : C.nm.Nodup
  nmlen : C.nm.length ≤ 1000
theorem lookIn_ns {o : Obj} {es : Array DictEntry} {n : Nat} (hd : o.data = .dict es n) (hk : StrKeys es) (x : Str) : lookIn x o = some (nsFind es x) := by
  unfold lookIn
  rw [hd]
  have nf : nsFind es x = (es.toList.find? (·.key.isStr x)).map (·.val) := by
    unfold nsFind findBy
    rw [← Array.find?_toList]
  rw [nf]
  dsimp only
  cases q : es.toList.find? (·.key.isStr x) with
  | some e => rfl
  | none =>
    have : es.toList.any (·.refKey) = false := by
      rw [Array.any_toList, Array.any_eq_false']; intro e he; obtain ⟨k, t, h⟩ := hk e he; simp [DictEntry.refKey, h]
    simp only [this, Option.map_none]
    rfl
section
variable {C : Cx} {P : P0} {F : Fm} {μ : Mu} {H : AH} {s : Shared} {a b : AV} {v u : Value}
theorem Inv.inK {h : Heap} (I : Inv C μ H h) (G : Good C P) : C.K.In h := G.X.keeps I.stays
inductive Inv_instR (C : Cx) (μ : Mu) (v : Value) (h : Heap) (i : Nat) (c : Nat) (fs : List (Nat × AV)) : Prop where
  | mk (p : Addr × Addr) (m : Str → Option Value) (od : Obj) (zc1 : μ[i]? = some p) (zc2 : v = .ref p.1) (zc3 : h.get? p.1 = some (instObj (C.clA c) p.2)) (zc4 : p.1 ≠ p.2) (zc5 : h.Ns1 p.2 m) (zc6 : h.get? p.2 = some od) (zc7 : (∀ x, lookIn x od = some (m x))) (zc8 : (∀ y, m y ≠ none → y ∈ C.nm)) (zc9 : InstAt h p.1 (instObj (C.clA c) p.2) (C.clA c) (some od)) (zc10 : ∀ a x, C.nm[a]? = some x → match lookL a fs with | some v => ∃ rv, m x = some rv ∧ VR C μ h v rv | none => m x = none)
theorem Inv.inst {h : Heap} (I : Inv C μ H h) {i c : Nat} {fs : List (Nat × AV)} (e : H[i]? = some (.inst c fs)) (V : VR C μ h (.ref i) v) :
    Inv_instR C μ v h i c fs := by
  simp only [VR] at V
  obtain ⟨p, hp, rfl⟩ := V
  have := I.objs i _ p e hp
  simp only [OR] at this
  obtain ⟨e1, hne, m, hn, hw, ha⟩ := this
  obtain ⟨od, es, n, e2, hd, hk, hu, hm⟩ := id hn
  exact ⟨p, m, od, hp, rfl, e1, hne, hn, e2, fun x => by rw [lookIn_ns hd hk x, hm x], hw, ⟨e1, rfl, rfl, e2⟩, ha⟩
set_option tactic.hygienic true
theorem handed_of {C : Cx} {μ : Mu} {h : Heap} {a : AV} {v : Value} (V : VR C μ h a v) : handedIn v = true := by
  induction a using Mine.AV.casesOn <;> simp only [VR] at V
  · subst V; rfl
  · subst V; rfl
  · obtain ⟨t, rfl⟩ := V; rfl
  · obtain ⟨_, t, rfl⟩ := V; rfl
  · obtain ⟨_, a, o, vs, n, rfl, _⟩ := V; rfl
  · obtain ⟨p, _, rfl⟩ := V; rfl
  · subst V; rfl
  · subst V; rfl
  · rename_i b; subst V; induction b using Mine.Bi.casesOn <;> first | rfl | decide +kernel
  · obtain ⟨_, a, vs, rfl, _⟩ := V; rfl
  · obtain ⟨_, r, t, u, w, rfl, _⟩ := V; rfl
set_option tactic.hygienic false
theorem attrV_in {ai : Nat} {r : AV} (h : attrV P.fld H a ai = some r) : ∃ i c fs, a = .ref i ∧ H[i]? = some (.inst c fs) ∧ P.fld c ai = true ∧ lookL ai fs = some r := by
  induction a using AV.casesOn with
  | ref i =>
    have h : (match H[i]? with | some (.inst c fs) => if P.fld c ai = true then lookL ai fs else none | _ => none) = some r := h
    cases q : H[i]? with
    | none => rw [q] at h; exact nn h
    | some o =>
      rw [q] at h
      induction o using AObj.casesOn with
      | inst c fs =>
        have h : (if P.fld c ai = true then lookL ai fs else none) = some r := h
        by_cases hf : P.fld c ai = true
        · rw [if_pos hf] at h; exact ⟨i, c, fs, rfl, q, hf, h⟩
        · rw [if_neg hf] at h; exact nn h
      | _ => exact nn h
  | _ => exact nn h
theorem attr_snd {x : Str} {ai : Nat} {expr : Bool} (G : Good C P) (I : Inv C μ H s.heap) (V : VR C μ s.heap a v) (hx : C.nm[ai]? = some x) :
    WE C F NoX (VRel C) (getAttr v x expr) (match attrV P.fld H a ai with | some r => .ok r H | none => .bad) μ s := by
  cases hi : attrV P.fld H a ai with
  | none => exact WE.bad
  | some r =>
    intro hb Q E Po
    obtain ⟨i, c, fs, rfl, hc, hf, hi⟩ := attrV_in hi
    obtain ⟨p, m, od, hp, rfl, e1, hne, hn, e2, hlk, hw, IA, ha⟩ := I.inst hc V
    have := ha ai x hx
    rw [hi] at this
    obtain ⟨rv, hm, hv⟩ := this
    have K := G.fld c ai x hf hx
    have hga := plainGet_of K.get
    refine get_value (I.inK G) IA hga.1 (findObj_own K.dict K.none rfl (by rw [hlk, hm])) (handed_of hv) ?_
    exact Po.done rfl I hv
theorem setL_look {ai aj : Nat} {r : AV} : ∀ {fs : List (Nat × AV)}, lookL aj (setL ai r fs) = if aj = ai then some r else lookL aj fs
  | [] => by simp [setL, lookL]
  | (k, w) :: fs => by
    unfold setL
    by_cases h : ai = k
    · subst h; simp only [if_true, lookL]; split <;> simp_all
    · rw [if_neg h]
      simp only [lookL]
      rw [setL_look]
      by_cases h2 : aj = k
      · subst h2; simp only [if_true]; rw [if_neg (fun e => h e.symm)]
      · simp [h2]
theorem put_or {x y : Str} {ai aj : Nat} {r : AV} {rv : Value} {fs : List (Nat × AV)} {m : Str → Option Value} {μ' : Mu} {s' : Shared} (G : Good C P) (hx : C.nm[ai]? = some x)
    (ha : ∀ a x, C.nm[a]? = some x → match lookL a fs with | some v => ∃ rv, m x = some rv ∧ VR C μ s.heap v rv | none => m x = none) (Vr : VR C μ s.heap r rv) (S : Step NoX μ s μ' s') (hy : C.nm[aj]? = some y) :
    match lookL aj (setL ai r fs) with | some v => ∃ rv', (if y = x then some rv else m y) = some rv' ∧ VR C μ' s'.heap v rv' | none => (if y = x then some rv else m y) = none := by
  rw [setL_look]
  by_cases e : aj = ai
  · subst e
    rw [hx] at hy; (injection hy with j1; subst j1)
    simp only [if_true]
    exact ⟨rv, rfl, Vr.step0 S⟩
  · simp only [if_neg e]
    have hxy : y ≠ x := fun q => by
      subst q
      have l1 := (List.getElem?_eq_some_iff.mp hy)
      have l2 := (List.getElem?_eq_some_iff.mp hx)
      exact e ((List.getElem_inj G.nodup).mp (l1.2.trans l2.2.symm))
    have := ha aj y hy
    revert this
    cases lookL aj fs with
    | none => intro q; rw [if_neg hxy]; exact q
    | some w => rintro ⟨rv', q, hv⟩; exact ⟨rv', by rw [if_neg hxy]; exact q, hv.step0 S⟩
theorem put_snd {x : Str} {ai : Nat} {r : AV} {rv : Value} {H' : AH} {Q : Unit → Shared → Prop} {E : Value → Shared → Prop} (G : Good C P) (I : Inv C μ H s.heap) (V : VR C μ s.heap a v) (Vr : VR C μ s.heap r rv) (hx : C.nm[ai]? = some x)
    (hp : putA P.fld H a ai r = some H') (h : ∀ s', Step NoX μ s μ s' → Inv C μ H' s'.heap → Q () s') : wpAny (model C.prog C.w) F.A (setAttr v x rv) Q E s := by
  induction a using AV.casesOn with
  | ref i =>
    have hp : (match H[i]? with | some (.inst c fs) => if P.fld c ai = true then some (H.set i (.inst c (setL ai r fs))) else none | _ => none) = some H' := hp
    cases hi : H[i]? with
    | none => rw [hi] at hp; exact nn hp
    | some o =>
      rw [hi] at hp
      induction o using AObj.casesOn with
      | inst c fs =>
        have hp : (if P.fld c ai = true then some (H.set i (.inst c (setL ai r fs))) else none) = some H' := hp
        by_cases hf : P.fld c ai = true
        · rw [if_pos hf] at hp
          obtain rfl := Option.some.inj hp
          clear hp
          obtain ⟨p, m, od, hp, rfl, e1, hne, hn, e2, hlk, hw, IA, ha⟩ := I.inst hi V
          have K := G.fld c ai x hf hx
          have hd := K.dict
          have X := I.inK G
          refine set_plain X IA K.set (osa_open (s := { s with toks := s.toks + 1 }) X IA K.over (r := none) (by unfold takerIn; rw [K.none]; rfl) fun b => ?_)
          obtain ⟨cd, hc, hd'⟩ := any_some hd
          unfold storeInOwnDict
          refine wpAny_bind (wpAny_pure (wpAny_bind ?_))
          refine wpAny_bind (wpAny_loadPart (s := { s with toks := s.toks + 1 }) e1 (wpAny_bind (Looks.here (s := { s with toks := s.toks + 1 }) (looks_clsIn X hc) ?_)))
          rw [hd']
          refine wpAny_pure (a := some p.2) ?_
          show wpAny _ _ (storeInDict p.2 (.str x s.toks) x rv) _ _ _
          unfold storeInDict newKeyGuard
          refine wpAny_bind (wpAny_pure (wpAny_bind (wpAny_nsSet1 hn fun h' hn' hs => ?_)))
          have hw' : Within (fun y => if y = x then some rv else m y) C.nm := by
            intro y hy
            by_cases e : y = x
            · subst e; exact List.mem_of_getElem? hx
            · simp only [if_neg e] at hy; exact hw y hy
          obtain ⟨oD, esD, epD, hoD, hdD, hcD⟩ := hn'.count hw'
          refine wpAny_bind (wpAny_lookBehind hoD (by rw [hdD]; exact pastItsLine_dict (Nat.le_trans hcD (by have := G.nmlen; rw [sizeLine_eq]; lia))) ?_)
          refine wpAny_pure ?_
          have hown : Own μ p.2 := (own_lt hp).2
          have S : Step NoX μ s μ { s with heap := h', toks := s.toks + 1 + 1 } := Step.upd (s := s) hown hs hoD _
          refine h _ S ?_
          refine I.upd hp (.inr rfl) hs hoD ?_
          simp only [OR]
          refine ⟨(hs.2 _ hne).trans e1, hne, _, hn', hw', fun aj y hy => ?_⟩
          exact put_or G hx ha Vr S hy
        · rw [if_neg hf] at hp; exact nn hp
      | _ => exact nn hp
  | _ => exact nn hp
theorem seqIdx {i : Int} {n k : Nat} (h0 : 0 ≤ i) (hk : i.toNat = k) (h : k < n) : seqIndex? i n = some k := by
  unfold seqIndex?
  have : ¬ i < 0 := by lia
  simp only [this, if_false]
  rw [if_pos (by simp; lia), hk]
theorem small_lo {z : Int} (h : 0 ≤ z) : -(2 ^ 63) ≤ z := Int.le_trans (by decide) h
theorem small_hi {z : Int} (h : z.toNat < 2 ^ 62) : z < 2 ^ 63 := by lia
inductive Tuple_ofR (C : Cx) (μ : Mu) (v : Value) (h : Heap) (l : List AV) : Prop where
  | mk (t : Addr) (items : Array Value) (zc1 : v = .ref t) (zc2 : IsTup h t items) (zc3 : VRs C μ h l items.toList) (zc4 : l.length ≤ big) (zc5 : ¬ Own μ t)
theorem tuple_of {h : Heap} {l : List AV} (V : VR C μ h (.tup l) v) : Tuple_ofR C μ v h l := by
  simp only [VR] at V
  obtain ⟨hl, a, o, vs, n, rfl, ho, e, hc, hd, hv⟩ := V
  exact ⟨a, vs, rfl, ⟨o, e, hc, n, hd⟩, hv, hl, ho⟩
theorem item_core {value slice : PySem.Expr} {r : AV} {A : Around} {Q : Value → Shared → Prop} {E : Value → Shared → Prop} (I : Inv C μ H s.heap) (V : VR C μ s.heap a v) (Vb : VR C μ s.heap b u) (hs : ∀ v u, ∃ ops, subscripted slice false v u = operate ops (getItem v u)) (hi : itemV H a b = some r)
    (k : ∀ y t, VR C μ s.heap r y → Q y { s with toks := t }) : wpAny (model C.prog C.w) A (subscriptTail value slice v u) Q E s := by
    obtain ⟨i, hn, hi⟩ : ∃ i, natOf b = some i ∧ itemN H a i = some r := Option.bind_eq_some_iff.mp hi
    obtain ⟨z, rfl, h0, rfl⟩ := natOf_int hn
    simp only [VR] at Vb
    obtain ⟨tk, rfl⟩ := Vb
    obtain ⟨ops, hs'⟩ := hs v (.int z tk)
    have hb' : big < 2 ^ 62 := by decide
    induction a using AV.casesOn with
    | tup l =>
      have hi : l[z.toNat]? = some r := hi
      obtain ⟨t, items, rfl, ht, hv, hl, _⟩ := tuple_of V
      obtain ⟨y, hy, Vy⟩ := hv.get hi
      have hlt := (List.getElem?_eq_some_iff.mp hy).1
      have hz := hv.len
      simp only [Array.length_toList] at hz hlt
      have hlt' : z.toNat < 2 ^ 62 := Nat.lt_trans (Nat.lt_of_lt_of_le hlt (hz ▸ hl)) hb'
      exact tail_any ht.typeIs slot_tuple_getitem.lookup (PyProof.Rows.getItem_tuple ht (small_lo h0) (small_hi hlt') (seqIdx h0 rfl hlt) (by simpa using hy) (k _ s.toks Vy)) hs'
    | str x =>
      simp only [VR] at V
      obtain ⟨hl, t, rfl⟩ := V
      obtain ⟨c, hc, rfl⟩ := Option.map_eq_some_iff.mp (show (x[z.toNat]?).map (fun c => AV.str [c]) = some r from hi)
      have hlt := (List.getElem?_eq_some_iff.mp hc).1
      have hlt' : z.toNat < 2 ^ 62 := Nat.lt_trans (Nat.lt_of_lt_of_le hlt hl) hb'
      refine tail_any (typeIs_str s _ t) slot_str_getitem.lookup (PyProof.Rows.getItem_str (c := c) ?_ ?_ ?_) hs'
      · rw [decide_eq_false (Int.not_lt.mpr (small_lo h0)), decide_eq_false (Int.not_le.mpr (small_hi hlt'))]; rfl
      · rw [str_len, seqIdx h0 rfl hlt]; simpa using hc
      · exact k _ _ (by simp only [VR]; exact ⟨by show 1 ≤ big; decide, _, rfl⟩)
    | ref j =>
      have hi : (match H[j]? with | some (.list l) => l[z.toNat]? | _ => none) = some r := hi
      cases hl : H[j]? with
      | none => rw [hl] at hi; exact nn hi
      | some o =>
        rw [hl] at hi
        induction o using AObj.casesOn with
        | list l =>
          have hi : l[z.toNat]? = some r := hi
          obtain ⟨p, vs, n, hp, rfl, e1, hL, hv, hz⟩ := I.list hl V
          obtain ⟨y, hy, Vy⟩ := hv.get hi
          have hlt := (List.getElem?_eq_some_iff.mp hi).1
          have hlt' : z.toNat < 2 ^ 62 := Nat.lt_trans (Nat.lt_of_lt_of_le hlt hz) hb'
          exact tail_any hL.isList.typeIs slot_list_getitem.lookup (wpAny_getItem_list hL.isList h0 (small_hi hlt') (by simpa using hy) (k _ s.toks Vy)) hs'
        | _ => exact nn hi
    | _ => exact nn hi
theorem item_snd {value slice : PySem.Expr} (I : Inv C μ H s.heap) (V : VR C μ s.heap a v) (Vb : VR C μ s.heap b u) (hs : ∀ v u, ∃ ops, subscripted slice false v u = operate ops (getItem v u)) :
    WE C F NoX (VRel C) (subscriptTail value slice v u) (match itemV H a b with | some r => .ok r H | none => .bad) μ s := by
  intro hb Q E Po
  cases hi : itemV H a b with
  | none => rw [hi] at hb; exact absurd rfl hb
  | some r =>
    rw [hi] at Po
    exact item_core I V Vb hs hi fun y t V => Po.done rfl I V
end
end Mine
end
section
namespace Mine
open PySem PySem.W PySem.Calls PyProof.Rows
theorem part_of {C : Cx} {μ : Mu} {h : Heap} {a : AV} {v : Value} {x : Option Int} (V : VR C μ h a v) (p : PartIs a x) : IsPart v x := by
  cases p with
  | none => simp only [VR] at V; subst V; exact .none
  | int i => simp only [VR] at V; obtain ⟨t, rfl⟩ := V; exact .int i t
theorem ints_rel {C : Cx} {μ : Mu} {h : Heap} : ∀ {vs : List Value} {ns : List Int}, IntsAre vs ns → VRs C μ h (ns.map AV.int) vs
  | _, _, .nil => by simp [VRs]
  | _, _, .cons n t r => by simp only [List.map_cons, VRs, VR]; exact ⟨⟨t, rfl⟩, ints_rel r⟩
end Mine
namespace Mine
open PySem PySem.W PySem.Calls PyProof.Rows
theorem idx_eq (lo hi : Option Int) (n : Nat) : Builtin.Str.strSliceIndices lo hi 1 n = sliceRange (sliceBounds lo hi none n).1 (sliceBounds lo hi none n).2.1 (sliceBounds lo hi none n).2.2 := rfl
theorem clip_le (n : Nat) (i : Int) : clipAt n i ≤ n := by unfold clipAt; omega
theorem pick_all_of {α : Type} (l : List α) (lo hi : Option Int) (h : (Builtin.Str.strSliceIndices lo hi 1 l.length).length = l.length) : pickL l lo hi none = l := by
  rw [idx_eq, sliceBounds_plain] at h
  dsimp only at h
  rw [sliceRange_one, List.length_map, List.length_range] at h
  rw [pick_plain]
  have h1 : lo.elim 0 (clipAt l.length) ≤ l.length := by induction lo using Option.casesOn <;> simp [clip_le]
  have h2 : hi.elim l.length (clipAt l.length) ≤ l.length := by induction hi using Option.casesOn <;> simp [clip_le]
  have e : lo.elim 0 (clipAt l.length) = 0 ∨ l.length = 0 := by omega
  rcases e with e | e
  · rw [e, List.drop_zero, List.take_of_length_le]; omega
  · have : l = [] := List.length_eq_zero_iff.mp e
    subst this; simp
theorem str_pick (x : List Nat) (lo hi : Option Int) : (Builtin.Str.strSliceIndices lo hi 1 (⟨x.toArray⟩ : Str).length).filterMap ((⟨x.toArray⟩ : Str).cps[·]?) = pickL x lo hi none := by
  unfold pickL
  rw [str_len, idx_eq]
  simp
section
variable {C : Cx} {P : P0} {F : Fm} {μ : Mu} {H : AH} {s : Shared} {a lo hi st : AV} {v vl vu vs : Value}
noncomputable abbrev sliceObj (vl vu vs : Value) : Obj := { cls := .type "slice", data := .fields #[vl, vu, vs] }
theorem part_tok {C : Cx} {μ : Mu} {h : Heap} {a : AV} {v : Value} {x : Option Int} (V : VR C μ h a v) (p : PartIs a x) : ∃ y : Option (Int × Tok), y.map (·.1) = x ∧ v = partValue y := by
  cases p with
  | none => simp only [VR] at V; subst V; exact ⟨none, rfl, rfl⟩
  | int i => simp only [VR] at V; obtain ⟨t, rfl⟩ := V; exact ⟨some (i, t), rfl, rfl⟩
set_option tactic.hygienic true
theorem slice_str {x : List Nat} {value slice : PySem.Expr} {Q : Value → Shared → Prop} {E : Value → Shared → Prop} (I : Inv C μ H s.heap) (V : VR C μ s.heap (.str x) v) (Vl : VR C μ s.heap lo vl) (Vu : VR C μ s.heap hi vu) (Vs : VR C μ s.heap .none vs)
    (hs : ∀ v u, ∃ ops, subscripted slice false v u = operate ops (getItem v u)) {k : SK} (hk : skOf lo hi .none = some k) (Po : Post C NoX (VRel C) μ s (.ok (.str (k.ap x)) H) Q E) :
    wpAny (model C.prog C.w) F.A (subscriptTail value slice v (.ref s.heap.objs.size)) Q E { s with heap := s.heap.push (sliceObj vl vu vs) } := by
  have S0 := Step.push0 I (sliceObj vl vu vs) s.toks
  have I0 := I.push0 (sliceObj vl vu vs)
  have hsl : (s.heap.push (sliceObj vl vu vs)).get? s.heap.objs.size = some (sliceObj vl vu vs) := Heap.get?_push_size _ rfl
  obtain ⟨ops, hs'⟩ := hs v (.ref s.heap.objs.size)
  have Po' := Post.re Po S0 fun _ h => .inl h
  obtain ⟨p, q, z, hp, hq, hz, hz0, hpick⟩ := sk_ok hk
  simp only [VR] at V Vs
  obtain ⟨hl, t, rfl⟩ := V
  subst Vs
  cases hz
  obtain ⟨y, hy, rfl⟩ := part_tok Vl hp
  obtain ⟨z, hz, rfl⟩ := part_tok Vu hq
  refine tail_any (typeIs_str _ _ t) slot_str_getitem.lookup (wpAny_getItem_str_slice (l := y) (u := z) (st := none) ⟨_, hsl, rfl, rfl⟩ rfl ?_) hs'
  have hr : (k.ap x).length ≤ big := Nat.le_trans (k.len x) hl
  unfold sliceMade slicePicked
  rw [hy, hz]
  simp only [Option.map_none, Option.getD_none]
  split
  · rename_i hfull
    have : k.ap x = x := by
      rw [← hpick]
      refine pick_all_of x p q ?_
      have := (Bool.and_eq_true_iff.mp hfull).2
      rw [str_len] at this
      simpa using this
    show Q _ _
    exact Po'.done (t := s.toks) rfl I0 (by simp only [VRel, VR]; exact ⟨by rw [this]; exact hl, t, by rw [this]⟩)
  · show _ ≤ sizeLine ∧ Q _ _
    rw [str_pick x p q, hpick]
    exact ⟨by rw [str_len, big_eq]; exact hr, Po'.done rfl I0 (by simp only [VRel, VR]; exact ⟨hr, _, rfl⟩)⟩
set_option tactic.hygienic false
theorem slice_li {i : Nat} {l : List AV} {value slice : PySem.Expr} {Q : Value → Shared → Prop} {E : Value → Shared → Prop} (I : Inv C μ H s.heap) (V : VR C μ s.heap (.ref i) v) (Vl : VR C μ s.heap lo vl) (Vu : VR C μ s.heap hi vu) (Vs : VR C μ s.heap st vs)
    (hs : ∀ v u, ∃ ops, subscripted slice false v u = operate ops (getItem v u)) {k : SK} (hk : skOf lo hi st = some k) (hl : H[i]? = some (.list l)) (Po : Post C NoX (VRel C) μ s (.ok (.ref H.length) (H ++ [.list (k.ap l)])) Q E) :
    wpAny (model C.prog C.w) F.A (subscriptTail value slice v (.ref s.heap.objs.size)) Q E { s with heap := s.heap.push (sliceObj vl vu vs) } := by
  have S0 := Step.push0 I (sliceObj vl vu vs) s.toks
  have I0 := I.push0 (sliceObj vl vu vs)
  have hsl : (s.heap.push (sliceObj vl vu vs)).get? s.heap.objs.size = some (sliceObj vl vu vs) := Heap.get?_push_size _ rfl
  obtain ⟨ops, hs'⟩ := hs v (.ref s.heap.objs.size)
  have Po' := Post.re Po S0 fun _ h => .inl h
  obtain ⟨p, q, z, hp, hq, hz, hz0, hpick⟩ := sk_ok hk
  obtain ⟨P, xs, n, hP, rfl, e1, hL, hv, hz'⟩ := I0.list hl (V.step0 S0)
  have hzz := hv.len
  simp only [Array.length_toList] at hzz
  refine tail_any hL.isList.typeIs slot_list_getitem.lookup (wpAny_getItem_list_slice hL.isList ⟨_, hsl, rfl, rfl⟩ (part_of Vl hp) (part_of Vu hq) (part_of Vs hz) hz0 ?_ (by rw [big_eq, ← hzz]; exact hz')) hs'
  refine Po'.newList (t := s.toks) rfl I0 ?_ (Nat.le_trans (k.len l) hz')
  rw [slicePick_eq, hpick]
  exact k.rel hv
theorem slice_il {l : List Int} {value slice : PySem.Expr} {Q : Value → Shared → Prop} {E : Value → Shared → Prop} (I : Inv C μ H s.heap) (V : VR C μ s.heap (.ilist l) v) (Vl : VR C μ s.heap lo vl) (Vu : VR C μ s.heap hi vu) (Vs : VR C μ s.heap st vs)
    (hs : ∀ v u, ∃ ops, subscripted slice false v u = operate ops (getItem v u)) {k : SK} (hk : skOf lo hi st = some k) (Po : Post C NoX (VRel C) μ s (.ok (.ref H.length) (H ++ [.list ((k.ap l).map AV.int)])) Q E) :
    wpAny (model C.prog C.w) F.A (subscriptTail value slice v (.ref s.heap.objs.size)) Q E { s with heap := s.heap.push (sliceObj vl vu vs) } := by
  have S0 := Step.push0 I (sliceObj vl vu vs) s.toks
  have I0 := I.push0 (sliceObj vl vu vs)
  have hsl : (s.heap.push (sliceObj vl vu vs)).get? s.heap.objs.size = some (sliceObj vl vu vs) := Heap.get?_push_size _ rfl
  obtain ⟨ops, hs'⟩ := hs v (.ref s.heap.objs.size)
  have Po' := Post.re Po S0 fun _ h => .inl h
  obtain ⟨p, q, z, hp, hq, hz, hz0, hpick⟩ := sk_ok hk
  simp only [VR] at V
  obtain ⟨hl, b, xs, rfl, hL, hI⟩ := V
  have hLs : (s.heap.push (sliceObj vl vu vs)).IsList b xs := by
    obtain ⟨o, ho, r⟩ := hL
    exact ⟨o, I0.stays _ _ ho, r⟩
  have hzz := hI.length
  simp only [Array.length_toList] at hzz
  refine tail_any (Heap.IsList.typeIs (s := { s with heap := s.heap.push (sliceObj vl vu vs) }) hLs) slot_list_getitem.lookup (wpAny_getItem_list_slice hLs ⟨_, hsl, rfl, rfl⟩ (part_of Vl hp) (part_of Vu hq) (part_of Vs hz) hz0 ?_ (by rw [big_eq, hzz]; exact hl)) hs'
  refine Po'.newList (t := s.toks) rfl I0 ?_ (by rw [List.length_map]; exact Nat.le_trans (k.len l) hl)
  rw [slicePick_eq, hpick, ← SK.map]
  exact k.rel (ints_rel hI)
set_option tactic.hygienic true
theorem slice_snd {value slice : PySem.Expr} {Q : Value → Shared → Prop} {E : Value → Shared → Prop} (I : Inv C μ H s.heap) (V : VR C μ s.heap a v) (Vl : VR C μ s.heap lo vl) (Vu : VR C μ s.heap hi vu) (Vs : VR C μ s.heap st vs)
    (hs : ∀ v u, ∃ ops, subscripted slice false v u = operate ops (getItem v u)) (hb : sliceV H a lo hi st ≠ .bad) (Po : Post C NoX (VRel C) μ s (sliceV H a lo hi st) Q E) :
    wpAny (model C.prog C.w) F.A (subscriptTail value slice v (.ref s.heap.objs.size)) Q E { s with heap := s.heap.push (sliceObj vl vu vs) } := by
  cases hk : skOf lo hi st with
  | none => exact absurd (show sliceV H a lo hi st = .bad by unfold sliceV; rw [hk]) hb
  | some k =>
    induction a using AV.casesOn with
    | str x =>
      induction st using AV.casesOn with
      | none =>
        rw [show sliceV H (.str x) lo hi .none = .ok (.str (k.ap x)) H by unfold sliceV; rw [hk]] at Po
        exact slice_str I V Vl Vu Vs hs hk Po
      | _ => exact absurd (show sliceV H (.str x) lo hi _ = .bad by unfold sliceV; rw [hk]) hb
    | ref i =>
      refine at_list (H := H) (j := i) (fun l hl => ?_) fun hl => absurd ?_ hb
      · rw [show sliceV H (.ref i) lo hi st = .ok (.ref H.length) (H ++ [.list (k.ap l)]) by unfold sliceV; rw [hk]; show (match H[i]? with | some (.list l) => _ | _ => _) = _; rw [hl]] at Po
        exact slice_li I V Vl Vu Vs hs hk hl Po
      · unfold sliceV
        rw [hk]
        show (match H[i]? with | some (.list l) => (.ok (.ref H.length) (H ++ [AObj.list (k.ap l)]) : Out AV) | _ => .bad) = .bad
        split
        · rename_i z h; exact absurd h (hl z)
        · rfl
    | ilist l =>
      rw [show sliceV H (.ilist l) lo hi st = .ok (.ref H.length) (H ++ [.list ((k.ap l).map AV.int)]) by unfold sliceV; rw [hk]] at Po
      exact slice_il I V Vl Vu Vs hs hk Po
    | _ => exact absurd (show sliceV H _ lo hi st = .bad by unfold sliceV; rw [hk]) hb
set_option tactic.hygienic false
end
end Mine
end
section
namespace Mine
open PySem PySem.W PySem.Calls PyProof.Rows
theorem ints_of {C : Cx} {μ : Mu} {h : Heap} : ∀ {l : List AV} {vs : List Value} {ns : List Int}, intsOf l = some ns → VRs C μ h l vs → IntsAre vs ns
  | [], [], _, e, _ => by simp [intsOf] at e; subst e; exact .nil
  | a :: r, v :: vs, ns, e, V => by
    simp only [VRs] at V
    induction a using Mine.AV.casesOn <;> simp only [intsOf] at e <;> first | (injection e; done) | skip
    obtain ⟨m, hm, rfl⟩ := Option.map_eq_some_iff.mp e
    obtain ⟨V1, V2⟩ := V
    simp only [VR] at V1
    obtain ⟨t, rfl⟩ := V1
    exact .cons _ t (ints_of hm V2)
  | [], _ :: _, _, _, V => by simp only [VRs] at V
  | _ :: _, [], _, _, V => by simp only [VRs] at V
theorem strs_of {C : Cx} {μ : Mu} {h : Heap} : ∀ {l : List AV} {vs : List Value} {ns : List (List Nat)}, strsOf l = some ns → VRs C μ h l vs → StrsAre vs (ns.map fun x => (⟨x.toArray⟩ : Str))
  | [], [], _, e, _ => by simp [strsOf] at e; subst e; exact .nil
  | a :: r, v :: vs, ns, e, V => by
    simp only [VRs] at V
    induction a using Mine.AV.casesOn <;> simp only [strsOf] at e <;> first | (injection e; done) | skip
    obtain ⟨m, hm, rfl⟩ := Option.map_eq_some_iff.mp e
    obtain ⟨V1, V2⟩ := V
    simp only [VR] at V1
    obtain ⟨_, t, rfl⟩ := V1
    exact .cons _ t (strs_of hm V2)
  | [], _ :: _, _, _, V => by simp only [VRs] at V
  | _ :: _, [], _, _, V => by simp only [VRs] at V
theorem any_str (x : List Nat) (ns : List (List Nat)) : (ns.map fun x => (⟨x.toArray⟩ : Str)).any (· == (⟨x.toArray⟩ : Str)) = ns.any (· == x) := by
  induction ns with
  | nil => rfl
  | cons y r ih =>
    rw [List.map_cons, List.any_cons, List.any_cons, ih, str_beq]
    congr 1
    rw [Bool.eq_iff_iff]; simp
theorem isL_list {h : Heap} {a : Addr} {vs : Array Value} {n : Nat} (x : IsL h a vs n) : h.IsList a vs.toList.toArray := by
  have := x.isList
  simpa using this
section
variable {C : Cx} {P : P0} {F : Fm} {μ : Mu} {H : AH} {s : Shared} {a b : AV} {v u : Value}
theorem all_true (n : Nat) : ((List.range n).all fun _ => true) = true := by
  rw [List.all_eq_true]; intro _ _; rfl
theorem eqAt_tup {A : Around} {x y : List AV} (hu : A.units < cLine) (V : VR C μ s.heap (.tup x) v) (W : VR C μ s.heap (.tup y) u) (hl : x.length = y.length)
    (k : ∀ vs us, VRs C μ s.heap x vs → VRs C μ s.heap y us → ∀ (k : Nat) (v u : Value), vs[k]? = some v → us[k]? = some u → PySem.SeqAt.EqAt A.in1 s v u true) : (∃ l b, v = .ref l ∧ u = .ref b) ∧ PySem.SeqAt.EqAt A s v u true ∧ PySem.SeqAt.RcAt A s v u true ∧ PySem.SeqAt.RcNeAt A s v u false := by
  simp only [VR] at V W
  obtain ⟨_, l, o, vs, n, rfl, _, e1, c1, d1, V⟩ := V
  obtain ⟨_, b, o', us, n', rfl, _, e2, c2, d2, W⟩ := W
  have h1 : s.heap.IsTuple l vs := ⟨o, e1, c1, n, d1⟩
  have h2 : s.heap.IsTuple b us := ⟨o', e2, c2, n', d2⟩
  have z1 := V.len
  have z2 := W.len
  simp only [Array.length_toList] at z1 z2
  have hs : vs.size = us.size := z1.symm.trans (hl.trans z2)
  have he : ∀ j (h1 : j < vs.size) (h2 : j < us.size), PySem.SeqAt.EqAt A.in1 s vs[j] us[j] true := fun j h1 h2 => k _ _ V W j _ _ (by simp [h1]) (by simp [h2])
  have r1 := PySem.SeqAt.RcAt.tuples (e := fun _ => true) h1 h2 hu he
  have r2 := PySem.SeqAt.RcNeAt.tuples (e := fun _ => true) h1 h2 hu he
  have t : ((List.range (min vs.size us.size)).all (fun _ => true) && vs.size == us.size) = true := by rw [all_true, hs]; simp
  rw [t] at r1 r2
  refine ⟨⟨l, b, rfl, rfl⟩, ?_, r1, r2⟩
  by_cases hlb : l = b
  · subst hlb; exact PySem.SeqAt.EqAt.same _
  · exact PySem.SeqAt.EqAt.of_refs hlb r1
theorem eqAt_list {A : Around} {i j : Nat} {x y : List AV} (hu : A.units < cLine) (I : Inv C μ H s.heap) (hx : H[i]? = some (.list x)) (hy : H[j]? = some (.list y)) (V : VR C μ s.heap (.ref i) v) (W : VR C μ s.heap (.ref j) u) (hl : x.length = y.length)
    (k : ∀ vs us, VRs C μ s.heap x vs → VRs C μ s.heap y us → ∀ (k : Nat) (v u : Value), vs[k]? = some v → us[k]? = some u → PySem.SeqAt.EqAt A.in1 s v u true) : PySem.SeqAt.EqAt A s v u true ∧ PySem.SeqAt.RcAt A s v u true ∧ PySem.SeqAt.RcNeAt A s v u false := by
  obtain ⟨p, vs, n, hp, rfl, e1, hL, hv, _⟩ := I.list hx V
  obtain ⟨q, us, m, hq, rfl, f1, hM, hw, _⟩ := I.list hy W
  have z1 := hv.len
  have z2 := hw.len
  simp only [Array.length_toList] at z1 z2
  have hs : vs.size = us.size := z1.symm.trans (hl.trans z2)
  have he : ∀ j (h1 : j < vs.size) (h2 : j < us.size), PySem.SeqAt.EqAt A.in1 s vs[j] us[j] true := fun j h1 h2 => k _ _ hv hw j _ _ (by simp [h1]) (by simp [h2])
  have r1 := PySem.SeqAt.RcAt.lists (e := fun _ => true) hL.isList hM.isList hs hu he
  have r2 := PySem.SeqAt.RcNeAt.lists (e := fun _ => true) hL.isList hM.isList hs hu he
  rw [all_true] at r1 r2
  refine ⟨?_, r1, r2⟩
  by_cases hlb : p.1 = q.1
  · rw [hlb]; exact PySem.SeqAt.EqAt.same _
  · exact PySem.SeqAt.EqAt.of_refs hlb r1
theorem all2_snd {f : AV → AV → Bool} {A : Around} (k : ∀ a b v u, VR C μ s.heap a v → VR C μ s.heap b u → f a b = true → PySem.SeqAt.EqAt A s v u true) :
    ∀ (x y : List AV) (vs us : List Value), VRs C μ s.heap x vs → VRs C μ s.heap y us → all2 f x y = true → x.length = y.length ∧ ∀ (k : Nat) (v u : Value), vs[k]? = some v → us[k]? = some u → PySem.SeqAt.EqAt A s v u true
  | [], [], [], _, _, _, _ => ⟨rfl, fun k v u hv => by injection hv⟩
  | a :: x, b :: y, v :: vs, u :: us, V, W, h => by
    have h : (f a b && all2 f x y) = true := h
    obtain ⟨h1, h2⟩ := Bool.and_eq_true_iff.mp h
    simp only [VRs] at V W
    obtain ⟨l1, l2⟩ := all2_snd k x y vs us V.2 W.2 h2
    refine ⟨congrArg (· + 1) l1, fun j v' u' hv hw => ?_⟩
    induction j using Nat.casesAuxOn with
    | zero => (injection hv with j1; subst j1); (injection hw with j1; subst j1); exact k _ _ _ _ V.1 W.1 h1
    | succ j => exact l2 j v' u' hv hw
  | [], _ :: _, _, _, _, _, h => by exact absurd h Bool.false_ne_true
  | _ :: _, [], _, _, _, _, h => by exact absurd h Bool.false_ne_true
  | [], [], _ :: _, _, V, _, _ => by simp only [VRs] at V
  | _ :: _, _ :: _, [], _, V, _, _ => by simp only [VRs] at V
  | _ :: _, _ :: _, _ :: _, [], _, W, _ => by simp only [VRs] at W
theorem vrs_tup {h : Heap} {l : List AV} {v : Value} (V : VR C μ h (.tup l) v) : ∃ vs, VRs C μ h l vs := by
  simp only [VR] at V
  obtain ⟨_, _, _, vs, _, _, _, _, _, _, V'⟩ := V
  exact ⟨_, V'⟩
theorem same_rf {A : Around} {n : Nat} {i j : Nat} (hu0 : A.units < cLine) (ih : ∀ (x y : List AV) (vs us : List Value), VRs C μ s.heap x vs → VRs C μ s.heap y us → all2 (same H n) x y = true → x.length = y.length ∧ ∀ (k : Nat) (v u : Value), vs[k]? = some v → us[k]? = some u → PySem.SeqAt.EqAt A.in1 s v u true)
    (I : Inv C μ H s.heap) (V : VR C μ s.heap (.ref i) v) (W : VR C μ s.heap (.ref j) u) (h : sameR (same H n) H i j = true) : PySem.SeqAt.EqAt A s v u true := by
  unfold sameR at h
  cases hx : H[i]? with
  | none => rw [hx] at h; exact ff h
  | some o =>
    rw [hx] at h
    induction o using AObj.casesOn with
    | inst c fs =>
      obtain rfl := of_decide_eq_true (show decide (i = j) = true from h)
      simp only [VR] at V W
      obtain ⟨p, hp, rfl⟩ := V
      obtain ⟨q, hq, rfl⟩ := W
      rw [hp] at hq; (injection hq with j1; subst j1)
      exact PySem.SeqAt.EqAt.same _
    | list x =>
      have h : (match H[j]? with | some (.list y) => all2 (same H n) x y | _ => false) = true := h
      cases hy : H[j]? with
      | none => rw [hy] at h; exact ff h
      | some o =>
        rw [hy] at h
        induction o using AObj.casesOn with
        | list y =>
          have h : all2 (same H n) x y = true := h
          obtain ⟨p, vs, _, hp, rfl, _, _, hv, _⟩ := I.list hx V
          obtain ⟨q, us, _, hq, rfl, _, _, hw, _⟩ := I.list hy W
          exact (eqAt_list hu0 I hx hy V W (ih x y _ _ hv hw h).1 fun vs us V W => (ih x y vs us V W h).2).1
        | _ => exact ff h
    | _ => exact ff h
theorem same_snd (I : Inv C μ H s.heap) : ∀ (n : Nat) (A : Around), A.units + n < cLine → ∀ a b v u, VR C μ s.heap a v → VR C μ s.heap b u → same H n a b = true → PySem.SeqAt.EqAt A s v u true
  | 0, _, _ => fun _ _ _ _ _ _ h => ff h
  | n + 1, A, hu => by
    have hu0 : A.units < cLine := Nat.lt_of_le_of_lt (Nat.le_add_right _ _) hu
    have ih := all2_snd (same_snd I n A.in1 (by show A.units + 1 + n < cLine; lia))
    intro a b v u V W h
    induction a using AV.casesOn with
    | none =>
      induction b using AV.casesOn with
      | none => simp only [VR] at V W; subst V; subst W; exact PySem.SeqAt.EqAt.same _
      | _ => exact ff h
    | int x =>
      induction b using AV.casesOn with
      | int y =>
        simp only [VR] at V W
        obtain ⟨t, rfl⟩ := V; obtain ⟨t', rfl⟩ := W
        have z := PySem.SeqAt.EqAt.int_int (A := A) (s := s) x t y t'
        rwa [show (x == y) = true from beq_iff_eq.mpr (of_decide_eq_true h)] at z
      | _ => exact ff h
    | str x =>
      induction b using AV.casesOn with
      | str y =>
        simp only [VR] at V W
        obtain ⟨_, t, rfl⟩ := V; obtain ⟨_, t', rfl⟩ := W
        obtain rfl : x = y := of_decide_eq_true h
        have z := PySem.SeqAt.EqAt.str_str (A := A) (s := s) ⟨x.toArray⟩ t ⟨x.toArray⟩ t'
        rwa [beq_self_eq_true] at z
      | _ => exact ff h
    | tup x =>
      induction b using AV.casesOn with
      | tup y =>
        have h : all2 (same H n) x y = true := h
        obtain ⟨vs, V'⟩ := vrs_tup V
        obtain ⟨us, W'⟩ := vrs_tup W
        exact (eqAt_tup hu0 V W (ih x y _ _ V' W' h).1 fun vs us V W => (ih x y vs us V W h).2).2.1
      | _ => exact ff h
    | ref i =>
      induction b using AV.casesOn with
      | ref j => exact same_rf hu0 ih I V W h
      | _ => exact ff h
    | _ => exact ff h
theorem eqR_ints {i j : Nat} {x : Bool} {Q : Value → Shared → Prop} {E : Value → Shared → Prop} (hu : F.A.units + 64 < cLine) (I : Inv C μ H s.heap) (V : VR C μ s.heap (.ref i) v) (W : VR C μ s.heap (.ref j) u) (e : aeqL H i j = some x) :
    (Q (.bool x) s → wpAny (model C.prog C.w) F.A (compareOp .Eq v u) Q E s) ∧ (Q (.bool (!x)) s → wpAny (model C.prog C.w) F.A (compareOp .NotEq v u) Q E s) := by
  unfold aeqL at e
  cases hx : H[i]? with
  | none => rw [hx] at e; exact nn e
  | some o =>
    rw [hx] at e
    cases hy : H[j]? with
    | none => rw [hy] at e; induction o using AObj.casesOn <;> exact nn e
    | some o' =>
      rw [hy] at e
      induction o using AObj.casesOn with
      | list x =>
        induction o' using AObj.casesOn with
        | list y =>
          have e : (match intsOf x, intsOf y with | some x, some y => some (decide (x = y)) | _, _ => none) = some _ := e
          cases hn : intsOf x with
          | none => rw [hn] at e; exact nn e
          | some ns =>
            rw [hn] at e
            cases hm : intsOf y with
            | none => rw [hm] at e; exact nn e
            | some ms =>
              rw [hm] at e
              obtain rfl := Option.some.inj (show some (decide (ns = ms)) = some _ from e)
              obtain ⟨p, vs, n, hp, rfl, e1, hL, hv, hl⟩ := I.list hx V
              obtain ⟨q, us, m, hq, rfl, f1, hM, hw, hm'⟩ := I.list hy W
              exact ⟨fun h => ke_eq_ints (isL_list hL) (isL_list hM) (ints_of hn hv) (ints_of hm hw) hu h, fun h => ke_ne_ints (isL_list hL) (isL_list hM) (ints_of hn hv) (ints_of hm hw) hu h⟩
        | _ => exact nn e
      | _ => induction o' using AObj.casesOn <;> exact nn e
noncomputable abbrev EqS (C : Cx) (F : Fm) (s : Shared) (v u : Value) (x : Bool) : Prop :=
  ∀ (Q : Value → Shared → Prop) (E : Value → Shared → Prop), (Q (.bool x) s → wpAny (model C.prog C.w) F.A (compareOp .Eq v u) Q E s) ∧ (Q (.bool (!x)) s → wpAny (model C.prog C.w) F.A (compareOp .NotEq v u) Q E s)
theorem eq_ref {x : Bool} {i j : Nat} (hu : F.A.units + 64 < cLine) (I : Inv C μ H s.heap) (V : VR C μ s.heap (.ref i) v) (W : VR C μ s.heap (.ref j) u) (e : eqR H i j = some x) : EqS C F s v u x := by
  have hu0 : F.A.units < cLine := Nat.lt_of_le_of_lt (Nat.le_add_right _ _) hu
  have ih := all2_snd (same_snd I 8 F.A.in1 (by show F.A.units + 1 + 8 < cLine; lia))
  unfold eqR at e
  cases hb : aeqL H i j with
  | some b => rw [hb] at e; obtain rfl := Option.some.inj e; exact fun Q E => eqR_ints hu I V W hb
  | none =>
    rw [hb] at e
    have e : (match H[i]? with | some (.list _) => if sameR (same H 8) H i j = true then some true else none | _ => none) = some x := e
    cases hl : H[i]? with
    | none => rw [hl] at e; exact nn e
    | some o =>
      rw [hl] at e
      induction o using AObj.casesOn with
      | list l =>
        have e : (if sameR (same H 8) H i j = true then some true else none) = some x := e
        by_cases h : sameR (same H 8) H i j = true
        · rw [if_pos h] at e
          obtain rfl := Option.some.inj e
          unfold sameR at h
          rw [hl] at h
          have h : (match H[j]? with | some (.list y) => all2 (same H 8) l y | _ => false) = true := h
          cases hm : H[j]? with
          | none => rw [hm] at h; exact ff h
          | some o =>
            rw [hm] at h
            induction o using AObj.casesOn with
            | list m =>
              have h : all2 (same H 8) l m = true := h
              obtain ⟨p, vs, _, hp, rfl, _, _, hv, _⟩ := I.list hl V
              obtain ⟨q, us, _, hq, rfl, _, _, hw, _⟩ := I.list hm W
              obtain ⟨_, r1, r2⟩ := eqAt_list hu0 I hl hm V W (ih l m _ _ hv hw h).1 fun vs us V W => (ih l m vs us V W h).2
              exact fun Q E => ⟨fun h => r1 _ _ _ _ h, fun h => r2 _ _ _ _ h⟩
            | _ => exact ff h
        · rw [if_neg h] at e; exact nn e
      | _ => exact nn e
theorem eq_tup {x : Bool} {l m : List AV} (hu : F.A.units + 64 < cLine) (I : Inv C μ H s.heap) (V : VR C μ s.heap (.tup l) v) (W : VR C μ s.heap (.tup m) u) (e : (if all2 (same H 8) l m = true then some true else none) = some x) : EqS C F s v u x := by
  have ih := all2_snd (same_snd I 8 F.A.in1 (by show F.A.units + 1 + 8 < cLine; lia))
  by_cases h : all2 (same H 8) l m = true
  · rw [if_pos h] at e
    obtain rfl := Option.some.inj e
    obtain ⟨vs, V'⟩ := vrs_tup V
    obtain ⟨us, W'⟩ := vrs_tup W
    obtain ⟨_, _, r1, r2⟩ := eqAt_tup (Nat.lt_of_le_of_lt (Nat.le_add_right _ _) hu) V W (ih l m _ _ V' W' h).1 fun vs us V W => (ih l m vs us V W h).2
    exact fun Q E => ⟨fun h => r1 _ _ _ _ h, fun h => r2 _ _ _ _ h⟩
  · rw [if_neg h] at e; exact nn e
theorem eq_snd {x : Bool} (hu : F.A.units + 64 < cLine) (I : Inv C μ H s.heap) (V : VR C μ s.heap a v) (W : VR C μ s.heap b u) (e : aeq H a b = some x) : EqS C F s v u x := by
  induction a using AV.casesOn with
  | none =>
    induction b using AV.casesOn with
    | none =>
      obtain rfl := Option.some.inj (show some true = some x from e)
      simp only [VR] at V W
      subst V; subst W
      exact fun Q E => ⟨fun h => PySem.SeqAt.RcAt.none_none _ _ _ _ h, fun h => PySem.SeqAt.RcNeAt.none_none _ _ _ _ h⟩
    | _ => exact nn e
  | int i =>
    induction b using AV.casesOn with
    | int j =>
      obtain rfl := Option.some.inj (show some (decide (i = j)) = some x from e)
      simp only [VR] at V W
      obtain ⟨t, rfl⟩ := V
      obtain ⟨t', rfl⟩ := W
      exact fun Q E => ⟨fun h => PyProof.Rows.eq_int h, fun h => PyProof.Rows.ne_int h⟩
    | _ => exact nn e
  | str i =>
    induction b using AV.casesOn with
    | str j =>
      obtain rfl := Option.some.inj (show some (decide (i = j)) = some x from e)
      simp only [VR] at V W
      obtain ⟨_, t, rfl⟩ := V
      obtain ⟨_, t', rfl⟩ := W
      exact fun Q E => ⟨fun h => PyProof.Rows.eq_str (by rw [str_beq]; exact h), fun h => PyProof.Rows.ne_str (by rw [bne, str_beq]; exact h)⟩
    | _ => exact nn e
  | tup l =>
    induction b using AV.casesOn with
    | tup m => exact eq_tup hu I V W e
    | _ => exact nn e
  | ref i =>
    induction b using AV.casesOn with
    | ref j => exact eq_ref hu I V W e
    | _ => exact nn e
  | _ => exact nn e
set_option tactic.hygienic true
theorem VR.ne_none {h : Heap} (V : VR C μ h a v) (ha : a ≠ .none) : (v == .none) = false := by
  induction a using Mine.AV.casesOn <;> simp only [VR] at V
  · exact absurd rfl ha
  · subst V; rfl
  · obtain ⟨t, rfl⟩ := V; rfl
  · obtain ⟨_, t, rfl⟩ := V; rfl
  · obtain ⟨_, a, o, vs, n, rfl, _⟩ := V; rfl
  · obtain ⟨p, _, rfl⟩ := V; rfl
  · subst V; rfl
  · subst V; rfl
  · rename_i b; subst V; induction b using Mine.Bi.casesOn <;> rfl
  · obtain ⟨_, a, vs, rfl, _⟩ := V; rfl
  · obtain ⟨_, r, t, u, w, rfl, _⟩ := V; rfl
set_option tactic.hygienic false
set_option tactic.hygienic true
theorem is_snd {x : Bool} (V : VR C μ s.heap a v) (W : VR C μ s.heap b u) (e : isV a b = some x) : u = .none ∧ (v == .none) = x := by
  induction b using AV.casesOn with
  | none =>
    refine ⟨by simpa only [VR] using W, ?_⟩
    by_cases ha : a = .none
    · subst ha
      obtain rfl := Option.some.inj (show some true = some x from e)
      simp only [VR] at V; subst V; rfl
    · have e : isV a .none = some false := by induction a using AV.casesOn <;> first | rfl | exact absurd rfl ha
      have z := V.ne_none ha
      rename_i e0
      exact z.trans (Option.some.inj (e.symm.trans e0))
  | _ => exact nn e
set_option tactic.hygienic false
noncomputable def int2 (f : Int → Int → Bool) (a b : AV) : Option Bool := match a with
  | .int i => (match b with | .int j => some (f i j) | _ => none)
  | _ => none
theorem ints2 {f : Int → Int → Bool} {x : Bool} {P : Prop} (V : VR C μ s.heap a v) (W : VR C μ s.heap b u) (e : int2 f a b = some x)
    (k : ∀ i j t t', v = .int i t → u = .int j t' → x = f i j → P) : P := by
  induction a using AV.casesOn with
  | int i =>
    induction b using AV.casesOn with
    | int j =>
      simp only [VR] at V W
      obtain ⟨t, rfl⟩ := V
      obtain ⟨t', rfl⟩ := W
      exact k i j t t' rfl rfl (Option.some.inj e).symm
    | _ => exact nn e
  | _ => exact nn e
theorem in_snd {l : List Nat} {x : Bool} {Q : Value → Shared → Prop} {E : Value → Shared → Prop} (I : Inv C μ H s.heap) (V : VR C μ s.heap (.str l) v) (W : VR C μ s.heap b u) (e : cmpV H .In (.str l) b = some x)
    (h : Q (.bool x) s) : wpAny (model C.prog C.w) F.A (compareOp .In v u) Q E s := by
  simp only [VR] at V
  obtain ⟨_, t, rfl⟩ := V
  induction b using AV.casesOn with
  | str m =>
    obtain rfl := Option.some.inj (show some (inS m l) = some x from e)
    simp only [VR] at W
    obtain ⟨_, t', rfl⟩ := W
    exact PySem.P.in_str h
  | tup m =>
    obtain ⟨ss, hs, rfl⟩ := Option.map_eq_some_iff.mp (show (strsOf m).map (fun ss => ss.any (· == l)) = some x from e)
    obtain ⟨tp, items, rfl, ht, hv, hl, _⟩ := tuple_of W
    exact in_tuple_strs ht (strs_of hs hv) (by rw [any_str]; exact h)
  | ref j =>
    have e : (match H[j]? with | some (.list m) => (strsOf m).map (fun ss => ss.any (· == l)) | _ => none) = some x := e
    cases hl : H[j]? with
    | none => rw [hl] at e; exact nn e
    | some o =>
      rw [hl] at e
      induction o using AObj.casesOn with
      | list m =>
        obtain ⟨ss, hs, rfl⟩ := Option.map_eq_some_iff.mp (show (strsOf m).map (fun ss => ss.any (· == l)) = some x from e)
        obtain ⟨p, vs, _, hp, rfl, _, hL, hv, _⟩ := I.list hl W
        exact in_list_strs (isL_list hL) (strs_of hs hv) (by rw [any_str]; exact h)
      | _ => exact nn e
  | _ => exact nn e
theorem cmp_snd {op : CmpOp} {x : Bool} {Q : Value → Shared → Prop} {E : Value → Shared → Prop} (hu : F.A.units + 64 < cLine) (I : Inv C μ H s.heap) (V : VR C μ s.heap a v) (W : VR C μ s.heap b u) (e : cmpV H op a b = some x)
    (h : Q (.bool x) s) : wpAny (model C.prog C.w) F.A (compareOp op v u) Q E s := by
  induction op using CmpOp.casesOn with
  | Eq => exact (eq_snd hu I V W e Q E).1 h
  | NotEq =>
    obtain ⟨y, hy, rfl⟩ := Option.map_eq_some_iff.mp (show (aeq H a b).map (fun x => !x) = some x from e)
    exact (eq_snd hu I V W hy Q E).2 h
  | Lt => exact ints2 (f := fun i j => decide (i < j)) V W e fun i j t t' e1 e2 e3 => by subst e1 e2 e3; exact PyProof.Rows.lt_int h
  | Gt => exact ints2 (f := fun i j => decide (j < i)) V W e fun i j t t' e1 e2 e3 => by subst e1 e2 e3; exact PyProof.Rows.gt_int h
  | LtE => exact ints2 (f := fun i j => decide (i ≤ j)) V W e fun i j t t' e1 e2 e3 => by subst e1 e2 e3; exact PyProof.Rows.le_int h
  | Is =>
    obtain ⟨rfl, q⟩ := is_snd V W e
    exact is_none_gen (by rw [q]; exact h)
  | IsNot =>
    obtain ⟨y, hy, rfl⟩ := Option.map_eq_some_iff.mp (show (isV a b).map (fun x => !x) = some x from e)
    obtain ⟨rfl, q⟩ := is_snd V W hy
    exact isnot_none_gen (by rw [q]; exact h)
  | In =>
    induction a using AV.casesOn with
    | str l => exact in_snd I V W e h
    | _ => exact nn e
  | _ => exact nn e
end
end Mine
end
section
namespace Mine
open PySem PySem.W PySem.Calls PyProof.Rows
section
variable {C : Cx} {P : P0} {F : Fm} {μ : Mu} {H : AH} {s : Shared} {a b : AV} {v u : Value}
theorem vrs1 {h : Heap} {x : AV} {vs : List Value} (V : VRs C μ h [x] vs) : ∃ y, vs = [y] ∧ VR C μ h x y := by
  match vs, V with
  | [y], V => simp only [VRs, and_true] at V; exact ⟨y, rfl, V⟩
  | [], V => simp only [VRs] at V
  | _ :: _ :: _, V => simp only [VRs, and_false] at V
inductive Vrs2R (C : Cx) (μ : Mu) (h : Heap) (x : AV) (y : AV) (vs : List Value) : Prop where
  | mk (p : Value) (q : Value) (zc1 : vs = [p, q]) (zc2 : VR C μ h x p) (zc3 : VR C μ h y q)
theorem vrs2 {h : Heap} {x y : AV} {vs : List Value} (V : VRs C μ h [x, y] vs) : Vrs2R C μ h x y vs := by
  match vs, V with
  | [p, q], V => simp only [VRs, and_true] at V; exact ⟨p, q, rfl, V.1, V.2⟩
  | [], V => simp only [VRs] at V
  | [_], V => simp only [VRs, and_false] at V
  | _ :: _ :: _ :: _, V => simp only [VRs, and_false] at V
theorem vrs0 {h : Heap} {vs : List Value} (V : VRs C μ h [] vs) : vs = [] := by
  match vs, V with
  | [], _ => rfl
  | _ :: _, V => simp only [VRs] at V
theorem Post.newRange {r : Out AV} {Q : Value → Shared → Prop} {E : Value → Shared → Prop} {x y : Int} {t u w k : Nat}
    (P : Post C NoX (VRel C) μ s r Q E) (e : r = .ok (.rng x y) H) (I : Inv C μ H s.heap) (hl : -(2 ^ 61) ≤ x ∧ x < 2 ^ 61 ∧ -(2 ^ 61) ≤ y ∧ y < 2 ^ 61) :
    Q (.ref s.heap.objs.size) { s with heap := s.heap.push { cls := .type "range", data := .fields #[.int x t, .int y u, .int 1 w] }, toks := k } := by
  have S := Step.push0 I { cls := .type "range", data := .fields #[.int x t, .int y u, .int 1 w] } k
  refine P.ok _ _ _ _ _ e S (I.push0 _) ?_
  simp only [VRel, VR]
  exact ⟨hl, _, t, u, w, rfl, I.free (size_none _), Heap.get?_push_size _ rfl⟩
theorem Post.keptList {r : Out AV} {Q : Value → Shared → Prop} {E : Value → Shared → Prop} {l : List AV} {vs : Array Value} {n k : Nat} {D : Addr} {h' : Heap}
    (P : Post C NoX (VRel C) μ s r Q E) (e : r = .ok (.ref H.length) (H ++ [.list l])) (I : Inv C μ H s.heap) (hk : ∀ b o, s.heap.get? b = some o → h'.get? b = some o) (hD : s.heap.get? D = none) (hL : IsL h' D vs n) (V : ∀ μ', VRs C μ' h' l vs.toList) (hl : l.length ≤ big) :
    Q (.ref D) { s with heap := h', toks := k } := by
  have S : Step NoX μ s (μ ++ [(D, D)]) { s with heap := h', toks := k } := by
    refine ⟨⟨_, rfl⟩, fun a h => ?_, fun b x e => ⟨x, hk _ _ e⟩, fun b x e _ _ => ⟨x.slots, hk _ _ e, fun _ => rfl⟩, rfl, rfl⟩
    obtain ⟨p, hp, q⟩ := h
    rcases List.mem_append.mp hp with hp | hp
    · exact .inl ⟨p, hp, q⟩
    · obtain rfl := List.mem_singleton.mp hp
      have : a = D := q.elim id id
      exact .inr (this ▸ hD)
  have I' := Inv.add (p := (D, D)) (o0 := .list l) I S (fun b o q => hk _ _ (I.stays b o q)) (fun a ha => by
    obtain ⟨x, ex⟩ := I.there ha
    rw [ex]; exact hk _ _ ex) hD hD (by simp only [OR]; exact ⟨trivial, hl, vs, n, hL, V _⟩)
  refine P.ok _ _ _ _ _ e S I' ?_
  simp only [VRel, VR]
  exact ⟨(D, D), by rw [← I.len]; exact List.getElem?_concat_length, rfl⟩
theorem size_none1 (h : Heap) : h.get? (h.objs.size + 1) = none := by
  cases e : h.get? (h.objs.size + 1) with
  | none => rfl
  | some o => exact absurd (Heap.lt_size e) (Nat.not_lt.mpr (Nat.le_succ _))
theorem intsOf_map : ∀ (l : List AV) (ns : List Int), intsOf l = some ns → l = ns.map AV.int
  | [], _, e => by (injection e with j1; subst j1); rfl
  | a :: r, ns, e => by
    induction a using Mine.AV.casesOn <;> first | (injection e; done) | skip
    obtain ⟨m, hm, rfl⟩ := Option.map_eq_some_iff.mp e
    rw [intsOf_map r m hm]; rfl
theorem ascL_pw : ∀ (l : List Int), ascL l = true → l.Pairwise (· ≤ ·)
  | [], _ => .nil
  | [_], _ => List.pairwise_singleton _ _
  | x :: y :: r, h => by
    have h : (decide (x ≤ y) && ascL (y :: r)) = true := h
    obtain ⟨h1, h2⟩ := Bool.and_eq_true_iff.mp h
    have ih := ascL_pw (y :: r) h2
    have h1 := of_decide_eq_true h1
    refine List.pairwise_cons.mpr ⟨fun z hz => ?_, ih⟩
    rcases List.mem_cons.mp hz with rfl | hz
    · exact h1
    · exact Int.le_trans h1 ((List.pairwise_cons.mp ih).1 z hz)
set_option tactic.hygienic true
theorem sorted_snd (I : Inv C μ H s.heap) (V : VR C μ s.heap a v) : WE C F NoX (VRel C) (call (.builtin "sorted") [v]) (sortedV H a) μ s := by
  unfold sortedV
  split
  · rename_i i
    split
    · rename_i l hl
      split
      · rename_i x hx
        split
        · rename_i hc
          obtain ⟨p, xs, n, hp, rfl, e1, hL, hv, hz⟩ := I.list hl V
          have hI := ints_of hx hv
          have hlen := hI.length
          intro hb Q E Po
          refine PyProof.Rows.sorted_ints (isL_list hL) hI (by lia) fun out ns' a1 a2 a3 => ?_
          have e2 : ns' = x := a2.eq_of_pairwise (fun _ _ _ _ h1 h2 => Int.le_antisymm h1 h2) a3 (ascL_pw x hc.1)
          subst e2
          obtain ⟨e, he⟩ := PyProof.Rows.sortedAll_at s.heap xs.toList out
          have hlx := intsOf_map l ns' hx
          refine Po.keptList (k := s.toks) rfl I (fun _ _ => PyProof.Rows.sortedAll_old) (size_none1 _) he (fun μ' => ?_) hz
          rw [hlx]
          exact ints_rel a1
        · exact WE.bad
      · exact WE.bad
    · exact WE.bad
  · exact WE.bad
set_option tactic.hygienic false
theorem items_rel {h : Heap} {x : Int} : ∀ (n k : Nat) (vs : List Value), vs.length = n → (∀ (j : Nat) v, vs[j]? = some v → ∃ t, v = .int (x + ((k + j : Nat) : Int)) t) → VRs C μ h ((List.range' k n).map fun k : Nat => AV.int (x + (k : Int))) vs
  | 0, k, vs, hl, _ => by rw [List.length_eq_zero_iff.mp hl]; simp only [List.range'_zero, List.map_nil, VRs]
  | n + 1, k, [], hl, _ => by injection hl
  | n + 1, k, v :: vs, hl, h => by
    rw [List.range'_succ, List.map_cons]
    simp only [VRs, VR]
    refine ⟨h 0 v rfl, items_rel n (k + 1) vs (by simpa using hl) fun j w hw => ?_⟩
    have := h (j + 1) w hw
    rwa [show k + (j + 1) = k + 1 + j by lia] at this
set_option tactic.hygienic true
theorem list_snd (hh : F.A.handled = none) (I : Inv C μ H s.heap) (V : VR C μ s.heap a v) : WE C F NoX (VRel C) (call (.type "list") [v]) (listV H a) μ s := by
  induction a using AV.casesOn with
  | rng x y =>
    unfold listV
    dsimp only
    split
    · rename_i hc
      simp only [VR] at V
      obtain ⟨_, r, t, u, w, rfl, _, hr⟩ := V
      intro hb Q E Po
      refine call_list_range (n := (y - x).toNat) hh hr (small_one (Int.le_trans (by decide) hc.2.2) (by lia) (by lia) (by lia)) (by rw [rangeSize_one]; split <;> lia) (by lia) fun h' tk acc c hk hat hits => ?_
      refine Po.keptList (k := tk) rfl I hk (size_none _) hat (fun μ' => ?_) (by rw [List.length_map, List.length_range]; have : big = 16777216 := rfl; lia)
      rw [List.range_eq_range']
      refine items_rel _ 0 _ (by rw [Array.length_toList]; exact hits.1) fun j v hv => ?_
      rw [Array.getElem?_toList] at hv
      obtain ⟨t, e⟩ := hits.2 j v hv
      exact ⟨t, by rw [e]; congr 1 <;> lia⟩
    · exact WE.bad
  | _ => exact WE.bad
set_option tactic.hygienic false
set_option tactic.hygienic true
theorem rng2_snd {b : AV} {u : Value} (I : Inv C μ H s.heap) (V : VR C μ s.heap a v) (W : VR C μ s.heap b u) : WE C F NoX (VRel C) (call (.type "range") [v, u]) (rngV H a b) μ s := by
  induction a using AV.casesOn with
  | int x =>
    induction b using AV.casesOn with
    | int y =>
      simp only [VR] at V W
      obtain ⟨t, rfl⟩ := V
      obtain ⟨t', rfl⟩ := W
      unfold rngV
      dsimp only
      split
      · rename_i hc
        intro hb Q E Po
        exact call_range_2 (Po.newRange rfl I ⟨Int.le_trans (by decide) hc.1, Int.lt_of_le_of_lt hc.2.1 (by decide), Int.le_trans (by decide) hc.2.2.1, Int.lt_of_le_of_lt hc.2.2.2 (by decide)⟩)
      · exact WE.bad
    | _ => exact WE.bad
  | _ => exact WE.bad
set_option tactic.hygienic false
theorem big63 {n : Nat} (h : n ≤ big) : (n : Int) < 2 ^ 63 := Int.lt_of_le_of_lt (Int.ofNat_le.mpr h) (by decide)
theorem lenV_list {i : Nat} {l : List AV} (h : H[i]? = some (.list l)) : lenV H (.ref i) = .ok (.int l.length) H := by
  show (match H[i]? with | some (.list l) => _ | _ => _) = _
  rw [h]
theorem len_snd (I : Inv C μ H s.heap) (V : VR C μ s.heap a v) : WE C F NoX (VRel C) (call (.builtin "len") [v]) (lenV H a) μ s := by
  induction a using AV.casesOn with
  | str l =>
    simp only [VR] at V
    obtain ⟨hl, t, rfl⟩ := V
    intro hb Q E Po
    refine PyProof.Rows.len_str (by rw [str_len]; exact Int.not_le.mpr (big63 hl)) ?_
    rw [str_len]
    exact Po.done rfl I (by simp only [VRel, VR]; exact ⟨_, rfl⟩)
  | tup l =>
    obtain ⟨t, items, rfl, ht, hv, hl, _⟩ := tuple_of V
    have hz : l.length = items.size := hv.len
    intro hb Q E Po
    refine PyProof.Rows.len_tuple ht (by rw [← hz]; exact big63 hl) ?_
    rw [← hz]
    exact Po.done rfl I (by simp only [VRel, VR]; exact ⟨_, rfl⟩)
  | ref i =>
    intro hb
    cases q : H[i]? with
    | none => exact absurd (show (match H[i]? with | some (.list l) => (.ok (.int l.length) H : Out AV) | _ => .bad) = .bad by rw [q]) hb
    | some o =>
      induction o using AObj.casesOn with
      | list l =>
        intro Q E Po
        rw [lenV_list q] at Po
        obtain ⟨p, xs, n, hp, rfl, e1, hL, hv, hz⟩ := I.list q V
        have hz' : l.length = xs.size := hv.len
        refine PyProof.Rows.len_list hL.isList (by rw [← hz']; exact big63 hz) ?_
        rw [← hz']
        exact Po.done rfl I (by simp only [VRel, VR]; exact ⟨_, rfl⟩)
      | _ => exact absurd (show (match H[i]? with | some (.list l) => (.ok (.int l.length) H : Out AV) | _ => .bad) = .bad by rw [q]) hb
  | _ => exact WE.bad
theorem isi_str {x : Value} (I : Inv C μ H s.heap) (V : VR C μ s.heap a v) : WE C F NoX (VRel C) (call (.builtin "isinstance") [v, .type "str"]) (isiV H a (.bi .str)) μ s := by
  induction a using AV.casesOn with
  | str l =>
    simp only [VR] at V
    obtain ⟨hl, t, rfl⟩ := V
    intro hb Q E Po
    exact IsiPair.str_str (Po.done (y := .bool true) (t := s.toks) rfl I (by simp only [VRel, VR]))
  | _ => exact WE.bad
theorem isi_tup (I : Inv C μ H s.heap) (V : VR C μ s.heap a v) : WE C F NoX (VRel C) (call (.builtin "isinstance") [v, .type "tuple"]) (isiV H a (.bi .tuple)) μ s := by
  induction a using AV.casesOn with
  | str l =>
    simp only [VR] at V
    obtain ⟨hl, t, rfl⟩ := V
    intro hb Q E Po
    exact IsiPair.str_tuple (Po.done (y := .bool false) rfl I (by simp only [VRel, VR]))
  | int l =>
    simp only [VR] at V
    obtain ⟨t, rfl⟩ := V
    intro hb Q E Po
    exact IsiPair.int_tuple (Po.done (y := .bool false) rfl I (by simp only [VRel, VR]))
  | none =>
    simp only [VR] at V
    subst V
    intro hb Q E Po
    exact IsiPair.NoneType_tuple (Po.done (y := .bool false) rfl I (by simp only [VRel, VR]))
  | _ => exact WE.bad
theorem isi_snd (I : Inv C μ H s.heap) (V : VR C μ s.heap a v) (W : VR C μ s.heap b u) : WE C F NoX (VRel C) (call (.builtin "isinstance") [v, u]) (isiV H a b) μ s := by
  induction b using AV.casesOn with
  | bi k =>
    simp only [VR] at W
    subst W
    induction k using Bi.casesOn with
    | str => exact isi_str (x := v) I V
    | tuple => exact isi_tup I V
    | _ => exact WE.bad
  | _ => exact WE.bad
theorem abs_snd (I : Inv C μ H s.heap) (V : VR C μ s.heap a v) : WE C F NoX (VRel C) (call (biVal .abs) [v]) (biV H .abs [a]) μ s := by
  induction a using AV.casesOn with
  | int i =>
    simp only [VR] at V
    obtain ⟨t, rfl⟩ := V
    intro hb Q E Po
    refine PyProof.Rows.call_abs_int fun t' tk => Po.done rfl I ?_
    simp only [VRel, VR]
    exact ⟨t', by congr 1; split <;> lia⟩
  | _ => exact WE.bad
theorem int_snd (I : Inv C μ H s.heap) (V : VR C μ s.heap a v) : WE C F NoX (VRel C) (call (biVal .int) [v]) (biV H .int [a]) μ s := by
  induction a using AV.casesOn with
  | int i =>
    simp only [VR] at V
    obtain ⟨t, rfl⟩ := V
    intro hb Q E Po
    exact call_int_int (Po.done (t := s.toks) rfl I (by simp only [VRel, VR]; exact ⟨t, rfl⟩))
  | _ => exact WE.bad
theorem range_snd (I : Inv C μ H s.heap) (V : VR C μ s.heap a v) : WE C F NoX (VRel C) (call (biVal .range) [v]) (biV H .range [a]) μ s := by
  induction a using AV.casesOn with
  | int z =>
    simp only [VR] at V
    obtain ⟨t, rfl⟩ := V
    intro hb Q E Po
    by_cases hz : 0 ≤ z ∧ z ≤ 1000000
    · exact call_range_1 (Po.newRange (if_pos hz) I ⟨by decide, by decide, Int.le_trans (by decide) hz.1, Int.lt_of_le_of_lt hz.2 (by decide)⟩)
    · exact absurd (if_neg hz) hb
  | _ => exact WE.bad
theorem bi_snd {bi : Bi} {args : List AV} {vs : List Value} (hh : F.A.handled = none) (I : Inv C μ H s.heap) (V : VRs C μ s.heap args vs) : WE C F NoX (VRel C) (call (biVal bi) vs) (biV H bi args) μ s := by
  rcases args with _ | ⟨a, _ | ⟨c, _ | ⟨d, r⟩⟩⟩
  · exact WE.bad
  · obtain ⟨y, rfl, V1⟩ := vrs1 V
    induction bi using Bi.casesOn with
    | len => exact len_snd I V1
    | sorted => exact sorted_snd I V1
    | list => exact list_snd hh I V1
    | abs => exact abs_snd I V1
    | int => exact int_snd I V1
    | range => exact range_snd I V1
    | _ => exact WE.bad
  · obtain ⟨y, z, rfl, V1, W⟩ := vrs2 V
    induction bi using Bi.casesOn with
    | isi => exact isi_snd I V1 W
    | range => exact rng2_snd I V1 W
    | _ => exact WE.bad
  · exact WE.bad
end
end Mine
end
section
namespace Mine
open PySem PySem.W PySem.Calls PyProof.Rows
theorem isL_map {h : Heap} {a : Addr} {vs : Array Value} {n : Nat} (x : IsL h a vs n) (f : Array Value → Array Value) : ∃ k, IsL (h.update a (Obj.mapSeq f)) a (f vs) k := ⟨_, x.update f⟩
section
variable {C : Cx} {P : P0} {F : Fm} {μ : Mu} {H : AH} {s : Shared} {a b : AV} {v u : Value}
theorem upd_list {i : Nat} {p : Addr × Addr} {t : Nat} {l : List AV} {h' : Heap} {us : Array Value} {k : Nat} (I : Inv C μ H s.heap) (hp : μ[i]? = some p) (e1 : p.2 = p.1) (hs : Heap.SameBut p.1 s.heap h') (hL : IsL h' p.1 us k)
    (V : VRs C μ s.heap l us.toList) (hl : l.length ≤ big) : Step NoX μ s μ { s with heap := h', toks := t } ∧ Inv C μ (H.set i (.list l)) h' := by
  have S : Step NoX μ s μ { s with heap := h', toks := t } := Step.upd (own_lt hp).1 hs hL t
  refine ⟨S, I.upd hp (.inl rfl) hs hL ?_⟩
  simp only [OR]
  exact ⟨e1, hl, us, k, hL, V.step0 S⟩
theorem putd_snd {i n : Nat} {kl : List Nat} {kv rv : Value} {Q : Unit → Shared → Prop} {E : Value → Shared → Prop} (I : Inv C μ H s.heap) (hi : H[i]? = some (.dict n)) (V : VR C μ s.heap (.ref i) v) (Vk : VR C μ s.heap (.str kl) kv) (hlt : n < big)
    (h : ∀ s', Step NoX μ s μ s' → Inv C μ (H.set i (.dict (n + 1))) s'.heap → Q () s') : wpAny (model C.prog C.w) F.A (setItem v kv rv) Q E s := by
  simp only [VR] at V Vk
  obtain ⟨_, t, rfl⟩ := Vk
  obtain ⟨p, hp, rfl⟩ := V
  have := I.objs i _ p hi hp
  simp only [OR] at this
  obtain ⟨e1, hn, kvs, hk, hD⟩ := this
  refine wpAny_setItem_pairs (strKind_is C.prog C.w _ t) hD (fun h' hD' hs' => ?_) (by rw [big_eq]; exact Nat.le_trans hk hn)
  have hD'' := hD'
  obtain ⟨o, _, _, ho, _⟩ := hD''
  refine h _ (Step.upd (own_lt hp).1 hs' ho _) (I.upd hp (.inl rfl) hs' ho ?_)
  simp only [OR]
  exact ⟨e1, hlt, _, Nat.le_trans (stored_length_le _ _ _) (Nat.succ_le_succ hk), hD'⟩
theorem putl_snd {i j : Nat} {l : List AV} {k r : AV} {kv rv : Value} {Q : Unit → Shared → Prop} {E : Value → Shared → Prop} (I : Inv C μ H s.heap) (hl : H[i]? = some (.list l)) (V : VR C μ s.heap (.ref i) v) (Vk : VR C μ s.heap k kv) (Vr : VR C μ s.heap r rv) (hj : natOf k = some j) (hlt : j < l.length)
    (h : ∀ s', Step NoX μ s μ s' → Inv C μ (H.set i (.list (l.set j r))) s'.heap → Q () s') : wpAny (model C.prog C.w) F.A (setItem v kv rv) Q E s := by
  obtain ⟨z, rfl, h0, hz⟩ := natOf_int hj
  simp only [VR] at Vk
  obtain ⟨t, rfl⟩ := Vk
  obtain ⟨p, vs, n, hp, rfl, e1, hL, hv, hlen⟩ := I.list hl V
  have hsz := hv.len
  simp only [Array.length_toList] at hsz
  have hb' : big < 2 ^ 62 := by decide
  refine ki_setAt hL h0 (by lia) (by lia) ?_
  obtain ⟨k', hL'⟩ := isL_map hL (·.setIfInBounds z.toNat rv)
  obtain ⟨S, I'⟩ := upd_list (t := s.toks) (l := l.set j r) I hp e1 (Heap.SameBut.update _ _ _) hL' (by
    rw [Array.toList_setIfInBounds, hz]; exact VRs.set Vr j hv) (by rw [List.length_set]; exact hlen)
  exact h _ S I'
theorem puti_snd {k r : AV} {kv rv : Value} {H' : AH} {Q : Unit → Shared → Prop} {E : Value → Shared → Prop} (I : Inv C μ H s.heap) (V : VR C μ s.heap a v) (Vk : VR C μ s.heap k kv) (Vr : VR C μ s.heap r rv)
    (hp : putI H a k r = some H') (h : ∀ s', Step NoX μ s μ s' → Inv C μ H' s'.heap → Q () s') : wpAny (model C.prog C.w) F.A (setItem v kv rv) Q E s := by
  induction a using AV.casesOn with
  | ref i =>
    unfold putI at hp
    dsimp only at hp
    cases hi : H[i]? with
    | none => rw [hi] at hp; exact nn hp
    | some o =>
      rw [hi] at hp
      induction o using AObj.casesOn with
      | dict n =>
        induction k using AV.casesOn with
        | str kl =>
          have hp : (if n < big then some (H.set i (.dict (n + 1))) else none) = some H' := hp
          by_cases hlt : n < big
          · rw [if_pos hlt] at hp
            obtain rfl := Option.some.inj hp
            exact putd_snd I hi V Vk hlt h
          · rw [if_neg hlt] at hp; exact nn hp
        | _ => exact nn hp
      | list l =>
        have hp : (match natOf k with | some j => if j < l.length then some (H.set i (.list (l.set j r))) else none | none => none) = some H' := hp
        cases hj : natOf k with
        | none => rw [hj] at hp; exact nn hp
        | some j =>
          rw [hj] at hp
          have hp : (if j < l.length then some (H.set i (.list (l.set j r))) else none) = some H' := hp
          by_cases hlt : j < l.length
          · rw [if_pos hlt] at hp
            obtain rfl := Option.some.inj hp
            exact putl_snd I hi V Vk Vr hj hlt h
          · rw [if_neg hlt] at hp; exact nn hp
      | _ => exact nn hp
  | _ => exact nn hp
end
end Mine
end
section
namespace Mine
open PySem PySem.W PySem.Calls PyProof.Rows
noncomputable def bimId : Nat → String
  | 0 => "list.append"
  | 1 => "list.pop"
  | 2 => "list.extend"
  | 3 => "list.insert"
  | 4 => "list.reverse"
  | 5 => "str.join"
  | _ => "dict.get"
noncomputable def bimName : Nat → Str
  | 0 => "append"
  | 1 => "pop"
  | 2 => "extend"
  | 3 => "insert"
  | 4 => "reverse"
  | 5 => "join"
  | _ => "get"
theorem glue_list : ∀ (r : List (List Nat)) (acc : List Nat) (s : List Nat), (r.map fun x => (⟨x.toArray⟩ : Str)).foldl (fun acc p => acc ++ (⟨s.toArray⟩ : Str).cps ++ p.cps) acc.toArray = (acc ++ (r.map fun x => s ++ x).flatten).toArray
  | [], acc, s => by simp
  | x :: r, acc, s => by
    rw [List.map_cons, List.foldl_cons]
    have := glue_list r (acc ++ s ++ x) s
    simp only [List.append_toArray] at this ⊢
    rw [this]; simp
theorem joinL_eq (s : List Nat) : ∀ (l : List (List Nat)), joinL s l = match l with | [] => [] | x :: r => x ++ (r.map fun y => s ++ y).flatten
  | [] => rfl
  | [x] => by simp [joinL]
  | x :: y :: r => by
    simp only [joinL]
    rw [joinL_eq s (y :: r)]
    simp
theorem join_eq (s : List Nat) (l : List (List Nat)) : Txt.join ⟨s.toArray⟩ (l.map fun x => (⟨x.toArray⟩ : Str)) = ⟨(joinL s l).toArray⟩ := by
  rw [joinL_eq]
  unfold Txt.join Builtin.Str.glued
  induction l using List.casesOn with
  | nil => rfl
  | cons x r =>
    simp only [List.map_cons, List.drop_succ_cons, List.drop_zero, List.headD_cons]
    rw [glue_list]
theorem joinL_len (s : List Nat) (l : List (List Nat)) : (joinL s l).length ≤ (l.map (·.length)).sum + l.length * s.length := by
  rw [joinL_eq]
  induction l using List.casesOn with
  | nil => simp
  | cons x r =>
    simp only [List.length_append, List.map_cons, List.sum_cons, List.length_cons]
    have : ((r.map fun y => s ++ y).flatten).length = (r.map (·.length)).sum + r.length * s.length := by
      induction r with
      | nil => simp
      | cons y r ih => simp only [List.map_cons, List.flatten_cons, List.length_append, ih, List.sum_cons, List.length_cons, Nat.add_mul]; lia
    rw [this, Nat.add_mul]; lia
section
variable {C : Cx} {P : P0} {F : Fm} {μ : Mu} {H H₀ : AH} {s : Shared} {a b : AV} {v u : Value}
theorem bim_list {m : Nat} {pl : Sem Bool} {t : Addr} {vs : Array Value} {n : Nat} {Q : Value × List Value → Shared → Prop} {E : Value → Shared → Prop} (hL : IsL s.heap t vs n) (hm : m < 5) (h : Q (.builtin (bimId m), [.ref t]) s) :
    wpAny (model C.prog C.w) F.A (getMethod (.ref t) (bimName m) pl) Q E s := by
  have nd : ∀ a, Value.ref t = .ref a → ∃ o, s.heap.get? a = some o ∧ o.dict = none := fun a q => by (injection q with j1; subst j1); exact ⟨_, hL, rfl⟩
  have hT := hL.isList.typeIs
  rcases m with _ | _ | _ | _ | _ | m
  · exact getMethod_builtin hT PySem.F.plainAttrs_list PySem.F.slot_list_append PySem.F.type_list_append nd h
  · exact getMethod_builtin hT PySem.F.plainAttrs_list PySem.F.slot_list_pop PySem.F.type_list_pop nd h
  · exact getMethod_builtin hT PySem.F.plainAttrs_list PySem.F.slot_list_extend PySem.F.type_list_extend nd h
  · exact getMethod_builtin hT PySem.F.plainAttrs_list PySem.F.slot_list_insert PySem.F.type_list_insert nd h
  · exact getMethod_builtin hT PySem.F.plainAttrs_list PySem.F.slot_list_reverse PySem.F.type_list_reverse nd h
  · exact absurd hm (Nat.not_lt.mpr (Nat.le_add_left 5 m))
theorem bim_get {m : Nat} {pl : Sem Bool} {Q : Value × List Value → Shared → Prop} {E : Value → Shared → Prop} (I : Inv C μ H s.heap) (V : VR C μ s.heap a v) (e : headV P H a m = some .bim) (h : Q (.builtin (bimId m), [v]) s) :
    wpAny (model C.prog C.w) F.A (getMethod v (bimName m) pl) Q E s := by
  induction a using AV.casesOn with
  | ref i =>
    unfold headV at e
    dsimp only at e
    cases hi : H[i]? with
    | none => rw [hi] at e; exact nn e
    | some o =>
      rw [hi] at e
      induction o using AObj.casesOn with
      | inst c fs =>
        have e : (match lookL m fs, P.meth c m with | none, some k => some (Hd.fn k) | _, _ => none) = some .bim := e
        cases q : lookL m fs with
        | some w => rw [q] at e; exact nn e
        | none =>
          rw [q] at e
          cases q2 : P.meth c m with
          | none => rw [q2] at e; exact nn e
          | some k => rw [q2] at e; have e := Option.some.inj e; injection e
      | list l =>
        have e : (if m < 5 then some Hd.bim else none) = some .bim := e
        obtain ⟨p, vs, n, hp, rfl, e1, hL, hv, hz⟩ := I.list hi V
        by_cases hm : m < 5
        · exact bim_list hL hm h
        · rw [if_neg hm] at e; exact nn e
      | _ => exact nn e
  | str x =>
    have e : (if m = 5 then some Hd.bim else none) = some .bim := e
    by_cases hm : m = 5
    · subst hm
      simp only [VR] at V
      obtain ⟨_, t, rfl⟩ := V
      exact getMethod_builtin (typeIs_str s _ t) PySem.F.plainAttrs_str PySem.F.slot_str_join PySem.F.type_str_join (fun a q => by injection q) h
    · rw [if_neg hm] at e; exact nn e
  | _ => exact nn e
theorem Post.none {r : Out AV} {Q : Value → Shared → Prop} {E : Value → Shared → Prop} {H' : AH} {s' : Shared}
    (P : Post C NoX (VRel C) μ s r Q E) (e : r = .ok .none H') (S : Step NoX μ s μ s') (I : Inv C μ H' s'.heap) : Q .none s' :=
  P.ok μ .none H' .none s' e S I (by simp only [VRel, VR])
theorem pop_snd {i : Nat} {l : List AV} (I : Inv C μ H s.heap) (hl : H[i]? = some (.list l)) (V : VR C μ s.heap (.ref i) v) : WE C F NoX (VRel C) (call (.builtin (bimId 1)) [v]) (popV H i l) μ s := by
  unfold popV
  cases hy : l.getLast? with
  | none => exact WE.bad
  | some y =>
    intro hb Q E Po
    obtain ⟨p, xs, n, hp, rfl, e1, hL, hv, hz⟩ := I.list hl V
    have hzz := hv.len
    simp only [Array.length_toList] at hzz
    have hne : l ≠ [] := fun q => by subst q; injection hy
    have hlast : l[l.length - 1]? = some y := by rw [← List.getLast?_eq_getElem?]; exact hy
    obtain ⟨w, hw, Vw⟩ := hv.get hlast
    refine call_meets PySem.F.slot_list_pop hL.isList.typeIs PySem.F.entry_list_pop (PySem.F.args_list_pop_1 _) (MeetsSeq.list_pop_last p.1 xs n w (by rw [← hzz]; simpa using hw) (by rw [big_eq, ← hzz]; exact hz)) ⟨hL, ?_⟩
    obtain ⟨k', hL'⟩ := isL_map hL (fun xs' => xs'.eraseIdxIfInBounds (xs.size - 1))
    obtain ⟨S, I'⟩ := upd_list (t := s.toks) (l := l.dropLast) I hp e1 (Heap.SameBut.update _ _ _) hL' (by
      have hpos : 0 < l.length := List.length_pos_iff.mpr hne
      rw [Array.toList_eraseIdxIfInBounds, ← hzz, List.eraseIdx_eq_take_drop_succ, List.drop_eq_nil_of_le (by rw [Array.length_toList, ← hzz, Nat.sub_add_cancel hpos]; exact Nat.le_refl _), List.append_nil, List.dropLast_eq_take]
      exact hv.take _) (by rw [List.length_dropLast]; exact Nat.le_trans (Nat.sub_le _ _) hz)
    exact Po.ok _ _ _ _ _ rfl S I' (Vw.step0 S)
theorem rev_snd {i : Nat} {l : List AV} (I : Inv C μ H s.heap) (hl : H[i]? = some (.list l)) (V : VR C μ s.heap (.ref i) v) : WE C F NoX (VRel C) (call (.builtin (bimId 4)) [v]) (.ok .none (H.set i (.list l.reverse))) μ s := fun hb Q E Po => by
    obtain ⟨p, xs, n, hp, rfl, e1, hL, hv, hz⟩ := I.list hl V
    have hzz := hv.len
    simp only [Array.length_toList] at hzz
    refine call_meets PySem.F.slot_list_reverse hL.isList.typeIs PySem.F.entry_list_reverse (PySem.F.args_list_reverse_1 _) (AutoSeq1.list_reverse_list_0 p.1 xs n (by rw [big_eq, ← hzz]; exact hz)) ⟨hL, ?_⟩
    obtain ⟨k', hL'⟩ := isL_map hL (fun xs => xs.reverse)
    obtain ⟨S, I'⟩ := upd_list (t := s.toks) (l := l.reverse) I hp e1 (Heap.SameBut.update _ _ _) hL' (by
      rw [Array.toList_reverse]; exact hv.rev) (by rw [List.length_reverse]; exact hz)
    exact Po.none rfl S I'
theorem ins_snd {i : Nat} {l : List AV} {k x : AV} {kv y : Value} (I : Inv C μ H s.heap) (hl : H[i]? = some (.list l)) (V : VR C μ s.heap (.ref i) v) (Vk : VR C μ s.heap k kv) (V1 : VR C μ s.heap x y) : WE C F NoX (VRel C) (call (.builtin (bimId 3)) [v, kv, y]) (insV H i l k x) μ s := by
  induction k using AV.casesOn with
  | int z =>
    by_cases hc : z = 0 ∧ l.length < big
    · intro hb Q E Po0
      have Po : Post C NoX (VRel C) μ s (if z = 0 ∧ l.length < big then .ok .none (H.set i (.list (x :: l))) else .bad) Q E := Po0
      clear Po0 hb
      rw [if_pos hc] at Po
      obtain ⟨rfl, hlt⟩ := hc
      simp only [VR] at Vk
      obtain ⟨t, rfl⟩ := Vk
      obtain ⟨p, xs, n, hp, rfl, e1, hL, hv, hz⟩ := I.list hl V
      have hzz := hv.len
      simp only [Array.length_toList] at hzz
      refine call_meets PySem.F.slot_list_insert hL.isList.typeIs PySem.F.entry_list_insert (PySem.F.args_list_insert_3 _ _ _) (AutoSeq1.list_insert_list_int_val_1 p.1 xs n 0 t y (by decide) (by rw [big_eq, ← hzz]; exact Nat.le_of_lt hlt)) ⟨hL, ?_⟩
      obtain ⟨k', hL'⟩ := isL_map hL (fun xs => (xs.extract 0 (if (0 : Int) < 0 then ((0 : Int) + (xs.size : Int)).toNat else min (0 : Int).toNat xs.size)).push y ++ xs.extract (if (0 : Int) < 0 then ((0 : Int) + (xs.size : Int)).toNat else min (0 : Int).toNat xs.size))
      obtain ⟨S, I'⟩ := upd_list (t := s.toks) (l := x :: l) I hp e1 (Heap.SameBut.update _ _ _) hL' (by
        have e3 : ((xs.extract 0 (if (0 : Int) < 0 then ((0 : Int) + (xs.size : Int)).toNat else min (0 : Int).toNat xs.size)).push y ++ xs.extract (if (0 : Int) < 0 then ((0 : Int) + (xs.size : Int)).toNat else min (0 : Int).toNat xs.size)).toList = y :: xs.toList := by simp
        rw [e3]; simp only [VRs]; exact ⟨V1, hv⟩) (by rw [List.length_cons]; exact hlt)
      exact Po.none rfl S I'
    · exact fun hb => absurd (if_neg hc) hb
  | _ => exact WE.bad
theorem pop0_snd {i : Nat} {l : List AV} {k : AV} {kv : Value} (I : Inv C μ H s.heap) (hl : H[i]? = some (.list l)) (V : VR C μ s.heap (.ref i) v) (V1 : VR C μ s.heap k kv) : WE C F NoX (VRel C) (call (.builtin (bimId 1)) [v, kv]) (pop0 H i l k) μ s := by
  induction k using AV.casesOn with
  | int z =>
    by_cases hc : z = 0
    · subst hc
      rcases l with _ | ⟨b, r⟩
      · exact WE.bad
      · intro hb Q E Po
        obtain ⟨p, xs, n, hp, rfl, e1, hL, hv, hz⟩ := I.list hl V
        have hzz := hv.len
        simp only [Array.length_toList] at hzz
        obtain ⟨w, hw, Vw⟩ := hv.get (k := 0) (x := b) rfl
        simp only [VR] at V1
        obtain ⟨t, rfl⟩ := V1
        have hpos : 0 < xs.size := by rw [← hzz]; exact Nat.succ_pos _
        refine call_meets PySem.F.slot_list_pop hL.isList.typeIs PySem.F.entry_list_pop (PySem.F.args_list_pop_2 _ _) (MeetsSeq.list_pop_at p.1 xs n 0 t 0 w (by decide) (seqIdx (Int.le_refl _) rfl hpos) (by simpa using hw) (by rw [big_eq, ← hzz]; exact hz)) ⟨hL, ?_⟩
        obtain ⟨k', hL'⟩ := isL_map hL (fun xs' => xs'.eraseIdxIfInBounds 0)
        obtain ⟨S, I'⟩ := upd_list (t := s.toks) (l := r) I hp e1 (Heap.SameBut.update _ _ _) hL' (by
          rw [Array.toList_eraseIdxIfInBounds, List.eraseIdx_zero, ← List.drop_one]
          exact hv.drop 1) (Nat.le_of_succ_le hz)
        exact Po.ok _ _ _ _ _ rfl S I' (Vw.step0 S)
    · exact fun hb => absurd (if_neg hc) hb
  | _ => exact WE.bad
theorem app_snd {i : Nat} {l : List AV} {x : AV} {y : Value} (I : Inv C μ H s.heap) (hl : H[i]? = some (.list l)) (V : VR C μ s.heap (.ref i) v) (V1 : VR C μ s.heap x y) : WE C F NoX (VRel C) (call (.builtin (bimId 0)) [v, y]) (if l.length < big then .ok .none (H.set i (.list (l ++ [x]))) else .bad) μ s := by
  by_cases hlt : l.length < big
  · rw [if_pos hlt]
    intro hb Q E Po
    obtain ⟨p, xs, n, hp, rfl, e1, hL, hv, hz⟩ := I.list hl V
    have hzz := hv.len
    simp only [Array.length_toList] at hzz
    refine call_meets PySem.F.slot_list_append hL.isList.typeIs PySem.F.entry_list_append (PySem.F.args_list_append_2 _ _) (list_append p.1 xs n y (by rw [big_eq, ← hzz]; exact Nat.le_of_lt hlt)) ⟨hL, ?_⟩
    obtain ⟨k', hL'⟩ := isL_map hL (fun xs => xs.push y)
    obtain ⟨S, I'⟩ := upd_list (t := s.toks) (l := l ++ [x]) I hp e1 (Heap.SameBut.update _ _ _) hL' (by
      rw [Array.toList_push]; exact hv.append (by simpa only [VRs, and_true] using V1)) (by rw [List.length_append]; exact hlt)
    exact Po.none rfl S I'
  · rw [if_neg hlt]; exact WE.bad
theorem extV_list {i j : Nat} {l z : List AV} (hx : H[j]? = some (.list z)) : extV H i l (.ref j) = if l.length + z.length < big then .ok .none (H.set i (.list (l ++ z))) else .bad := by
  show (match H[j]? with | some (.list x) => _ | _ => _) = _
  rw [hx]
set_option tactic.hygienic true
theorem extV_bad {i j : Nat} {l : List AV} (hx : ∀ z, H[j]? ≠ some (.list z)) : extV H i l (.ref j) = .bad := by
  unfold extV
  dsimp only
  split
  · rename_i z h; exact absurd h (hx z)
  · rfl
set_option tactic.hygienic false
theorem extl_snd {i : Nat} {l : List AV} {x : AV} {y : Value} (I : Inv C μ H s.heap) (hl : H[i]? = some (.list l)) (V : VR C μ s.heap (.ref i) v) (V1 : VR C μ s.heap x y) : WE C F NoX (VRel C) (call (.builtin (bimId 2)) [v, y]) (extV H i l x) μ s := by
  induction x using AV.casesOn with
  | ref j =>
    refine at_list (fun z hx => ?_) fun hx => by rw [extV_bad hx]; exact WE.bad
    rw [extV_list hx]
    by_cases hlt : l.length + z.length < big
    · rw [if_pos hlt]
      intro hb Q E Po
      obtain ⟨p, xs, n, hp, rfl, e1, hL, hv, hz⟩ := I.list hl V
      have hzz := hv.len
      simp only [Array.length_toList] at hzz
      obtain ⟨q, ys, n2, hq, rfl, f1, hM, hw, hz2⟩ := I.list hx V1
      have hzz2 := hw.len
      simp only [Array.length_toList] at hzz2
      refine call_meets PySem.F.slot_list_extend hL.isList.typeIs PySem.F.entry_list_extend (PySem.F.args_list_extend_2 _ _) (AutoSeq1.list_extend_list_list_0 p.1 xs n q.1 ys n2 (by
        unfold Builtin.List.listTooLong
        rw [big_eq]
        simp; lia) (by rw [big_eq, ← hzz]; exact hz) (by rw [big_eq, ← hzz, ← hzz2]; exact Nat.le_succ_of_le (Nat.le_of_lt hlt))) ⟨hL, hM, ?_⟩
      obtain ⟨k', hL'⟩ := isL_map hL (fun xs => xs ++ ys)
      obtain ⟨S, I'⟩ := upd_list (t := s.toks) (l := l ++ z) I hp e1 (Heap.SameBut.update _ _ _) hL' (by
        rw [Array.toList_append]; exact hv.append hw) (by rw [List.length_append]; exact Nat.le_of_lt hlt)
      exact Po.none rfl S I'
    · rw [if_neg hlt]; exact WE.bad
  | _ => exact WE.bad
theorem li_snd {i m : Nat} {l : List AV} {args : List AV} {vs : List Value} (I : Inv C μ H s.heap) (hl : H[i]? = some (.list l)) (V : VR C μ s.heap (.ref i) v) (W : VRs C μ s.heap args vs) :
    WE C F NoX (VRel C) (call (.builtin (bimId m)) (v :: vs)) (liV H i l m args) μ s := by
  rcases args with _ | ⟨a, _ | ⟨b, _ | ⟨c, r⟩⟩⟩
  · obtain rfl := vrs0 W
    rcases m with _ | _ | _ | _ | _ | m
    · exact WE.bad
    · exact pop_snd I hl V
    · exact WE.bad
    · exact WE.bad
    · exact rev_snd I hl V
    · exact WE.bad
  · obtain ⟨y, rfl, V1⟩ := vrs1 W
    rcases m with _ | _ | _ | m
    · exact app_snd I hl V V1
    · exact pop0_snd I hl V V1
    · exact extl_snd I hl V V1
    · exact WE.bad
  · obtain ⟨kv, y, rfl, Vk, V1⟩ := vrs2 W
    rcases m with _ | _ | _ | _ | m
    · exact WE.bad
    · exact WE.bad
    · exact WE.bad
    · exact ins_snd I hl V Vk V1
    · exact WE.bad
  · exact WE.bad
theorem joinV_list {j : Nat} {x : List Nat} {l : List AV} (hx : H[j]? = some (.list l)) : joinV H x (.ref j) = match strsOf l with
    | some ss => if (ss.map (·.length)).sum + ss.length * x.length ≤ 16777216 then .ok (.str (joinL x ss)) H else .bad
    | none => .bad := by
  show (match H[j]? with | some (.list l) => _ | _ => _) = _
  rw [hx]
  all_goals rfl
set_option tactic.hygienic true
theorem joinV_bad {j : Nat} {x : List Nat} (hx : ∀ z, H[j]? ≠ some (.list z)) : joinV H x (.ref j) = .bad := by
  unfold joinV
  dsimp only
  split
  · rename_i z h; exact absurd h (hx z)
  · rfl
set_option tactic.hygienic false
theorem join_snd {x : List Nat} {b : AV} {y : Value} (I : Inv C μ H s.heap) (V : VR C μ s.heap (.str x) v) (V1 : VR C μ s.heap b y) : WE C F NoX (VRel C) (call (.builtin (bimId 5)) [v, y]) (joinV H x b) μ s := by
  induction b using AV.casesOn with
  | ref j =>
    refine at_list (fun l hl => ?_) fun hx => by rw [joinV_bad hx]; exact WE.bad
    rw [joinV_list hl]
    cases hs : strsOf l with
    | none => exact WE.bad
    | some ss =>
      show WE C F NoX (VRel C) _ (if (ss.map (·.length)).sum + ss.length * x.length ≤ 16777216 then .ok (.str (joinL x ss)) H else .bad) μ s
      by_cases hlen : (ss.map (·.length)).sum + ss.length * x.length ≤ 16777216
      · rw [if_pos hlen]
        intro hb Q E Po
        obtain ⟨p, xs, n, hp, rfl, e1, hL, hv, hz⟩ := I.list hl V1
        simp only [VR] at V
        obtain ⟨hx, t, rfl⟩ := V
        refine PyProof.Rows.join_list hL.isList (strs_of hs hv) ?_ (fun t' k => Po.done rfl I ?_)
        · rw [List.map_map, List.length_map, str_len]
          have : ((fun x : Str => x.length) ∘ fun x : List Nat => (⟨x.toArray⟩ : Str)) = fun x => x.length := by funext z; simp [Str.length]
          rw [this]; exact hlen
        · rw [join_eq]
          simp only [VRel, VR]
          exact ⟨Nat.le_trans (joinL_len x ss) hlen, t', rfl⟩
      · rw [if_neg hlen]; exact WE.bad
  | _ => exact WE.bad
theorem bimV_list {i m : Nat} {l args : List AV} (hx : H[i]? = some (.list l)) : bimV H (.ref i) m args = liV H i l m args := by
  show (match H[i]? with | some (.list l) => _ | _ => _) = _
  rw [hx]
set_option tactic.hygienic true
theorem bimV_bad {i m : Nat} {args : List AV} (hx : ∀ z, H[i]? ≠ some (.list z)) : bimV H (.ref i) m args = .bad := by
  unfold bimV
  dsimp only
  split
  · rename_i z h; exact absurd h (hx z)
  · rfl
set_option tactic.hygienic false
theorem bim_snd {m : Nat} {args : List AV} {vs : List Value} (he : headV P H₀ a m = some .bim) (I : Inv C μ H s.heap) (V : VR C μ s.heap a v) (W : VRs C μ s.heap args vs) :
    WE C F NoX (VRel C) (call (.builtin (bimId m)) (v :: vs)) (bimV H a m args) μ s := by
  induction a using AV.casesOn with
  | ref i =>
    refine at_list (fun l hl => ?_) fun hx => by rw [bimV_bad hx]; exact WE.bad
    rw [bimV_list hl]
    exact li_snd I hl V W
  | str x =>
    rcases args with _ | ⟨b, _ | ⟨c, r⟩⟩
    · exact WE.bad
    · obtain ⟨y, rfl, V1⟩ := vrs1 W
      have he : (if m = 5 then some Hd.bim else none) = some .bim := he
      by_cases hm : m = 5
      · subst hm
        exact join_snd I V V1
      · rw [if_neg hm] at he; injection he
    · exact WE.bad
  | _ => exact WE.bad
end
end Mine
end
section
namespace Mine
open PySem PySem.W PySem.Calls PyProof.Rows
structure AOk (d : Nat) (fs : List Env) (A : Around) : Prop where
  handled : A.handled = none
  frames : A.frames = some fs
  depth : A.depth + 4 * d < 990
  units : A.units + 16 * d < 9000
structure FS (F : Fm) (d : Nat) : Prop where
  handled : F.A.handled = none
  frames : F.A.frames = some F.fr
  depth : F.A.depth + 4 * d + 2 < 990
  units : F.A.units + 16 * d + 8 < 9000
  kind : F.env.scope.kind = .function
  glob : F.env.globals = mainGlobals
  blt : F.env.builtins = builtinsNs
  nodup : F.slots.Nodup
  wrL : F.env.locals ∈ F.wr
  wrs : ∀ a ∈ F.wr, a = F.env.locals ∨ ∃ p ∈ F.env.cells, a = p.2
  cel : ∀ x, F.env.scope.names.lookup x = some .cell → ∃ c, F.env.cells.lookup x = some c
structure GName (C : Cx) (mg mb : Str → Option Value) : Prop where
  g : C.base.Ns mainGlobals mg
  b : C.base.Ns builtinsNs mb
  ok : ∀ (g : Nat) (x : Str) (v : AV), C.gt[g]? = some (x, v) → ∃ rv, ((mg x = some rv) ∨ (mg x = none ∧ mb x = some rv)) ∧ ∀ μ h, (∀ b o, C.base.get? b = some o → h.get? b = some o) → (∀ p ∈ μ, C.base.get? p.1 = none ∧ C.base.get? p.2 = none) → VR C μ h v rv
section
variable {α β : Type} {C : Cx} {P : P0} {F : Fm} {call : Nat → List AV → AH → Out AV} {N : Nat} {μ : Mu} {H : AH} {s : Shared} {l : Loc}
noncomputable def SE (C : Cx) (P : P0) (F : Fm) (call : Nat → List AV → AH → Out AV) (N : Nat) (e : E) : Prop :=
  ∀ μ H s l, Inv C μ H s.heap → FR C F μ l s.heap → WE C F NoX (VRel C) (eval (py e) F.env) (evE P call N (st C.gt e) l H) μ s
noncomputable def SEs (C : Cx) (P : P0) (F : Fm) (call : Nat → List AV → AH → Out AV) (N : Nat) (es : List E) : Prop :=
  ∀ p μ H s l, Inv C μ H s.heap → FR C F μ l s.heap → WE C F NoX (VRels C) (spliced (backTo p (starEach (pys es) F.env))) (evEs P call N (sts C.gt es) l H) μ s
noncomputable def evT (P : P0) (call : Nat → List AV → AH → Out AV) (N : Nat) (e : E0) (l : Loc) (H : AH) : Out Bool :=
  (evE P call N e l H).bind fun v H => match truthV v with | some b => .ok b H | none => .bad
noncomputable abbrev BRel : Mu → Heap → Bool → Bool → Prop := fun _ _ a b => a = b
noncomputable def ST (C : Cx) (P : P0) (F : Fm) (call : Nat → List AV → AH → Out AV) (N : Nat) (e : E) : Prop :=
  ∀ μ H s l, Inv C μ H s.heap → FR C F μ l s.heap → WE C F NoX BRel (isTrue (py e) F.env (eval (py e) F.env)) (evT P call N (st C.gt e) l H) μ s
theorem mb_py {op : CmpOp} (e : E) : behindInMarks op (py e) = false := by rcases e with _ | _ | _ | _ | _ | _ | _ | _ | _ | _ | _ | _ | _ | _ | _ | _ | _ | _ | _ | _ | _ | _ | _ | _ | _ <;> rfl
theorem starEach_py (e : E) (r : List Expr) (env : Env) : starEach (py e :: r) env = (false, eval (py e) env) :: starEach r env := by induction e using Mine.E.casesOn <;> rfl
theorem backTo_cons (p : Pos) (t : Sem Value) (r : List (Bool × Sem Value)) : backTo p ((false, t) :: r) = (false, t) :: backTo p r := rfl
theorem ses_nil : SEs C P F call N [] := fun p μ H s l I R hb Q E Po =>
  Calls.spliced_nil (Po.ok μ [] H [] s rfl .refl I (by simp [VRels, VRs]))
theorem ses_cons {e : E} {es : List E} (h1 : SE C P F call N e) (h2 : SEs C P F call N es) : SEs C P F call N (e :: es) := fun p μ H s l I R => by
  show WE C F NoX (VRels C) (spliced (backTo p (starEach (py e :: pys es) F.env))) ((evE P call N (st C.gt e) l H).bind fun v H => (evEs P call N (sts C.gt es) l H).bind fun vs H => .ok (v :: vs) H) μ s
  intro hb Q E Po
  rw [starEach_py, backTo_cons]
  refine Calls.spliced_cons (WE.bind (h1 μ H s l I R) hb Po fun μ₁ a H₁ v s₁ e1 S1 I1 V1 hb1 Po1 => ?_)
  refine WE.bind (h2 p μ₁ H₁ s₁ l I1 (R.step0 S1)) hb1 Po1 fun μ₂ as H₂ vs s₂ e2 S2 I2 V2 hb2 Po2 => ?_
  refine Po2.ok μ₂ (a :: as) H₂ (v :: vs) s₂ rfl .refl I2 ?_
  simp only [VRels, VRs]
  exact ⟨VR.step0 S2 V1, V2⟩
theorem se_cint {i : Int} {k : Nat} {p : Pos} : SE C P F call N (.cint i k p) := fun μ H s l I R hb Q E Po =>
  wpAny_Constant_int (Po.done rfl I (by simp only [VRel, VR]; exact ⟨_, rfl⟩))
theorem se_cstr {x : Str} {k : Nat} {p : Pos} (hx : x.cps.size ≤ 1000) : SE C P F call N (.cstr x k p) := fun μ H s l I R hb Q E Po =>
  Calls.Constant_str (Po.done rfl I (by
    simp only [VRel, VR]
    exact ⟨by rw [Array.length_toList]; have : big = 16777216 := rfl; lia, s.toks, by rw [str_eta]⟩))
theorem se_cbool {b : Bool} {k : Nat} {p : Pos} : SE C P F call N (.cbool b k p) := fun μ H s l I R hb Q E Po =>
  show wpAny _ _ (pure (Value.bool b)) _ _ _ from wpAny_pure (Po.done (t := s.toks) rfl I (by simp only [VRel, VR]))
theorem se_cnone {k : Nat} {p : Pos} : SE C P F call N (.cnone k p) := fun μ H s l I R hb Q E Po =>
  show wpAny _ _ (pure Value.none) _ _ _ from wpAny_pure (Po.done (t := s.toks) rfl I (by simp only [VRel, VR]))
theorem se_bad {e : E} (h : st C.gt e = .bad) : SE C P F call N e := fun μ H s l I R hb => absurd (by rw [h]; rfl) hb
theorem At.loc {m : Str → Option Value} {h : Heap} {x : Str} {rv : Value} (hk : F.env.scope.names.lookup x = some .local) (a : At F m h x rv) : m x = some rv := by
  unfold At at a
  rw [show F.env.kindOf x = some .local from hk] at a
  exact a
theorem At.cell {m : Str → Option Value} {h : Heap} {x : Str} {rv : Value} (hk : F.env.scope.names.lookup x = some .cell) (a : At F m h x rv) : ∃ c, F.env.cells.lookup x = some c ∧ h.IsCell c (some rv) := by
  unfold At at a
  rw [show F.env.kindOf x = some .cell from hk] at a
  exact a
theorem loc_core {d : Nat} {x : Str} {i : Nat} {p : Pos} {v : AV} {Q : Value → Shared → Prop} {E : Value → Shared → Prop} (S : FS F d) (hi : F.slots[i]? = some x) (hk : F.env.scope.names.lookup x = some .local ∨ F.env.scope.names.lookup x = some .cell) (hd : (x == ("__debug__" : Str)) = false) (R : FR C F μ l s.heap) (hv : l[i]? = some (some v))
    (k : ∀ y, VR C μ s.heap v y → Q y s) : wpAny (model C.prog C.w) F.A (eval (py (.loc x i p)) F.env) Q E s := by
  obtain ⟨m, hn, hm⟩ := R.ns
  obtain ⟨rv, e, V⟩ := hm i x v hi hv
  rcases hk with hk | hk
  · exact wpAny_Name (wpAny_loadName_local S.kind hk hn (At.loc hk e) (k _ V)) hd
  · obtain ⟨c, hc, hv⟩ := At.cell hk e
    exact wpAny_Name (wpAny_loadName_cell S.kind hk hc hv (k _ V)) hd
set_option tactic.hygienic true
theorem se_loc {d : Nat} {x : Str} {i : Nat} {p : Pos} (S : FS F d) (hi : F.slots[i]? = some x) (hk : F.env.scope.names.lookup x = some .local ∨ F.env.scope.names.lookup x = some .cell) (hd : (x == ("__debug__" : Str)) = false) : SE C P F call N (.loc x i p) := fun μ H s l I R => by
  show WE C F NoX (VRel C) _ (match l[i]? with | some (some v) => .ok v H | _ => .bad) μ s
  intro hb Q E Po
  split at hb
  · rename_i v hv
    rw [hv] at Po
    exact loc_core S hi hk hd R hv fun y V => Po.done (t := s.toks) rfl I V
  · exact absurd rfl hb
set_option tactic.hygienic false
theorem se_glob {d : Nat} {x : Str} {g : Nat} {p : Pos} {mg mb : Str → Option Value} (S : FS F d) (G : GName C mg mb) (hg : (C.gt[g]?).map (·.1) = some x) (hk : F.env.scope.names.lookup x = some .globalImplicit) (hd : (x == ("__debug__" : Str)) = false) :
    SE C P F call N (.glob x g p) := fun μ H s l I R hb Q E Po => by
  obtain ⟨⟨x', v⟩, hgv, rfl⟩ := Option.map_eq_some_iff.mp hg
  have e : evE P call N (st C.gt (.glob x' g p)) l H = .ok v H := by
    show Out.ok (((C.gt[g]?).map (·.2)).getD .none) H = _
    rw [hgv]; rfl
  rw [e] at hb Po
  obtain ⟨rv, hrv, hV⟩ := G.ok g x' v hgv
  have q : Q rv s := Po.done (t := s.toks) rfl I (hV μ s.heap I.stays I.new)
  have hg' : s.heap.Ns F.env.globals mg := by rw [S.glob]; exact G.g.keeps I.stays
  have hb' : s.heap.Ns F.env.builtins mb := by rw [S.blt]; exact G.b.keeps I.stays
  rcases hrv with h1 | ⟨h1, h2⟩
  · exact Name_function_global S.kind hk (loadGlobal_global hg' h1 q) hd
  · exact Name_function_global S.kind hk (loadGlobal_builtin hg' h1 hb' h2 q) hd
theorem evEs_len (es : List E) : ∀ (l : Loc) (H : AH) (as : List AV) (H' : AH), evEs P call N (sts C.gt es) l H = .ok as H' → as.length = es.length := by
  induction es with
  | nil => intro l H as H' e; (injection e with j1 j2; subst j1 j2); rfl
  | cons e es ih =>
    intro l H as H' q
    have q : ((evE P call N (st C.gt e) l H).bind fun v H => (evEs P call N (sts C.gt es) l H).bind fun vs H => .ok (v :: vs) H) = .ok as H' := q
    cases h1 : evE P call N (st C.gt e) l H with
    | ok a H1 =>
      rw [h1] at q
      cases h2 : evEs P call N (sts C.gt es) l H1 with
      | ok bs H2 =>
        have q : (evEs P call N (sts C.gt es) l H1).bind (fun vs H => .ok (a :: vs) H) = .ok as H' := q
        rw [h2] at q; (injection q with j1 j2; subst j1 j2); exact congrArg Nat.succ (ih _ _ _ _ h2)
      | _ =>
        have q : (evEs P call N (sts C.gt es) l H1).bind (fun vs H => .ok (a :: vs) H) = .ok as H' := q
        rw [h2] at q; injection q
    | _ => rw [h1] at q; injection q
theorem se_tup {es : List E} {k : Nat} {p : Pos} (h : SEs C P F call N es) (hl : es.length ≤ 1000) : SE C P F call N (.tup es k p) := fun μ H s l I R => by
  show WE C F NoX (VRel C) _ ((evEs P call N (sts C.gt es) l H).bind fun vs H => .ok (.tup vs) H) μ s
  intro hb Q E Po
  refine wpAny_Tuple (WE.bind (h p μ H s l I R) hb Po fun μ₁ as H₁ vs s₁ e1 S1 I1 V1 hb1 Po1 => ?_)
  have hlen := evEs_len es l H as H₁ e1
  have hb' : big = 16777216 := rfl
  have hl2 := VRs.len V1
  exact ⟨by rw [big_eq, ← hl2]; lia, Po1.newTuple (t := s₁.toks) rfl I1 V1 (by lia)⟩
theorem se_list {es : List E} {p : Pos} (h : SEs C P F call N es) (hl : es.length ≤ 1000) : SE C P F call N (.list es p) := fun μ H s l I R => by
  show WE C F NoX (VRel C) _ ((evEs P call N (sts C.gt es) l H).bind fun vs H => .ok (.ref H.length) (H ++ [.list vs])) μ s
  intro hb Q E Po
  refine wpAny_List (WE.bind (h p μ H s l I R) hb Po fun μ₁ as H₁ vs s₁ e1 S1 I1 V1 hb1 Po1 => ?_)
  have hlen := evEs_len es l H as H₁ e1
  have hb' : big = 16777216 := rfl
  have hl2 := VRs.len V1
  exact ⟨by rw [big_eq, ← hl2]; lia, Po1.newList (t := s₁.toks) rfl I1 V1 (by lia)⟩
noncomputable def noSuper : E → Bool
  | .call (.glob x _ _) _ _ => x != ("super" : Str)
  | .call (.gbad x _) _ _ => x != ("super" : Str)
  | .call (.loc x _ _) _ _ => x != ("super" : Str)
  | _ => true
theorem base_name {y x : Str} {q p : Pos} {env : Env} (h : (y != ("super" : Str)) = true) : attributeBase (.Call (.Name y q) [] [] p) x env (eval (.Call (.Name y q) [] [] p) env) = eval (.Call (.Name y q) [] [] p) env := by
  unfold attributeBase
  dsimp only
  rw [if_pos (by rw [h]; rfl)]
theorem base_of {o : E} {x : Str} {env : Env} (h : noSuper o = true) : attributeBase (py o) x env (eval (py o) env) = eval (py o) env := by
  induction o using Mine.E.casesOn with
  | call f args p =>
    induction args using List.casesOn with
    | cons a r => induction f using Mine.E.casesOn <;> rfl
    | nil =>
      induction f using Mine.E.casesOn with
      | glob y g q => exact base_name h
      | gbad y q => exact base_name h
      | loc y i q => exact base_name h
      | _ => rfl
  | _ => rfl
theorem se_attr {o : E} {x : Str} {a : Nat} {p : Pos} (G : Good C P) (h : SE C P F call N o) (hs : noSuper o = true) (hx : C.nm[a]? = some x) : SE C P F call N (.attr o x a p) := fun μ H s l I R => by
  show WE C F NoX (VRel C) _ ((evE P call N (st C.gt o) l H).bind fun v H => match attrV P.fld H v a with | some r => .ok r H | none => .bad) μ s
  intro hb Q E Po
  refine Attribute_any_ (WE.bind (h μ H s l I R) hb Po fun μ₁ b H₁ v s₁ e1 S1 I1 V1 hb1 Po1 => attr_snd G I1 V1 hx hb1 Q E Po1) ?_
  show (do let o ← attributeBase (py o) x F.env (eval (py o) F.env); _) = _
  rw [base_of hs]
theorem sub_plain {i : E} (v u : Value) : ∃ ops, subscripted (py i) false v u = operate ops (getItem v u) := by induction i using Mine.E.casesOn <;> exact ⟨_, rfl⟩
theorem se_item {o i : E} {p : Pos} (h1 : SE C P F call N o) (h2 : SE C P F call N i) : SE C P F call N (.item o i p) := fun μ H s l I R => by
  show WE C F NoX (VRel C) _ ((evE P call N (st C.gt o) l H).bind fun v H => (evE P call N (st C.gt i) l H).bind fun k H => match itemV H v k with | some r => .ok r H | none => .bad) μ s
  intro hb Q E Po
  refine Subscript_ (WE.bind (h1 μ H s l I R) hb Po fun μ₁ a H₁ v s₁ e1 S1 I1 V1 hb1 Po1 => ?_)
  refine WE.bind (h2 μ₁ H₁ s₁ l I1 (R.step0 S1)) hb1 Po1 fun μ₂ b H₂ u s₂ e2 S2 I2 V2 hb2 Po2 => ?_
  exact item_snd I2 (V1.step0 S2) V2 sub_plain hb2 Q E Po2
noncomputable def SP (C : Cx) (P : P0) (F : Fm) (call : Nat → List AV → AH → Out AV) (N : Nat) (e : E) : Prop :=
  ∀ μ H s l, Inv C μ H s.heap → FR C F μ l s.heap → WE C F NoX (VRel C) (evalPart (pyO e) F.env) (evE P call N (st C.gt e) l H) μ s
theorem so_non : SP C P F call N .non := fun μ H s l I R hb Q E Po =>
  show wpAny _ _ (pure Value.none) _ _ _ from wpAny_pure (Po.done (t := s.toks) rfl I (by simp only [VRel, VR]))
theorem so_of {e : E} (hn : ∀ q : e = .non, False) (h : SE C P F call N e) : SP C P F call N e := fun μ H s l I R => by
  have : evalPart (pyO e) F.env = eval (py e) F.env := by induction e using Mine.E.casesOn <;> first | rfl | exact (hn rfl).elim
  rw [this]; exact h μ H s l I R
theorem slice_ops {a b c : Option PySem.Expr} {p1 : Pos} {v u : Value} : ∃ ops, subscripted (.Slice a b c p1) false v u = operate ops (getItem v u) := by
  rcases c with _ | c <;> exact ⟨_, rfl⟩
theorem se_slice {o lo hi z : E} {p1 p : Pos} (h1 : SE C P F call N o) (h2 : SP C P F call N lo) (h3 : SP C P F call N hi) (h4 : SP C P F call N z) : SE C P F call N (.slice o lo hi z p1 p) := fun μ H s l I R => by
  show WE C F NoX (VRel C) _ ((evE P call N (st C.gt o) l H).bind fun v H => (evE P call N (st C.gt lo) l H).bind fun a H => (evE P call N (st C.gt hi) l H).bind fun b H => (evE P call N (st C.gt z) l H).bind fun c H => sliceV H v a b c) μ s
  intro hb Q E Po
  refine Subscript_ (WE.bind (h1 μ H s l I R) hb Po fun μ₁ a H₁ v s₁ e1 S1 I1 V1 hb1 Po1 => ?_)
  have R1 := R.step0 S1
  refine wpAny_Slice (WE.bind (h2 μ₁ H₁ s₁ l I1 R1) hb1 Po1 fun μ₂ b H₂ vl s₂ e2 S2 I2 V2 hb2 Po2 => ?_)
  have R2 := R1.step0 S2
  refine WE.bind (h3 μ₂ H₂ s₂ l I2 R2) hb2 Po2 fun μ₃ c H₃ vu s₃ e3 S3 I3 V3 hb3 Po3 => ?_
  have R3 := R2.step0 S3
  refine WE.bind (h4 μ₃ H₃ s₃ l I3 R3) hb3 Po3 fun μ₄ d H₄ vz s₄ e4 S4 I4 V4 hb4 Po4 => ?_
  refine slice_snd I4 (((VR.step0 S2 V1).step0 S3).step0 S4) ((VR.step0 S3 V2).step0 S4) (VR.step0 S4 V3) V4 (fun v u => slice_ops) hb4 Po4
theorem se_bin {x y : E} {op : Operator} {p : Pos} (h1 : SE C P F call N x) (h2 : SE C P F call N y) : SE C P F call N (.bin x op y p) := fun μ H s l I R => by
  show WE C F NoX (VRel C) _ ((evE P call N (st C.gt x) l H).bind fun a H => (evE P call N (st C.gt y) l H).bind fun b H => binV H op a b) μ s
  intro hb Q E Po
  refine wpAny_BinOp (WE.bind (h1 μ H s l I R) hb Po fun μ₁ a H₁ v s₁ e1 S1 I1 V1 hb1 Po1 => ?_)
  refine WE.bind (h2 μ₁ H₁ s₁ l I1 (R.step0 S1)) hb1 Po1 fun μ₂ b H₂ u s₂ e2 S2 I2 V2 hb2 Po2 => ?_
  exact bin_snd I2 (V1.step0 S2) V2 hb2 Q E Po2
theorem se_neg {x : E} {p : Pos} (h1 : SE C P F call N x) : SE C P F call N (.neg x p) := fun μ H s l I R => by
  show WE C F NoX (VRel C) _ ((evE P call N (st C.gt x) l H).bind fun v H => match v with | .int i => .ok (.int (-i)) H | _ => .bad) μ s
  intro hb Q E Po
  show wpAny _ _ (do let v ← eval (py x) F.env; standAt p; holding [v] (unaryOp .USub v)) Q E s
  refine wpAny_bind (WE.bind (h1 μ H s l I R) hb Po fun μ₁ a H₁ v s₁ e1 S1 I1 V1 hb1 Po1 => ?_)
  refine wpAny_bind (wpAny_standAt (wpAny_holding ?_))
  split at hb1
  · simp only [VRel, VR] at V1
    obtain ⟨t, rfl⟩ := V1
    exact PyProof.Rows.neg_int (Po1.done rfl I1 (by simp only [VRel, VR]; exact ⟨_, rfl⟩))
  · exact absurd rfl hb1
theorem truth_of {h : Heap} {a : AV} {v : Value} {b : Bool} (V : VR C μ h a v) (e : truthV a = some b) : v = .bool b := by
  induction a using Mine.AV.casesOn <;> simp [truthV] at e
  subst e
  simpa only [VR] using V
set_option tactic.hygienic true
theorem se_not {x : E} {p : Pos} (h1 : SE C P F call N x) : SE C P F call N (.not x p) := fun μ H s l I R => by
  show WE C F NoX (VRel C) _ ((evE P call N (st C.gt x) l H).bind fun v H => match truthV v with | some b => .ok (.bool (!b)) H | none => .bad) μ s
  intro hb Q E Po
  show wpAny _ _ (do let v ← eval (py x) F.env; standAt p; holding [v] (unaryOp .Not v)) Q E s
  refine wpAny_bind (WE.bind (h1 μ H s l I R) hb Po fun μ₁ a H₁ v s₁ e1 S1 I1 V1 hb1 Po1 => ?_)
  refine wpAny_bind (wpAny_standAt (wpAny_holding ?_))
  split at hb1
  · rename_i b hbv
    obtain rfl := truth_of V1 hbv
    rw [hbv] at Po1
    exact not_of (wpAny_truthy_bool (Po1.done (t := s₁.toks) rfl I1 (by simp only [VRel, VR])))
  · exact absurd rfl hb1
set_option tactic.hygienic false
end
end Mine
end
section
namespace Mine
open PySem PySem.W PySem.Calls PyProof.Rows
section
variable {α β : Type} {C : Cx} {P : P0} {F : Fm} {call : Nat → List AV → AH → Out AV} {N : Nat} {μ : Mu} {H : AH} {s : Shared} {l : Loc} {d : Nat}
noncomputable def tB (v : AV) (H : AH) : Out Bool := match truthV v with | some b => .ok b H | none => .bad
theorem evT_def (e : E0) : evT P call N e l H = (evE P call N e l H).bind tB := rfl
theorem evT_bind {γ : Type} (e : E0) (f g : AH → Out γ) : ((evE P call N e l H).bind fun v H => match truthV v with | some true => f H | some false => g H | none => .bad) = (evT P call N e l H).bind fun b H => if b = true then f H else g H := by
  unfold evT
  cases evE P call N e l H with
  | ok a H1 => simp only [Out.bind]; cases truthV a with
    | none => rfl
    | some b => induction b using Bool.casesOn <;> rfl
  | _ => rfl
theorem bop_go {op : BoolOp} {p : Pos} : ∀ (es : List E), (∀ e ∈ es, SE C P F call N e) → ∀ μ H s l, Inv C μ H s.heap → FR C F μ l s.heap →
    WE C F NoX (VRel C) (boolOp p op (evalEach (pys es) F.env)) (bopGo op H (evFs P call N (sts C.gt es) l)) μ s
  | [], _, _, _, _, _, _, _ => fun hb => absurd rfl hb
  | [e], h, μ, H, s, l, I, R => h e (.head _) μ H s l I R
  | e :: e2 :: r, h, μ, H, s, l, I, R => fun hb Q E Po => by
    show wpAny _ _ (do
      let v ← eval (py e) F.env
      standAt p
      let t ← holding [v] (truthy v)
      match op, t with
      | .And, false | .Or, true => pure v
      | _, _ => boolOp p op (evalEach (pys (e2 :: r)) F.env)) Q E s
    have hb0 : (evE P call N (st C.gt e) l H).bind (fun v H => match op, truthV v with
      | .And, some false => (.ok v H : Out AV)
      | .Or, some true => .ok v H
      | _, some _ => bopGo op H (evFs P call N (sts C.gt (e2 :: r)) l)
      | _, none => .bad) ≠ .bad := hb
    refine wpAny_bind (WE.bind (h e (.head _) μ H s l I R) hb0 Po fun μ₁ a H₁ v s₁ e1 S1 I1 V1 hb1 Po1 => ?_)
    refine wpAny_bind (wpAny_standAt (wpAny_bind (wpAny_holding ?_)))
    cases ht : truthV a with
    | none => rw [ht] at hb1; induction op using PySem.BoolOp.casesOn <;> exact absurd rfl hb1
    | some b =>
      obtain rfl := truth_of V1 ht
      refine wpAny_truthy_bool ?_
      rw [ht] at hb1 Po1
      have rest : bopGo op H₁ (evFs P call N (sts C.gt (e2 :: r)) l) ≠ .bad → Post C NoX (VRel C) μ₁ s₁ (bopGo op H₁ (evFs P call N (sts C.gt (e2 :: r)) l)) Q E → wpAny (model C.prog C.w) F.A (boolOp p op (evalEach (pys (e2 :: r)) F.env)) Q E s₁ :=
        fun a b => bop_go (e2 :: r) (fun e he => h e (.tail _ he)) μ₁ H₁ s₁ l I1 (R.step0 S1) a Q E b
      induction op using PySem.BoolOp.casesOn <;> induction b using Bool.casesOn
      · exact wpAny_pure (Po1.done (t := s₁.toks) rfl I1 V1)
      · exact rest hb1 Po1
      · exact rest hb1 Po1
      · exact wpAny_pure (Po1.done (t := s₁.toks) rfl I1 V1)
theorem se_bop {op : BoolOp} {es : List E} {p : Pos} (h : ∀ e ∈ es, SE C P F call N e) : SE C P F call N (.bop op es p) := bop_go es h
theorem bopT_cons {op : BoolOp} {f g : AH → Out AV} {fs : List (AH → Out AV)} : (bopGo op H (f :: g :: fs)).bind tB = ((f H).bind tB).bind fun b H => match op, b with
    | .And, false => .ok false H
    | .Or, true => .ok true H
    | _, _ => (bopGo op H (g :: fs)).bind tB := by
  show ((f H).bind _).bind tB = _
  cases f H with
  | ok a H1 =>
    simp only [Out.bind]
    cases ht : truthV a with
    | none => simp only [tB, ht]
    | some b => simp only [tB, ht]; induction op using PySem.BoolOp.casesOn <;> induction b using Bool.casesOn <;> simp [tB, ht]
  | _ => rfl
theorem all_go {op : BoolOp} : ∀ (es : List E), es ≠ [] → (∀ e ∈ es, ST C P F call N e) → ∀ μ H s l, Inv C μ H s.heap → FR C F μ l s.heap →
    WE C F NoX BRel (allTrue op (pys es) F.env) ((bopGo op H (evFs P call N (sts C.gt es) l)).bind tB) μ s
  | [], hn, _, _, _, _, _, _, _ => absurd rfl hn
  | [e], _, h, μ, H, s, l, I, R => fun hb Q E Po => by
    show wpAny _ _ (do
      match op, ← isTrue (py e) F.env (eval (py e) F.env) with
      | .And, false => pure false
      | .Or, true => pure true
      | _, _ => allTrue op [] F.env) Q E s
    refine wpAny_bind (h e (.head _) μ H s l I R hb _ E ⟨fun μ' a H' v s' q S I V => ?_, Po.exc⟩)
    obtain rfl : a = v := V
    have fin : Q a s' := Po.ok μ' a H' a s' q S I rfl
    induction op using PySem.BoolOp.casesOn <;> induction a using Bool.casesOn <;> exact wpAny_pure fin
  | e :: e2 :: r, _, h, μ, H, s, l, I, R => fun hb Q E Po => by
    have eq : (bopGo op H (evFs P call N (sts C.gt (e :: e2 :: r)) l)).bind tB = (evT P call N (st C.gt e) l H).bind fun b H => match op, b with
      | .And, false => .ok false H
      | .Or, true => .ok true H
      | _, _ => (bopGo op H (evFs P call N (sts C.gt (e2 :: r)) l)).bind tB := bopT_cons
    rw [eq] at hb Po
    show wpAny _ _ (do
      match op, ← isTrue (py e) F.env (eval (py e) F.env) with
      | .And, false => pure false
      | .Or, true => pure true
      | _, _ => allTrue op (pys (e2 :: r)) F.env) Q E s
    refine wpAny_bind (WE.bind (h e (.head _) μ H s l I R) hb Po fun μ₁ a H₁ v s₁ e1 S1 I1 V1 hb1 Po1 => ?_)
    obtain rfl : a = v := V1
    have rest : (bopGo op H₁ (evFs P call N (sts C.gt (e2 :: r)) l)).bind tB ≠ .bad → Post C NoX BRel μ₁ s₁ ((bopGo op H₁ (evFs P call N (sts C.gt (e2 :: r)) l)).bind tB) Q E → wpAny (model C.prog C.w) F.A (allTrue op (pys (e2 :: r)) F.env) Q E s₁ :=
      fun a b => all_go (e2 :: r) (by simp) (fun e he => h e (.tail _ he)) μ₁ H₁ s₁ l I1 (R.step0 S1) a Q E b
    induction op using PySem.BoolOp.casesOn <;> induction a using Bool.casesOn
    · exact wpAny_pure (Po1.ok μ₁ false H₁ false s₁ rfl .refl I1 rfl)
    · exact rest hb1 Po1
    · exact rest hb1 Po1
    · exact wpAny_pure (Po1.ok μ₁ true H₁ true s₁ rfl .refl I1 rfl)
theorem st_bop {op : BoolOp} {es : List E} {p : Pos} (hn : es ≠ []) (h : ∀ e ∈ es, ST C P F call N e) : ST C P F call N (.bop op es p) := all_go es hn h
theorem FS.deep (S : FS F d) : F.A.units + 64 < cLine := by
  have h : cLine = 9900 := rfl
  rw [h]
  exact Nat.lt_of_lt_of_le (Nat.lt_of_le_of_lt (Nat.add_le_add_right (Nat.le_trans (Nat.le_add_right _ _) (Nat.le_add_right _ 8)) 64) (Nat.add_lt_add_right S.units 64)) (by decide)
theorem se_cmp (S : FS F d) {x e : E} {op : CmpOp} {p : Pos} (h1 : SE C P F call N x) (h : SE C P F call N e) : SE C P F call N (.cmp x [op] [e] p) := fun μ H s l I R => by
  show WE C F NoX (VRel C) _ ((evE P call N (st C.gt x) l H).bind fun a H => (evE P call N (st C.gt e) l H).bind fun b H => match cmpV H op a b with | some x => (.ok (.bool x) H : Out AV) | none => .bad) μ s
  intro hb Q E Po
  show wpAny _ _ (do compareChain p (← eval (py x) F.env) [op] [markedBehindIn op (py e) (eval (py e) F.env)]) Q E s
  rw [markedBehindIn_of_false (mb_py e)]
  refine wpAny_bind (WE.bind (h1 μ H s l I R) hb Po fun μ₁ a H₁ v s₁ e1 S1 I1 V1 hb1 Po1 => ?_)
  show wpAny _ _ (do
      let rv ← holding [v] (eval (py e) F.env)
      standAt p
      operate [v, rv] (compareOp op v rv)) Q E s₁
  refine wpAny_bind (wpAny_holding (WE.bind (h μ₁ H₁ s₁ l I1 (R.step0 S1)) hb1 Po1 fun μ₂ b H₂ u s₂ e2 S2 I2 V2 hb2 Po2 => ?_))
  refine wpAny_bind (wpAny_standAt (wpAny_operateT ?_))
  cases hc : cmpV H₂ op a b with
  | none => rw [hc] at hb2; exact absurd rfl hb2
  | some x =>
    rw [hc] at Po2
    exact cmp_snd S.deep I2 (V1.step0 S2) V2 hc (Po2.done (t := s₂.toks) rfl I2 (by simp only [VRel, VR]))
end
end Mine
end
section
namespace Mine
open PySem PySem.W PySem.Calls PyProof.Rows
section
variable {α β : Type} {C : Cx} {P : P0} {F : Fm} {call : Nat → List AV → AH → Out AV} {N : Nat} {μ : Mu} {H : AH} {s : Shared} {l : Loc} {d : Nat}
theorem out_assoc {γ δ : Type} (x : Out α) (f : α → AH → Out γ) (g : γ → AH → Out δ) : (x.bind f).bind g = x.bind fun a H => (f a H).bind g := by induction x using Mine.Out.casesOn <;> rfl
noncomputable def cmpT (H : AH) (op : CmpOp) (a b : AV) : Out Bool := match cmpV H op a b with
  | some x => .ok x H
  | none => .bad
theorem cmpT_some {op : CmpOp} {a b : AV} {x : Bool} (h : cmpV H op a b = some x) : cmpT H op a b = .ok x H := by unfold cmpT; rw [h]
theorem cmpT_none {op : CmpOp} {a b : AV} (h : cmpV H op a b = none) : cmpT H op a b = .bad := by unfold cmpT; rw [h]
theorem cmpT_tB {op : CmpOp} {a b : AV} : Out.bind (match cmpV H op a b with | some x => (.ok (.bool x) H : Out AV) | none => .bad) tB = cmpT H op a b := by
  unfold cmpT
  cases cmpV H op a b <;> rfl
noncomputable def cmp2T (P : P0) (call : Nat → List AV → AH → Out AV) (N : Nat) (op op' : CmpOp) (e' : E0) (l : Loc) (a b : AV) (H : AH) : Out Bool := match cmpV H op a b with
  | some true => (evE P call N e' l H).bind fun c H => cmpT H op' b c
  | some false => .ok false H
  | none => .bad
theorem cmp2T_tB {op op' : CmpOp} {e' : E0} {a b : AV} : Out.bind (match cmpV H op a b with
      | some true => (evE P call N e' l H).bind fun c H => match cmpV H op' b c with | some x => (.ok (.bool x) H : Out AV) | none => .bad
      | some false => .ok (.bool false) H
      | none => .bad) tB = cmp2T P call N op op' e' l a b H := by
  unfold cmp2T
  cases cmpV H op a b with
  | none => rfl
  | some y =>
    rcases y with _ | _
    · rfl
    · show ((evE P call N e' l H).bind fun c H => match cmpV H op' b c with | some x => (.ok (.bool x) H : Out AV) | none => .bad).bind tB = _
      rw [out_assoc]
      congr 1
      funext c H3
      exact cmpT_tB
theorem st_cmp (S : FS F d) {x e : E} {op : CmpOp} {p : Pos} (h1 : SE C P F call N x) (h : SE C P F call N e) : ST C P F call N (.cmp x [op] [e] p) := fun μ H s l I R => by
  have eq : evT P call N (st C.gt (.cmp x [op] [e] p)) l H = (evE P call N (st C.gt x) l H).bind fun a H => (evE P call N (st C.gt e) l H).bind fun b H => cmpT H op a b := by
    show ((evE P call N (st C.gt x) l H).bind fun a H => (evE P call N (st C.gt e) l H).bind fun b H => match cmpV H op a b with | some x => (.ok (.bool x) H : Out AV) | none => .bad).bind tB = _
    cases evE P call N (st C.gt x) l H with
    | exc _ => rfl
    | bad => rfl
    | ok a H1 =>
      show ((evE P call N (st C.gt e) l H1).bind fun b H => match cmpV H op a b with | some x => (.ok (.bool x) H : Out AV) | none => .bad).bind tB = (evE P call N (st C.gt e) l H1).bind _
      cases evE P call N (st C.gt e) l H1 with
      | exc _ => rfl
      | bad => rfl
      | ok b H2 =>
        exact cmpT_tB
  rw [eq]
  intro hb Q E Po
  show wpAny _ _ (do testChain p (← eval (py x) F.env) [op] [markedBehindIn op (py e) (eval (py e) F.env)]) Q E s
  rw [markedBehindIn_of_false (mb_py e)]
  refine wpAny_bind (WE.bind (h1 μ H s l I R) hb Po fun μ₁ a H₁ v s₁ e1 S1 I1 V1 hb1 Po1 => ?_)
  show wpAny _ _ (do
      let rv ← holding [v] (eval (py e) F.env)
      standAt p
      let c ← operate [v, rv] (compareOp op v rv)
      holding [c] (truthy c)) Q E s₁
  refine wpAny_bind (wpAny_holding (WE.bind (h μ₁ H₁ s₁ l I1 (R.step0 S1)) hb1 Po1 fun μ₂ b H₂ u s₂ e2 S2 I2 V2 hb2 Po2 => ?_))
  refine wpAny_bind (wpAny_standAt (wpAny_bind (wpAny_operateT ?_)))
  cases hc : cmpV H₂ op a b with
  | none => exact absurd (cmpT_none hc) hb2
  | some x =>
    rw [cmpT_some hc] at Po2
    exact cmp_snd S.deep I2 (V1.step0 S2) V2 hc (wpAny_holding (wpAny_truthy_bool (Po2.ok μ₂ x H₂ x s₂ rfl .refl I2 rfl)))
theorem st_cmp2 (S : FS F d) {x e e' : E} {op op' : CmpOp} {p : Pos} (h1 : SE C P F call N x) (h : SE C P F call N e) (h' : SE C P F call N e') : ST C P F call N (.cmp x [op, op'] [e, e'] p) := fun μ H s l I R => by
  have eq : evT P call N (st C.gt (.cmp x [op, op'] [e, e'] p)) l H = (evE P call N (st C.gt x) l H).bind fun a H => (evE P call N (st C.gt e) l H).bind fun b H => cmp2T P call N op op' (st C.gt e') l a b H := by
    show ((evE P call N (st C.gt x) l H).bind fun a H => (evE P call N (st C.gt e) l H).bind fun b H => match cmpV H op a b with
      | some true => (evE P call N (st C.gt e') l H).bind fun c H => match cmpV H op' b c with | some x => (.ok (.bool x) H : Out AV) | none => .bad
      | some false => .ok (.bool false) H
      | none => .bad).bind tB = _
    rw [out_assoc]
    congr 1
    funext a H1
    rw [out_assoc]
    congr 1
    funext b H2
    exact cmp2T_tB
  rw [eq]
  intro hb Q E Po
  show wpAny _ _ (do testChain p (← eval (py x) F.env) [op, op'] [eval (py e) F.env, markedBehindIn op' (py e') (eval (py e') F.env)]) Q E s
  rw [markedBehindIn_of_false (mb_py e')]
  refine wpAny_bind (WE.bind (h1 μ H s l I R) hb Po fun μ₁ a H₁ v s₁ e1 S1 I1 V1 hb1 Po1 => ?_)
  show wpAny _ _ (do
      let rv ← holding [v] (eval (py e) F.env)
      standAt p
      let c ← holding [v, rv] (compareOp op v rv)
      release [v, rv] [c]
      if ← holding [c, rv] (truthy c) then testChain p rv [op'] [eval (py e') F.env] else pure false) Q E s₁
  refine wpAny_bind (wpAny_holding (WE.bind (h μ₁ H₁ s₁ l I1 (R.step0 S1)) hb1 Po1 fun μ₂ b H₂ u s₂ e2 S2 I2 V2 hb2 Po2 => ?_))
  refine wpAny_bind (wpAny_standAt (wpAny_bind (wpAny_holding ?_)))
  unfold cmp2T at hb2 Po2
  cases hc : cmpV H₂ op a b with
  | none => rw [hc] at hb2; exact absurd rfl hb2
  | some y =>
    rw [hc] at Po2 hb2
    refine cmp_snd S.deep I2 (V1.step0 S2) V2 hc (wpAny_bind (wpAny_release (wpAny_bind (wpAny_holding (wpAny_truthy_bool ?_)))))
    induction y using Bool.casesOn with
    | false => exact wpAny_pure (Po2.ok μ₂ false H₂ false s₂ rfl .refl I2 rfl)
    | true =>
      rw [if_pos rfl]
      show wpAny _ _ (do
        let rv ← holding [u] (eval (py e') F.env)
        standAt p
        let c ← operate [u, rv] (compareOp op' u rv)
        holding [c] (truthy c)) Q E s₂
      refine wpAny_bind (wpAny_holding (WE.bind (h' μ₂ H₂ s₂ l I2 ((R.step0 S1).step0 S2)) hb2 Po2 fun μ₃ c H₃ z s₃ e3 S3 I3 V3 hb3 Po3 => ?_))
      refine wpAny_bind (wpAny_standAt (wpAny_bind (wpAny_operateT ?_)))
      cases hc3 : cmpV H₃ op' b c with
      | none => exact absurd (cmpT_none hc3) hb3
      | some x =>
        rw [cmpT_some hc3] at Po3
        exact cmp_snd S.deep I3 (V2.step0 S3) V3 hc3 (wpAny_holding (wpAny_truthy_bool (Po3.ok μ₃ x H₃ x s₃ rfl .refl I3 rfl)))
theorem st_not {x : E} {p : Pos} (h1 : ST C P F call N x) : ST C P F call N (.not x p) := fun μ H s l I R => by
  have eq : evT P call N (st C.gt (.not x p)) l H = (evT P call N (st C.gt x) l H).bind fun b H => .ok (!b) H := by
    show ((evE P call N (st C.gt x) l H).bind _).bind tB = ((evE P call N (st C.gt x) l H).bind tB).bind _
    rw [out_assoc, out_assoc]
    congr 1
    funext v H
    unfold tB
    cases truthV v <;> rfl
  rw [eq]
  intro hb Q E Po
  refine isTrue_not (WE.bind (h1 μ H s l I R) hb Po fun μ₁ a H₁ v s₁ e1 S1 I1 V1 hb1 Po1 => ?_)
  obtain rfl : a = v := V1
  exact Po1.ok μ₁ _ H₁ _ s₁ rfl .refl I1 rfl
theorem ite_eq (c a b : E) {p : Pos} : evE P call N (st C.gt (.ite c a b p)) l H = (evT P call N (st C.gt c) l H).bind fun x H => if x = true then evE P call N (st C.gt a) l H else evE P call N (st C.gt b) l H := by
  rw [← evT_bind]; rfl
theorem se_ite {c a b : E} {p : Pos} (hc : ST C P F call N c) (h1 : SE C P F call N a) (h2 : SE C P F call N b) : SE C P F call N (.ite c a b p) := fun μ H s l I R => by
  rw [ite_eq]
  intro hb Q E Po
  show wpAny _ _ (do if ← isTrue (py c) F.env (eval (py c) F.env) then eval (py a) F.env else eval (py b) F.env) Q E s
  refine wpAny_bind (WE.bind (hc μ H s l I R) hb Po fun μ₁ x H₁ v s₁ e1 S1 I1 V1 hb1 Po1 => ?_)
  obtain rfl : x = v := V1
  induction x using Bool.casesOn
  · exact h2 μ₁ H₁ s₁ l I1 (R.step0 S1) hb1 Q E Po1
  · exact h1 μ₁ H₁ s₁ l I1 (R.step0 S1) hb1 Q E Po1
theorem st_ite {c a b : E} {p : Pos} (hc : ST C P F call N c) (h1 : ST C P F call N a) (h2 : ST C P F call N b) : ST C P F call N (.ite c a b p) := fun μ H s l I R => by
  have eq : evT P call N (st C.gt (.ite c a b p)) l H = (evT P call N (st C.gt c) l H).bind fun x H => if x = true then evT P call N (st C.gt a) l H else evT P call N (st C.gt b) l H := by
    rw [evT_def, ite_eq, out_assoc]
    congr 1
    funext x H
    induction x using Bool.casesOn <;> rfl
  rw [eq]
  intro hb Q E Po
  show wpAny _ _ (do if ← isTrue (py c) F.env (eval (py c) F.env) then isTrue (py a) F.env (eval (py a) F.env) else isTrue (py b) F.env (eval (py b) F.env)) Q E s
  refine wpAny_bind (WE.bind (hc μ H s l I R) hb Po fun μ₁ x H₁ v s₁ e1 S1 I1 V1 hb1 Po1 => ?_)
  obtain rfl : x = v := V1
  induction x using Bool.casesOn
  · exact h2 μ₁ H₁ s₁ l I1 (R.step0 S1) hb1 Q E Po1
  · exact h1 μ₁ H₁ s₁ l I1 (R.step0 S1) hb1 Q E Po1
theorem st_of {e : E} (h : SE C P F call N e) (he : isTrue (py e) F.env (eval (py e) F.env) = (do let v ← eval (py e) F.env; standAt (py e).pos; holding [v] (truthy v))) : ST C P F call N e := fun μ H s l I R hb Q E Po => by
  rw [evT_def] at hb Po
  rw [he]
  refine wpAny_bind (WE.bind (h μ H s l I R) hb Po fun μ₁ a H₁ v s₁ e1 S1 I1 V1 hb1 Po1 => ?_)
  refine wpAny_bind (wpAny_standAt (wpAny_holding ?_))
  unfold tB at hb1 Po1
  cases ht : truthV a with
  | none => rw [ht] at hb1; exact absurd rfl hb1
  | some b =>
    rw [ht] at Po1
    obtain rfl := truth_of V1 ht
    exact wpAny_truthy_bool (Po1.ok μ₁ b H₁ b s₁ rfl .refl I1 rfl)
noncomputable def CallOk (C : Cx) (fs : List Env) (A : Around) (call : Nat → List AV → AH → Out AV) : Prop :=
  ∀ k args vs μ H s, Frs C μ s.heap fs → Inv C μ H s.heap → VRs C μ s.heap args vs → call k args H ≠ .bad → ∀ Q (E : Value → Shared → Prop), Post C NoX (VRel C) μ s (call k args H) Q E →
    codeAny (model C.prog C.w) A (.call (.ref (C.fnA k)) ⟨vs, []⟩) (fun r s' => match r with | .ok (.ret v) => Q v s' | .ok _ => False | .error e => E e s') s
structure CGood (C : Cx) (P : P0) : Prop extends Good C P where
  fn : ∀ k, (P.body k).isSome = true → keepIn C.K (.ref (C.fnA k)) = true
  cls : ∀ c k, P.init c = some k → keepIn C.K (.ref (C.clA c)) = true ∧ makesIn C.K (C.clA c) = true ∧ findIn C.K (.ref (C.clA c)) "__init__" = some (some (.ref (C.fnA k))) ∧ typeIn C.K (.ref (C.fnA k)) = some (.type "function")
  mth : ∀ c m x k, P.meth c m = some k → C.nm[m]? = some x → plainGet C.K (C.clA c) x = true ∧ findIn C.K (.ref (C.clA c)) x = some (some (.ref (C.fnA k))) ∧ typeIn C.K (.ref (C.fnA k)) = some (.type "function")
  mthb : ∀ c m k, P.meth c m = some k → (P.body k).isSome = true
  mthx : ∀ c m k, P.meth c m = some k → ∃ x, C.nm[m]? = some x
  nm7 : ∀ m, m < 6 → C.nm[m]? = some (bimName m)
theorem args_plain : ∀ (es : List E) (p : Pos), (backTo p (starEach (pys es) F.env)).any (·.1) = false
  | [], _ => rfl
  | e :: r, p => by
    show (backTo p (starEach (py e :: pys r) F.env)).any (·.1) = false
    rw [starEach_py, backTo_cons, List.any_cons, args_plain r p]; rfl
theorem args_snd {γ δ : Type} {es : List E} {p : Pos} {fv : Value} {g : List AV → AH → Out γ} {rel : Mu → Heap → γ → δ → Prop} {Q₀ : δ → Shared → Prop} {Q : Args → Shared → Prop} {E : Value → Shared → Prop} (h : SEs C P F call N es) (I : Inv C μ H s.heap) (R : FR C F μ l s.heap)
    (hb : (evEs P call N (sts C.gt es) l H).bind g ≠ .bad) (Po : Post C NoX rel μ s ((evEs P call N (sts C.gt es) l H).bind g) Q₀ E)
    (k : ∀ μ₁ as H₁ vs s₁, Step NoX μ s μ₁ s₁ → Inv C μ₁ H₁ s₁.heap → VRs C μ₁ s₁.heap as vs → g as H₁ ≠ .bad → Post C NoX rel μ₁ s₁ (g as H₁) Q₀ E → Q ⟨vs, []⟩ s₁) :
    wpAny (model C.prog C.w) F.A (evalArgs fv true (backTo p (starEach (pys es) F.env)) []) Q E s := by
  induction es using List.casesOn with
  | nil => exact evalArgs_nil3 (k μ [] H [] s .refl I (by simp [VRs]) hb Po)
  | cons e r =>
    have e1 : backTo p (starEach (pys (e :: r)) F.env) = (false, eval (py e) F.env) :: backTo p (starEach (pys r) F.env) := by
      show backTo p (starEach (py e :: pys r) F.env) = _
      rw [starEach_py, backTo_cons]
    rw [e1]
    refine evalArgs_plain ?_
    rw [← e1]
    exact WE.bind (h p μ H s l I R) hb Po fun μ₁ as H₁ vs s₁ _ S1 I1 V1 hb1 Po1 => k μ₁ as H₁ vs s₁ S1 I1 V1 hb1 Po1
theorem new_snd {c k : Nat} {args : List AV} {vs : List Value} {A : Around} {Q : Value → Shared → Prop} {E : Value → Shared → Prop} (G : CGood C P) (hi : P.init c = some k)
    {fs : List Env} (hc : CallOk C fs (A.under (.builtin "type.__call__" ⟨.ref (C.clA c) :: vs, []⟩)) call) (hF : Frs C μ s.heap fs) (I : Inv C μ H s.heap) (V : VRs C μ s.heap args vs)
    (hb : callV P call (.cls c) args H ≠ .bad) (Po : Post C NoX (VRel C) μ s (callV P call (.cls c) args H) Q E) :
    codeAny (model C.prog C.w) A (.call (.ref (C.clA c)) ⟨vs, []⟩) (fun r s' => match r with | .ok (.ret v) => Q v s' | .ok _ => False | .error e => E e s') s := by
  obtain ⟨h, g, dr, t, os⟩ := s
  have X := I.inK G.toGood
  obtain ⟨_, hm, hf, ht⟩ := G.cls c k hi
  have hcv : callV P call (.cls c) args H = (call k (.ref H.length :: args) (H ++ [.inst c []])).bind fun v H' => match v with | .none => .ok (.ref H.length) H' | _ => .bad := by
    show (match P.init c with
      | some k => (call k (.ref H.length :: args) (H ++ [AObj.inst c []])).bind fun v H' => match v with | .none => (.ok (.ref H.length) H' : Out AV) | _ => .bad
      | none => .bad) = _
    rw [hi]
  rw [hcv] at hb Po
  refine make_core (makes_of X hm) (looks_findIn X hf) (fun self => bind_fn X self ht) (.inl rfl) ?_
  have n0 : h.get? h.objs.size = none := size_none h
  have n1 : h.get? (h.objs.size + 1) = none := by
    cases e : h.get? (h.objs.size + 1) with
    | none => rfl
    | some o => exact absurd (Heap.lt_size e) (Nat.not_lt.mpr (Nat.le_succ _))
  have g1 : ((h.push emptyDict).push (instObj (C.clA c) h.objs.size)).get? (h.objs.size + 1) = some (instObj (C.clA c) h.objs.size) := by
    have := Heap.get?_push_size (h.push emptyDict) (o := instObj (C.clA c) h.objs.size) rfl
    rwa [Heap.size_push] at this
  have g0 : ((h.push emptyDict).push (instObj (C.clA c) h.objs.size)).get? h.objs.size = some emptyDict := Heap.get?_push_of_some _ (Heap.get?_push_size h rfl)
  have kp : ∀ b o, h.get? b = some o → ((h.push emptyDict).push (instObj (C.clA c) h.objs.size)).get? b = some o := fun b o e => Heap.get?_push_of_some _ (Heap.get?_push_of_some _ e)
  have S : Step NoX μ ⟨h, g, dr, t, os⟩ (μ ++ [(h.objs.size + 1, h.objs.size)]) ⟨(h.push emptyDict).push (instObj (C.clA c) h.objs.size), g, dr, t, os⟩ := by
    refine ⟨⟨_, rfl⟩, fun a ha => ?_, fun b x e => ⟨x, kp b x e⟩, fun b x e _ _ => ⟨x.slots, kp b x e, fun _ => rfl⟩, rfl, rfl⟩
    obtain ⟨p, hp, q⟩ := ha
    rcases List.mem_append.mp hp with hp | hp
    · exact .inl ⟨p, hp, q⟩
    · obtain rfl := List.mem_singleton.mp hp
      rcases q with rfl | rfl
      · exact .inr n1
      · exact .inr n0
  have I' : Inv C (μ ++ [(h.objs.size + 1, h.objs.size)]) (H ++ [.inst c []]) ((h.push emptyDict).push (instObj (C.clA c) h.objs.size)) :=
    Inv.add (s := ⟨h, g, dr, t, os⟩) (s' := ⟨_, g, dr, t, os⟩) I S (fun b o e => kp b o (I.stays b o e)) (fun a ha => by
      obtain ⟨x, ex⟩ := I.there ha
      show Heap.get? _ a = h.get? a
      rw [ex]; exact kp _ _ ex) n1 n0 (by
        simp only [OR]
        refine ⟨g1, Nat.succ_ne_self _, fun _ => none, Heap.Ns1.of_empty ⟨_, #[], 0, g0, rfl, fun e he => by simp at he, fun _ => rfl⟩, fun y hy => absurd rfl hy, fun a x _ => rfl⟩)
  have W : VRs C (μ ++ [(h.objs.size + 1, h.objs.size)]) ((h.push emptyDict).push (instObj (C.clA c) h.objs.size)) (.ref H.length :: args) (.ref (h.objs.size + 1) :: vs) := by
    simp only [VRs, VR]
    refine ⟨⟨(h.objs.size + 1, h.objs.size), by rw [← I.len, List.getElem?_append_right (Nat.le_refl _)]; simp, rfl⟩, ?_⟩
    exact VRs.step0 (s := ⟨h, g, dr, t, os⟩) (s' := ⟨_, g, dr, t, os⟩) S V
  have hb0 : call k (.ref H.length :: args) (H ++ [.inst c []]) ≠ .bad := fun q => hb (by rw [q]; rfl)
  refine codeAny_mono (hc k _ _ _ _ ⟨(h.push emptyDict).push (instObj (C.clA c) h.objs.size), g, dr, t, os⟩ (Frs.step (s := ⟨h, g, dr, t, os⟩) hF S fun _ _ => id) I' W hb0 (fun v s' => v = .none ∧ Q (.ref (h.objs.size + 1)) s') E ⟨?_, fun μ' H' e' s' q S' I'' V'' => ?_⟩) fun r s' z => ?_
  · intro μ' a H' v s' e S' I'' V''
    rw [e] at hb Po
    by_cases ha : a = .none
    · subst ha
      simp only [VRel, VR] at V''
      refine ⟨V'', Po.ok μ' (.ref H.length) H' _ s' rfl (S.trans0 S') I'' ?_⟩
      simp only [VRel, VR]
      refine ⟨(h.objs.size + 1, h.objs.size), S'.at ?_, rfl⟩
      rw [← I.len, List.getElem?_append_right (Nat.le_refl _)]; simp
    · exact absurd (by clear hb Po V'' e; induction a using Mine.AV.casesOn <;> first | exact absurd rfl ha | rfl) hb
  · rw [q] at Po
    exact Po.exc μ' H' e' s' rfl (S.trans0 S') I'' (V''.older S.older)
  · rcases r with e | (v | _ | _ | _) <;> exact z
end
end Mine
end
section
namespace Mine
open PySem PySem.W PySem.Calls PyProof.Rows
section
variable {α β : Type} {C : Cx} {P : P0} {F : Fm} {call : Nat → List AV → AH → Out AV} {N : Nat} {μ : Mu} {H : AH} {s : Shared} {l : Loc} {d : Nat}
theorem FS.aok (S : FS F d) : AOk d F.fr F.A := ⟨S.handled, S.frames, Nat.lt_of_le_of_lt (Nat.le_add_right _ 2) S.depth, Nat.lt_of_le_of_lt (Nat.le_add_right _ 8) S.units⟩
theorem FS.under (S : FS F d) (c : Addr) (vs : List Value) : AOk d F.fr (F.A.under (.builtin "type.__call__" ⟨.ref c :: vs, []⟩)) :=
  ⟨S.handled, S.frames, by have := S.depth; show F.A.depth + 1 + _ < _; lia, by have := S.units; show F.A.units + 1 + _ < _; lia⟩
theorem keep_bi (C : Cx) (b : Bi) : ∀ h, C.K.In h → ∃ k, (k = Keeper.frame ∨ k = Keeper.machine ∨ k = Keeper.boundFrame) ∧ Looks (model C.prog C.w) h (keeperOf (biVal b)) k := fun h _ =>
  ⟨.machine, .inr (.inl rfl), Looks.of_pure (by induction b using Mine.Bi.casesOn <;> rfl)⟩
theorem callV_snd (S : FS F d) (G : CGood C P) (hc : ∀ A fs, AOk d fs A → CallOk C fs A call) {f : AV} {fv : Value} {args : List AV} {vs : List Value} (hF : Frs C μ s.heap F.fr) (I : Inv C μ H s.heap) (Vf : VR C μ s.heap f fv) (V : VRs C μ s.heap args vs) (hf : isFn P f = true) :
    WE C F NoX (VRel C) (PySem.call fv vs) (callV P call f args H) μ s := fun hb Q E Po => by
  induction f using Mine.AV.casesOn with
  | fn k =>
    simp only [VR] at Vf
    subst Vf
    exact wpAny_call (hc F.A _ S.aok k args vs μ H s hF I V hb Q E Po)
  | cls c =>
    simp only [VR] at Vf
    subst Vf
    obtain ⟨k, hk⟩ := Option.isSome_iff_exists.mp hf
    exact wpAny_call (new_snd G hk (hc _ _ (S.under _ _)) hF I V hb Po)
  | bi b =>
    simp only [VR] at Vf
    subst Vf
    exact bi_snd S.handled I V hb Q E Po
  | _ => exact absurd hf Bool.false_ne_true
theorem isFn_keep (G : CGood C P) {f : AV} {fv : Value} {h : Heap} (Vf : VR C μ h f fv) (hf : isFn P f = true) : ∀ h, C.K.In h → ∃ k, (k = Keeper.frame ∨ k = Keeper.machine ∨ k = Keeper.boundFrame) ∧ Looks (model C.prog C.w) h (keeperOf fv) k := by
  induction f using Mine.AV.casesOn with
  | fn k =>
    simp only [VR] at Vf
    subst Vf
    exact keeps_K (G.fn k hf)
  | cls c =>
    simp only [VR] at Vf
    subst Vf
    obtain ⟨k, hk⟩ := Option.isSome_iff_exists.mp hf
    exact keeps_K (G.cls c k hk).1
  | bi b =>
    simp only [VR] at Vf
    subst Vf
    exact keep_bi C b
  | _ => exact absurd hf Bool.false_ne_true
noncomputable def isName : E → Bool
  | .loc .. | .glob .. | .gbad .. => true
  | _ => false
theorem name_of {f : E} (h : isName f = true) : ∃ x p, py f = .Name x p := by
  rcases f with _ | _ | _ | _ | _ | _ | _ | _ | _ | _ | _ | _ | _ | _ | _ | _ | _ | _ | _ | _ | _ | _ | _ | _ | _ <;> first | exact ff h | exact ⟨_, _, rfl⟩
theorem se_call (S : FS F d) (G : CGood C P) (hc : ∀ A fs, AOk d fs A → CallOk C fs A call) {f : E} {args : List E} {p : Pos} (hn : isName f = true) (h1 : SE C P F call N f) (h2 : SEs C P F call N args) : SE C P F call N (.call f args p) := fun μ H s l I R => by
  show WE C F NoX (VRel C) _ ((evE P call N (st C.gt f) l H).bind fun f H => if isFn P f = true then (evEs P call N (sts C.gt args) l H).bind fun vs H => callV P call f vs H else .bad) μ s
  intro hb Q E Po
  have go : wpAny (model C.prog C.w) F.A (eval (py f) F.env) (fun fv s₁ => wpAny (model C.prog C.w) F.A (callWith p fv [] (backTo p (starEach (pys args) F.env)) (backToKw p (keywordEach [] F.env))) Q E s₁) E s := by
    refine WE.bind (h1 μ H s l I R) hb Po fun μ₁ a H₁ v s₁ e1 S1 I1 V1 hb1 Po1 => ?_
    by_cases hf : isFn P a = true
    · rw [if_pos hf] at Po1 hb1
      refine callWith_of (by rw [args_plain]; rfl) (isFn_keep G V1 hf) (args_snd h2 I1 (R.step0 S1) hb1 Po1 fun μ₂ as H₂ vs s₂ S2 I2 V2 hb2 Po2 => ?_)
      exact ⟨I2.inK G.toGood, callV_snd S G hc ((R.step0 S1).step0 S2).frs I2 (VR.step0 S2 V1) V2 hf hb2 Q E Po2⟩
    · exact absurd (if_neg hf) hb1
  obtain ⟨x, q, e⟩ := name_of hn
  show wpAny _ _ (eval (.Call (py f) (pys args) [] p) F.env) Q E s
  rw [e] at go ⊢
  exact wpAny_Call_Name_kw go
theorem form_of {args : List E} {p : Pos} (hl : args.length < 30) : methodCallForm ((pys args).length + 0) (backTo p (starEach (pys args) F.env)) [] = true := by
  have e1 : (pys args).length = args.length := by
    clear hl
    induction args with
    | nil => rfl
    | cons e r ih => show (py e :: pys r).length = _; simp [ih]
  have e2 : (backTo p (starEach (pys args) F.env)).all (fun x => !x.1) = true := by
    clear hl e1
    induction args with
    | nil => rfl
    | cons e r ih =>
      show (backTo p (starEach (py e :: pys r) F.env)).all _ = true
      rw [starEach_py, backTo_cons, List.all_cons, ih]; rfl
  unfold methodCallForm
  rw [e1, e2]
  simp [hl]
theorem call_attr {po : Expr} {x : Str} {args : List E} {ap p : Pos} {M : Model} {A : Around} {E : Value → Shared → Prop} {Q : Value → Shared → Prop} (hs : attributeBase po x F.env (eval po F.env) = eval po F.env) (hl : args.length < 30) (hp : (ap.endLine == p.line) = true)
    (h : wpAny M A (eval po F.env) (fun ov s₁ => wpAny M A (getMethod ov x (do return (← importBound po F.env).getD true)) (fun fx s₂ => wpAny M A (callWith p fx.1 fx.2 (backTo p (starEach (pys args) F.env)) []) Q E s₂) E s₁) E s) :
    wpAny M A (eval (.Call (.Attribute po x ap) (pys args) [] p) F.env) Q E s := by
  show wpAny M A (do
    let ov ← attributeBase po x F.env (eval po F.env)
    standAt ap.atName
    methodCall po x ap p F.env ov ((pys args).length + 0) (backTo p (starEach (pys args) F.env)) []) Q E s
  rw [hs]
  refine wpAny_bind (wpAny_mono h (fun ov s₁ h₁ => wpAny_bind (wpAny_standAt ?_)) fun _ _ z => z)
  unfold methodCall calleeOf methodCallPos
  rw [form_of hl, hp]
  refine wpAny_bind (wpAny_holding (wpAny_mono h₁ (fun fx s₂ h₂ => ?_) fun _ _ z => z))
  exact wpAny_bind (wpAny_pure h₂)
set_option tactic.hygienic true
theorem headV_bim {H : AH} {a : AV} {m : Nat} (e : headV P H a m = some .bim) : m < 6 := by
  induction a using Mine.AV.casesOn <;> first | (injection e; done) | skip
  · rename_i x
    have e : (if m = 5 then some Hd.bim else none) = some .bim := e
    by_cases h : m = 5
    · rw [h]; decide
    · rw [if_neg h] at e; injection e
  · rename_i i
    have e : (match H[i]? with
      | some (.inst c fs) => (match lookL m fs, P.meth c m with
        | none, some k => some (Hd.fn k)
        | _, _ => none)
      | some (.list _) => if m < 5 then some .bim else none
      | _ => none) = some .bim := e
    split at e
    · split at e <;> (first | (injection e; done) | (injection e with j1; injection j1; done))
    · by_cases h : m < 5
      · exact Nat.lt_succ_of_lt h
      · rw [if_neg h] at e; injection e
    · injection e
set_option tactic.hygienic false
inductive HeadV_fnR (P : P0) (H : AH) (a : AV) (m : Nat) (k : Nat) : Prop where
  | mk (i : Nat) (c : Nat) (fs : List (Nat × AV)) (zc1 : a = .ref i) (zc2 : H[i]? = some (.inst c fs)) (zc3 : lookL m fs = none) (zc4 : P.meth c m = some k)
theorem headV_fn {H : AH} {a : AV} {m k : Nat} (e : headV P H a m = some (.fn k)) : HeadV_fnR P H a m k := by
  induction a using AV.casesOn with
  | str x =>
    have e : (if m = 5 then some Hd.bim else none) = some (.fn k) := e
    by_cases hm : m = 5
    · rw [if_pos hm] at e; have e := Option.some.inj e; injection e
    · rw [if_neg hm] at e; exact nn e
  | ref i =>
    unfold headV at e
    dsimp only at e
    cases hi : H[i]? with
    | none => rw [hi] at e; exact nn e
    | some o =>
      rw [hi] at e
      induction o using AObj.casesOn with
      | inst c fs =>
        have e : (match lookL m fs, P.meth c m with | none, some k => some (Hd.fn k) | _, _ => none) = some (.fn k) := e
        cases hl : lookL m fs with
        | some w => rw [hl] at e; exact nn e
        | none =>
          rw [hl] at e
          cases hk : P.meth c m with
          | none => rw [hk] at e; exact nn e
          | some k' =>
            rw [hk] at e
            have e := Option.some.inj e
            injection e with e
            subst e
            exact ⟨i, c, fs, rfl, hi, hl, hk⟩
      | list l =>
        have e : (if m < 5 then some Hd.bim else none) = some (.fn k) := e
        by_cases hm : m < 5
        · rw [if_pos hm] at e; have e := Option.some.inj e; injection e
        · rw [if_neg hm] at e; exact nn e
      | _ => exact nn e
  | _ => exact nn e
theorem se_meth (S : FS F d) (G : CGood C P) (hc : ∀ A fs, AOk d fs A → CallOk C fs A call) {o : E} {x : Str} {m : Nat} {args : List E} {ap p : Pos} (hs : noSuper o = true) (hl : args.length < 30) (hp : (ap.endLine == p.line) = true) (hx : C.nm[m]? = some x)
    (h1 : SE C P F call N o) (h2 : SEs C P F call N args) : SE C P F call N (.meth o x m args ap p) := fun μ H s l I R => by
  show WE C F NoX (VRel C) _ ((evE P call N (st C.gt o) l H).bind fun o H => match headV P H o m with
    | some hd => (evEs P call N (sts C.gt args) l H).bind fun vs H => methV call hd o m vs H
    | none => .bad) μ s
  intro hb Q E Po
  refine call_attr (base_of hs) hl hp (WE.bind (h1 μ H s l I R) hb Po fun μ₁ a H₁ v s₁ e1 S1 I1 V1 hb1 Po1 => ?_)
  have R1 := R.step0 S1
  cases hh : headV P H₁ a m with
  | none => rw [hh] at hb1; exact absurd rfl hb1
  | some hd =>
    rw [hh] at hb1 Po1
    induction hd using Mine.Hd.casesOn with
    | fn k =>
      obtain ⟨i, c, fs, rfl, hi, hlook, hk⟩ := headV_fn hh
      obtain ⟨q, mm, od, hq, rfl, g1, hne, hn, g2, hlk, hw, IA, ha⟩ := I1.inst hi V1
      obtain ⟨hg, hfi, hty⟩ := G.mth c m x k hk hx
      have hga := plainGet_of hg
      have hmx := ha m x hx
      rw [hlook] at hmx
      refine method_fn (I1.inK G.toGood) IA hga.1 hga.2 hfi hty (by show (lookIn x od).map _ = _; rw [hlk, hmx]; rfl) ?_
      refine callWith_of (by rw [args_plain]; rfl) (keeps_K (G.fn k (G.mthb c m k hk))) (args_snd h2 I1 R1 hb1 Po1 fun μ₂ as H₂ vs s₂ S2 I2 V2 hb2 Po2 => ?_)
      refine ⟨I2.inK G.toGood, wpAny_call ?_⟩
      exact hc F.A _ S.aok k (.ref i :: as) (.ref q.1 :: vs) μ₂ H₂ s₂ (R1.step0 S2).frs I2 (by simp only [VRs]; exact ⟨VR.step0 S2 V1, V2⟩) hb2 Q E Po2
    | bim =>
      have hxn : x = bimName m := Option.some.inj (hx.symm.trans (G.nm7 m (headV_bim hh)))
      subst hxn
      refine bim_get I1 V1 hh ?_
      refine callWith_of (P := fun _ => True) (by rw [args_plain]; rfl) (fun h _ => ⟨.machine, .inr (.inl rfl), Looks.of_pure rfl⟩) (args_snd h2 I1 R1 hb1 Po1 fun μ₂ as H₂ vs s₂ S2 I2 V2 hb2 Po2 => ?_)
      exact ⟨trivial, bim_snd hh I2 (VR.step0 S2 V1) V2 hb2 Q E Po2⟩
theorem se_dict0 {p : Pos} : SE C P F call N (.dict [] [] p) := fun μ H s l I R hb Q E Po => by
  show wpAny _ _ (do standAt p; newDict) Q E s
  refine wpAny_bind (wpAny_standAt (wpAny_newObj_type ?_))
  exact Po.newObj (t := s.toks) rfl I fun S => by
    simp only [OR]
    exact ⟨trivial, Nat.zero_le _, [], Nat.le_refl _, Heap.DictOf.new _⟩
noncomputable def isLitS : E → Bool
  | .cstr .. => true
  | _ => false
noncomputable def isLitI : E → Bool
  | .cint .. => true
  | .neg (.cint ..) _ => true
  | _ => false
noncomputable def prs (env : Env) (dp : Pos) : List E → List E → List (Sem Value × Sem Value)
  | k :: ks, v :: vs => (eval (py k) env, do let x ← eval (py v) env; standAt dp; pure x) :: prs env dp ks vs
  | _, _ => []
inductive KV : List (List Nat × Int) → List (Str × Value) → Prop
  | nil : KV [] []
  | cons (k : List Nat) (i : Int) (t : Tok) (r : List (List Nat × Int)) (r' : List (Str × Value)) (h : KV r r') : KV ((k, i) :: r) ((⟨k.toArray⟩, .int i t) :: r')
theorem prs_shape (env : Env) (dp : Pos) : ∀ (ks vs : List E), ks.length = vs.length → (evalEachOpt (pyos ks) env).zip ((evalEach (pys vs) env).map fun v => do let x ← v; standAt dp; pure x) = (prs env dp ks vs).map fun p => (some p.1, p.2)
  | [], [], _ => rfl
  | k :: ks, v :: vs, h => by
    have ih := prs_shape env dp ks vs (Nat.succ.inj h)
    exact congrArg _ ih
  | [], _ :: _, h => by injection h
  | _ :: _, [], h => by injection h
theorem prs_len (env : Env) (dp : Pos) : ∀ (ks vs : List E), ks.length = vs.length → (prs env dp ks vs).length = ks.length
  | [], [], _ => rfl
  | _ :: ks, _ :: vs, h => congrArg (· + 1) (prs_len env dp ks vs (Nat.succ.inj h))
  | [], _ :: _, h => by injection h
  | _ :: _, [], h => by injection h
theorem litI_of {e : E} (h : isLitI e = true) : (∃ i k p, e = .cint i k p) ∨ ∃ i k p q, e = .neg (.cint i k p) q := by
  induction e using E.casesOn with
  | cint i k p => exact .inl ⟨i, k, p, rfl⟩
  | neg e q =>
    induction e using E.casesOn with
    | cint i k p => exact .inr ⟨i, k, p, q, rfl⟩
    | _ => exact ff h
  | _ => exact ff h
theorem litI_snd {e : E} {Q : Value → Shared → Prop} {E : Value → Shared → Prop} {A : Around} (h : isLitI e = true) (k : ∀ t t', Q (.int (litI e) t) { s with toks := t' }) : wpAny (model C.prog C.w) A (eval (py e) F.env) Q E s := by
  rcases litI_of h with ⟨i, k', p, rfl⟩ | ⟨i, k', p, q, rfl⟩
  · exact wpAny_Constant_int (k _ _)
  · show wpAny _ _ (do let v ← eval (.Constant (.int i) _ _) F.env; standAt q; holding [v] (unaryOp .USub v)) Q E s
    refine wpAny_bind (wpAny_Constant_int (wpAny_bind (wpAny_standAt (wpAny_holding ?_))))
    exact PyProof.Rows.neg_int (k _ _)
set_option tactic.hygienic true
theorem prs_snd {dp : Pos} {E' : Value → Shared → Prop} {A : Around} : ∀ (ks vs : List E) (s : Shared) (Q : List (Value × Value) → Shared → Prop), ks.length = vs.length → ks.all isLitS = true → vs.all isLitI = true →
    (∀ us kvs t, Carries (PySem.strKind C.prog C.w) us kvs → KV (dgs ks vs) kvs → Q us { s with toks := t }) → wpAny (model C.prog C.w) A (evalPairs (prs F.env dp ks vs)) Q E' s
  | [], [], s, Q, _, _, _, k => evalPairs_nil (k [] [] s.toks trivial .nil)
  | e :: ks, v :: vs, s, Q, hl, h1, h2, k => by
    rw [List.all_cons] at h1 h2
    obtain ⟨h1, h3⟩ := Bool.and_eq_true_iff.mp h1
    obtain ⟨h2, h4⟩ := Bool.and_eq_true_iff.mp h2
    induction e using Mine.E.casesOn <;> first | ((first | (exact absurd h1 Bool.false_ne_true) | (cases h1)); done) | skip
    rename_i x _ _ _
    refine evalPairs_cons (Calls.Constant_str ?_)
    refine wpAny_bind (litI_snd h2 fun t t' => wpAny_bind (wpAny_standAt (wpAny_pure ?_)))
    refine prs_snd ks vs _ _ (Nat.succ.inj hl) h3 h4 fun us kvs t2 hc hk => ?_
    exact k _ ((x, .int (litI v) t) :: kvs) t2 ⟨strKind_is C.prog C.w _ _, rfl, hc⟩ (by
      have z := KV.cons x.cps.toList (litI v) t _ _ hk
      rwa [str_eta] at z)
  | [], _ :: _, _, _, h, _, _, _ => by injection h
  | _ :: _, [], _, _, h, _, _, _ => by injection h
set_option tactic.hygienic false
theorem KV.keys : ∀ {r : List (List Nat × Int)} {kvs : List (Str × Value)}, KV r kvs → (r.map (·.1)).Nodup → (kvs.map (·.1)).Nodup
  | _, _, .nil, _ => .nil
  | _, _, .cons k i t r r' h, hn => by
    rw [List.map_cons] at hn ⊢
    obtain ⟨h1, h2⟩ := List.nodup_cons.mp hn
    refine List.nodup_cons.mpr ⟨fun q => h1 ?_, h.keys h2⟩
    clear h1 h2 hn
    induction h with
    | nil => exact absurd q List.not_mem_nil
    | cons k2 i2 t2 r2 r2' h2 ih =>
      rw [List.map_cons] at q ⊢
      rcases List.mem_cons.mp q with q | q
      · have q : (⟨k.toArray⟩ : Str) = ⟨k2.toArray⟩ := q
        injection q with q
        have : k = k2 := by simpa using q
        exact this ▸ List.mem_cons_self
      · exact List.mem_cons_of_mem _ (ih q)
theorem KV.get {h : Heap} {k : List Nat} {d : Int} {t : Tok} : ∀ {r : List (List Nat × Int)} {kvs : List (Str × Value)}, KV r kvs → ∃ t', (valueAt kvs (⟨k.toArray⟩ : Str)).getD (.int d t) = .int (dgetL r k d) t'
  | _, _, .nil => ⟨t, rfl⟩
  | _, _, .cons k2 i t2 r r' hr => by
    unfold valueAt dgetL
    rw [List.find?_cons]
    by_cases q : k = k2
    · subst q
      simp only [decide_true, if_true]
      exact ⟨t2, rfl⟩
    · have : decide ((⟨k2.toArray⟩ : Str) = ⟨k.toArray⟩) = false := decide_eq_false fun z => q (by injection z with z; exact (by simpa using z : k2 = k).symm)
      simp only [this, if_neg q]
      exact hr.get (h := h)
theorem dgV_str {ks : List (List Nat × Int)} {d : Int} {rv : AV} (h : dgV ks d rv H ≠ .bad) : ∃ k, rv = .str k := by
  induction rv using AV.casesOn with
  | str k => exact ⟨k, rfl⟩
  | _ => exact absurd rfl h
theorem se_dget {mg mb : Str → Option Value} (Sf : FS F d) (hN : GName C mg mb) {ks vs : List E} {y : Str} {i : Nat} {z : Int} {kz : Nat} {py_ pz px : Pos} {e : E} {dp ap p : Pos} (hne : ks ≠ []) (hl : ks.length = vs.length) (h15 : ks.length ≤ 15) (h1 : ks.all isLitS = true) (h2 : vs.all isLitI = true) (h3 : isLitI e = true) (hn : ((dgs ks vs).map (·.1)).Nodup)
    (hp : (ap.endLine == p.line) = true) (hi : F.slots[i]? = some y) (hk : F.env.scope.names.lookup y = some .local) (hd : (y == ("__debug__" : Str)) = false) : SE C P F call N (.dget ks vs dp (.item (.loc y i py_) (.cint z kz pz) px) e ap p) := fun μ H s l I R => by
  show WE C F NoX (VRel C) _ ((evE P call N (st C.gt (.item (.loc y i py_) (.cint z kz pz) px)) l H).bind fun v H => dgV (dgs ks vs) (litI e) v H) μ s
  intro hb Q E Po
  have ex : evE P call N (st C.gt (.item (.loc y i py_) (.cint z kz pz) px)) l H = Out.bind (match l[i]? with | some (some v) => .ok v H | _ => .bad) fun v H => match itemV H v (.int z) with | some r => .ok r H | none => .bad := rfl
  rw [ex] at hb Po
  cases hv : l[i]? with
  | none => rw [hv] at hb; exact absurd rfl hb
  | some ov =>
  induction ov using Option.casesOn with
  | none => rw [hv] at hb; exact absurd rfl hb
  | some av =>
  rw [hv] at hb Po
  cases hr : itemV H av (.int z) with
  | none => simp only [Out.bind, hr] at hb; exact absurd rfl hb
  | some rv =>
  have hb2 : dgV (dgs ks vs) (litI e) rv H ≠ .bad := by
    simp only [Out.bind, hr] at hb; exact hb
  have Po2 : Post C NoX (VRel C) μ s (dgV (dgs ks vs) (litI e) rv H) Q E := by
    simp only [Out.bind, hr] at Po; exact Po
  clear Po hb ex
  obtain ⟨k, rfl⟩ := dgV_str hb2
  have Po2 : Post C NoX (VRel C) μ s (.ok (.int (dgetL (dgs ks vs) k (litI e))) H) Q E := Po2
  refine call_attr (args := [.item (.loc y i py_) (.cint z kz pz) px, e]) (po := .Dict (pyos ks) (pys vs) dp) rfl (show 2 < 30 by decide) hp ?_
  have hlen := prs_len F.env dp ks vs hl
  refine wpAny_Dict_pairs (knd := PySem.strKind C.prog C.w) (prs_shape F.env dp ks vs hl) (fun q => hne (List.length_eq_zero_iff.mp (by rw [← hlen, q]; rfl))) (by rw [hlen]; exact h15) ?_
  refine prs_snd ks vs _ _ hl h1 h2 fun us kvs t hc hkv => ⟨kvs, hc, Heap.DictOf.new _, fun h' hD hs => ?_⟩
  rw [merged_nil_of_nodup kvs (hkv.keys hn)] at hD
  have hk1 : ∀ b o, s.heap.get? b = some o → h'.get? b = some o := fun b o e => hs.extBut b o (Nat.ne_of_lt (Heap.lt_size e)) (Heap.get?_push_of_some _ e)
  have h0 : s.heap.get? s.heap.objs.size = none := size_none _
  have h3' : 3 < s.heap.objs.size := by
    obtain ⟨o, _, _, e, _⟩ := hN.g
    exact Heap.lt_size (I.stays _ _ e)
  generalize s.heap.objs.size = D at hD hs h0 h3' ⊢
  generalize t + us.length = tk
  have S1 : Step NoX μ s μ { s with heap := h', toks := tk } := ⟨⟨[], by simp⟩, fun _ h => .inl h, fun b x e => ⟨x, hk1 b x e⟩, fun b x e _ _ => ⟨x.slots, hk1 b x e, fun _ => rfl⟩, rfl, rfl⟩
  have I1 : Inv C μ H h' := I.same S1 noX_tuple (fun b o e => hk1 _ _ (I.stays b o e)) fun a ha => by
    obtain ⟨o, e⟩ := I.there ha
    rw [e]; exact hk1 _ _ e
  refine getMethod_builtin (id := "dict.get") hD.typeIs PySem.F.plainAttrs_dict PySem.F.slot_dict_get PySem.F.type_dict_get (fun a q => by (injection q with j1; subst j1); exact hD.mapOf.noDict _ rfl) ?_
  refine callWith_of (P := fun _ => True) (by rw [args_plain]; rfl) (fun h _ => ⟨.machine, .inr (.inl rfl), Looks.of_pure rfl⟩) ?_
  have ea : backTo p (starEach (pys [.item (.loc y i py_) (.cint z kz pz) px, e]) F.env) = (false, eval (py (.item (.loc y i py_) (.cint z kz pz) px)) F.env) :: backTo p (starEach (pys [e]) F.env) := by
    show backTo p (starEach (py _ :: pys [e]) F.env) = _
    rw [starEach_py, backTo_cons]
  have eb : backTo p (starEach (pys [e]) F.env) = [(false, eval (py e) F.env)] := by
    show backTo p (starEach (py e :: []) F.env) = _
    rw [starEach_py, backTo_cons]; rfl
  rw [ea, eb]
  refine evalArgs_plain (Calls.spliced_cons (Subscript_ ?_))
  refine loc_core (s := { s with heap := h', toks := tk }) Sf hi (.inl hk) hd (R.step0 S1) hv fun yv V => wpAny_Constant_int ?_
  refine item_core (s := { s with heap := h', toks := tk + 1 }) (b := .int z) I1 V (by simp only [VR]; exact ⟨_, rfl⟩) (sub_plain (i := .cint z kz pz)) hr fun rv t2 V2 => ?_
  simp only [VR] at V2
  obtain ⟨_, tv, rfl⟩ := V2
  refine Calls.spliced_cons (litI_snd h3 fun t3 t4 => Calls.spliced_nil ⟨trivial, ?_⟩)
  refine call_meetsIn PySem.F.slot_dict_get (Heap.DictOf.typeIs (s := { s with heap := h', toks := t4 }) hD) PySem.F.entry_dict_get (PySem.F.args_dict_get_3 _ _ _) (meets_dict_get_default (PySem.strKind C.prog C.w) D (strKind_is C.prog C.w _ tv) (beq_eq_false_iff_ne.mpr (by show D ≠ 1; lia)) _) ⟨_, hD.mapOf, ?_⟩
  obtain ⟨t', et⟩ := hkv.get (h := h') (k := k) (d := litI e) (t := t3)
  rw [et]
  exact (Post.re Po2 S1 fun _ h => .inl h).done (t := t4 + 1) rfl I1 (by simp only [VRel, VR]; exact ⟨t', rfl⟩)
end
end Mine
end
section
namespace Mine
open PySem PySem.W PySem.Calls PyProof.Rows
section
variable {α β γ : Type} {C : Cx} {P : P0} {F : Fm} {call : Nat → List AV → AH → Out AV} {N : Nat} {μ : Mu} {H : AH} {s : Shared} {l : Loc} {d : Nat}
theorem Step.keep {h' : Heap} (μ : Mu) (hk : ∀ b o, s.heap.get? b = some o → h'.get? b = some o) (t : Nat) : Step NoX μ s μ { s with heap := h', toks := t } :=
  ⟨⟨[], by simp⟩, fun _ h => .inl h, fun b x e => ⟨x, hk b x e⟩, fun b x e _ _ => ⟨x.slots, hk b x e, fun _ => rfl⟩, rfl, rfl⟩
theorem Inv.keep {h' : Heap} (I : Inv C μ H s.heap) (hk : ∀ b o, s.heap.get? b = some o → h'.get? b = some o) : Inv C μ H h' :=
  I.same (s' := { s with heap := h' }) (Step.keep μ hk s.toks) (fun _ _ h => h.elim) (fun b o e => hk b o (I.stays b o e)) fun a ha => by
    obtain ⟨x, e⟩ := I.there ha
    rw [e]; exact hk _ _ e
noncomputable abbrev LX (F : Fm) : Addr → Prop := fun a => a ∈ F.wr
structure FT (F : Fm) (d : Nat) : Prop extends FS F d where
  top : ∃ o, F.fr = F.env :: o
  own : ∀ p ∈ F.env.cells, p.2 ∈ F.wr
  apart : F.env.cells.Pairwise fun x y => x.2 ≠ y.2
theorem FR.plain {h : Heap} (S : FS F d) (R : FR C F μ l h) : ∀ a o, LX F a → h.get? a = some o → Plainly o := fun a o q e => by
  rcases S.wrs a q with rfl | ⟨p, hp, rfl⟩
  · obtain ⟨m, ⟨o', es, ep, e', hd, _⟩, _⟩ := R.ns
    rw [e'] at e; (injection e with j1; subst j1)
    exact .inl ⟨es, ep, hd⟩
  · obtain ⟨_, _, _, v, o', e', hd⟩ := R.cell p hp
    rw [e'] at e; (injection e with j1; subst j1)
    exact .inr (.inl ⟨v, hd⟩)
noncomputable def FlR (C : Cx) (μ : Mu) (h : Heap) : Fl → Flow → Prop
  | .next, f => f = .next
  | .cont, f => f = .cont
  | .ret a, f => ∃ v, f = .ret v ∧ VR C μ h a v
structure PostS (C : Cx) (F : Fm) (μ : Mu) (s : Shared) (r : SO) (Q : Flow → Shared → Prop) (E : Value → Shared → Prop) : Prop where
  ok : ∀ μ' fl l' H' f s', r = .ok fl l' H' → Step (LX F) μ s μ' s' → Inv C μ' H' s'.heap → FR C F μ' l' s'.heap → FlR C μ' s'.heap fl f → Q f s'
  exc : ∀ μ' l' H' e s', r = .exc l' H' → Step (LX F) μ s μ' s' → Inv C μ' H' s'.heap → FR C F μ' l' s'.heap → ExSt C μ' s.heap s'.heap e → E e s'
noncomputable def PostT (C : Cx) (F : Fm) (μ : Mu) (s : Shared) (r : Out Loc) (Q : Unit → Shared → Prop) : Prop :=
  ∀ μ' l' H' s', r = .ok l' H' → Step (LX F) μ s μ' s' → Inv C μ' H' s'.heap → FR C F μ' l' s'.heap → Q () s'
noncomputable def WS (C : Cx) (F : Fm) (t : Sem Flow) (r : SO) (μ : Mu) (s : Shared) : Prop := r ≠ .bad → ∀ Q E, PostS C F μ s r Q E → wpAny (model C.prog C.w) F.A t Q E s
noncomputable def WT (C : Cx) (F : Fm) (t : Sem Unit) (r : Out Loc) (μ : Mu) (s : Shared) : Prop := r ≠ .bad → ∀ Q E, PostT C F μ s r Q → wpAny (model C.prog C.w) F.A t Q E s
theorem PostS.re {μ₁ : Mu} {s₁ : Shared} {r : SO} {Q : Flow → Shared → Prop} {E : Value → Shared → Prop} (P : PostS C F μ s r Q E) (S : Step (LX F) μ s μ₁ s₁) : PostS C F μ₁ s₁ r Q E :=
  ⟨fun _ _ _ _ _ _ e T => P.ok _ _ _ _ _ _ e (S.trans0 T), fun _ _ _ _ _ e T I R x => P.exc _ _ _ _ _ e (S.trans0 T) I R (x.older S.older)⟩
theorem PostT.re {μ₁ : Mu} {s₁ : Shared} {r : Out Loc} {Q : Unit → Shared → Prop} (P : PostT C F μ s r Q) (S : Step (LX F) μ s μ₁ s₁) : PostT C F μ₁ s₁ r Q :=
  fun _ _ _ _ e T => P _ _ _ _ e (S.trans0 T)
theorem lx {X : Addr → Prop} {μ' : Mu} {s' : Shared} (S : Step NoX μ s μ' s') : Step X μ s μ' s' := S.weak fun _ h => h.elim
theorem WE.thenS {rel : Mu → Heap → α → β → Prop} {t : Sem β} {r : Out α} {g : α → AH → SO} {Q : β → Shared → Prop} {Q₀ : Flow → Shared → Prop} {E : Value → Shared → Prop} (h : WE C F NoX rel t r μ s) (R : FR C F μ l s.heap)
    (hb : r.thenS l g ≠ .bad) (P : PostS C F μ s (r.thenS l g) Q₀ E)
    (k : ∀ μ₁ a H₁ v s₁, Step NoX μ s μ₁ s₁ → Inv C μ₁ H₁ s₁.heap → FR C F μ₁ l s₁.heap → rel μ₁ s₁.heap a v → g a H₁ ≠ .bad → PostS C F μ₁ s₁ (g a H₁) Q₀ E → Q v s₁) :
    wpAny (model C.prog C.w) F.A t Q E s :=
  h (fun q => hb (by rw [q]; rfl)) Q E ⟨fun μ' a H' v s' e S I V => by
    rw [e] at P hb
    exact k μ' a H' v s' S I (R.step0 S) V hb (PostS.re P (lx S)), fun μ' H' e s' q S I x => by
    rw [q] at P
    exact P.exc μ' l H' e s' rfl (lx S) I (R.step0 S) x⟩
theorem WE.thenT {rel : Mu → Heap → α → β → Prop} {t : Sem β} {r : Out α} {g : α → AH → Out Loc} {Q : β → Shared → Prop} {Q₀ : Unit → Shared → Prop} {E : Value → Shared → Prop} (h : WE C F NoX rel t r μ s) (R : FR C F μ l s.heap)
    (hb : r.nx g ≠ .bad) (P : PostT C F μ s (r.nx g) Q₀)
    (k : ∀ μ₁ a H₁ v s₁, Step NoX μ s μ₁ s₁ → Inv C μ₁ H₁ s₁.heap → FR C F μ₁ l s₁.heap → rel μ₁ s₁.heap a v → g a H₁ ≠ .bad → PostT C F μ₁ s₁ (g a H₁) Q₀ → Q v s₁) :
    wpAny (model C.prog C.w) F.A t Q E s :=
  h (fun q => hb (by rw [q]; rfl)) Q E ⟨fun μ' a H' v s' e S I V => by
    rw [e] at P hb
    exact k μ' a H' v s' S I (R.step0 S) V hb (PostT.re P (lx S)), fun μ' H' e s' q S I x => absurd (by rw [q]; rfl) hb⟩
theorem setLoc_some {i : Nat} {a : AV} {l' : Loc} (e : setLoc l i a = some l') : i < l.length ∧ l' = l.set i (some a) := by
  unfold setLoc at e
  split at e
  · (injection e with j1; subst j1); exact ⟨by assumption, rfl⟩
  · injection e
theorem loc_ne {x y : Str} {i j : Nat} (S : FS F d) (hi : F.slots[i]? = some x) (hj : F.slots[j]? = some y) (hij : i ≠ j) : y ≠ x := fun z => by
  subst z
  have l1 := List.getElem?_eq_some_iff.mp hi
  have l2 := List.getElem?_eq_some_iff.mp hj
  exact hij ((List.getElem_inj S.nodup).mp (l1.2.trans l2.2.symm))
theorem loc_set (S : FS F d) {x : Str} {i : Nat} {m : Str → Option Value} {mv : Option Value} {w : Option AV} {h' : Heap} {tk : Nat} (hi : F.slots[i]? = some x) (hk : F.env.scope.names.lookup x = some .local) (I : Inv C μ H s.heap) (R : FR C F μ l s.heap)
    (hm : ∀ (i : Nat) (x : Str) (v : AV), F.slots[i]? = some x → l[i]? = some (some v) → ∃ rv, At F m s.heap x rv ∧ VR C μ s.heap v rv)
    (hn' : h'.Ns F.env.locals (fun y => if y = x then mv else m y)) (hs : Heap.SameBut F.env.locals s.heap h') (hw : ∀ a, w = some a → ∃ v, mv = some v ∧ VR C μ s.heap a v) :
    Step (LX F) μ s μ { s with heap := h', toks := tk } ∧ Inv C μ H h' ∧ FR C F μ (l.set i w) h' := by
  obtain ⟨oL', es', ep', heL', hdL', _⟩ := id hn'
  have S1 : Step (LX F) μ s μ { s with heap := h', toks := tk } := by
    refine ⟨⟨[], by simp⟩, fun _ h => .inl h, fun b o q => ?_, fun b o q _ hx => ⟨o.slots, (hs.2 b fun z => hx (z ▸ S.wrL)).trans q, fun _ => rfl⟩, rfl, rfl⟩
    by_cases hb : b = F.env.locals
    · rw [hb]; exact ⟨oL', heL'⟩
    · exact ⟨o, (hs.2 b hb).trans q⟩
  have hcell : ∀ p ∈ F.env.cells, ∀ w, s.heap.IsCell p.2 w → h'.IsCell p.2 w := fun p hp w hw => hw.sameBut hs (R.cell p hp).2.2.1
  refine ⟨S1, ?_, ?_⟩
  · refine I.same S1 (R.plain S) (fun b o q => (hs.2 b fun z => ?_).trans (I.stays b o q)) fun a ha => hs.2 a fun z => R.off (z ▸ ha)
    rw [z, R.new] at q; injection q
  · refine ⟨⟨_, hn', fun j y u hj hu => ?_⟩, R.off, R.new, by rw [List.length_set]; exact R.len, fun p hp => ?_, R.frs.moved fun L hL hno o es n e hd => ?_⟩
    · by_cases hij : i = j
      · subst hij
        rw [hi] at hj; (injection hj with j1; subst j1)
        rw [List.getElem?_set] at hu
        simp only [if_true] at hu
        split at hu
        · (injection hu with j1; subst j1)
          obtain ⟨v, rfl, V⟩ := hw u rfl
          refine ⟨v, ?_, V.step S1 (R.plain S)⟩
          unfold At
          rw [show F.env.kindOf x = some .local from hk]
          show (if x = x then some v else m x) = some v
          rw [if_pos rfl]
        · injection hu
      · rw [List.getElem?_set_ne hij] at hu
        obtain ⟨rv, q, W⟩ := hm j y u hj hu
        refine ⟨rv, ?_, W.step S1 (R.plain S)⟩
        have hxy := loc_ne S hi hj hij
        unfold At at q ⊢
        split at q
        · obtain ⟨c, hc, hv⟩ := q
          obtain ⟨p, hp, rfl⟩ := lookup_mem hc
          exact ⟨_, hc, hcell p hp _ hv⟩
        · show (if y = x then mv else m y) = some rv
          rw [if_neg hxy]; exact q
    · obtain ⟨c1, c2, c3, w, c4⟩ := R.cell p hp
      exact ⟨c1, c2, c3, w, hcell p hp w c4⟩
    · refine ⟨hno, ?_⟩
      by_cases hb : L = F.env.locals
      · subst hb; exact ⟨oL', es', ep', heL', hdL'⟩
      · exact ⟨o, es, n, (hs.2 L hb).trans e, hd⟩
theorem store_loc {A : Around} (S : FS F d) {x : Str} {i : Nat} {a : AV} {v : Value} {l' : Loc} {Q : Unit → Shared → Prop} {E : Value → Shared → Prop} (hi : F.slots[i]? = some x) (hk : F.env.scope.names.lookup x = some .local) (I : Inv C μ H s.heap) (R : FR C F μ l s.heap) (V : VR C μ s.heap a v)
    (e : setLoc l i a = some l') (h : ∀ s', Step (LX F) μ s μ s' → Inv C μ H s'.heap → FR C F μ l' s'.heap → Q () s') : wpAny (model C.prog C.w) A (storeName F.env x v) Q E s := by
  obtain ⟨hlt, rfl⟩ := setLoc_some e
  obtain ⟨m, hn, hm⟩ := R.ns
  refine wpAny_storeName_local hk hn (fun h' hn' hs => ?_) (by rw [S.kind]; rfl)
  obtain ⟨S1, I1, R1⟩ := loc_set (tk := s.toks + 1) (w := some a) S hi hk I R hm hn' hs fun a' q => by (injection q with j1; subst j1); exact ⟨v, rfl, V⟩
  exact h _ S1 I1 R1
theorem pair_ne {α : Type} {x y : Str} {c c' : α} : ∀ {l : List (Str × α)}, (l.Pairwise fun x y => x.2 ≠ y.2) → l.lookup x = some c → l.lookup y = some c' → x ≠ y → c ≠ c'
  | [], _, h, _, _ => by injection h
  | (z, w) :: r, hp, h1, h2, hn => by
    obtain ⟨p1, p2⟩ := List.pairwise_cons.mp hp
    rw [List.lookup_cons] at h1 h2
    cases e1 : x == z <;> cases e2 : y == z <;> rw [e1] at h1 <;> rw [e2] at h2
    · exact pair_ne p2 h1 h2 hn
    · (injection h2 with j1; subst j1)
      obtain ⟨p, hp, rfl⟩ := lookup_mem h1
      exact Ne.symm (p1 p hp)
    · (injection h1 with j1; subst j1)
      obtain ⟨p, hp, rfl⟩ := lookup_mem h2
      exact p1 p hp
    · exact absurd ((beq_iff_eq.mp e1).trans (beq_iff_eq.mp e2).symm) hn
theorem store_cell (S : FT F d) {x : Str} {i : Nat} {a : AV} {v : Value} {l' : Loc} {c : Addr} {Q : Unit → Shared → Prop} {E : Value → Shared → Prop} (hi : F.slots[i]? = some x) (hk : F.env.scope.names.lookup x = some .cell) (hc : F.env.cells.lookup x = some c) (I : Inv C μ H s.heap) (R : FR C F μ l s.heap) (V : VR C μ s.heap a v)
    (e : setLoc l i a = some l') (h : ∀ s', Step (LX F) μ s μ s' → Inv C μ H s'.heap → FR C F μ l' s'.heap → Q () s') : wpAny (model C.prog C.w) F.A (storeName F.env x v) Q E s := by
  obtain ⟨hlt, rfl⟩ := setLoc_some e
  obtain ⟨m, hn, hm⟩ := R.ns
  obtain ⟨pc, hpc, epc⟩ := lookup_mem hc
  obtain ⟨cO, cB, cL, w0, cW⟩ := R.cell pc hpc
  rw [epc] at cO cB cL cW
  refine wpAny_storeName_cell S.kind hk hc cW fun h' hC hs => ?_
  obtain ⟨oC, hoC, hdC⟩ := id hC
  obtain ⟨oc, hoc, hdc⟩ := id cW
  have S1 : Step (LX F) μ s μ { s with heap := h' } := by
    refine ⟨⟨[], by simp⟩, fun _ h => .inl h, fun b o q => ?_, fun b o q _ hx => ⟨o.slots, (hs.2 b fun z => hx (by rw [z, ← epc]; exact S.own pc hpc)).trans q, fun _ => rfl⟩, rfl, rfl⟩
    by_cases hb : b = c
    · rw [hb]; exact ⟨oC, hoC⟩
    · exact ⟨o, (hs.2 b hb).trans q⟩
  refine h _ S1 ?_ ?_
  · refine I.same S1 (R.plain S.toFS) (fun b o q => (hs.2 b fun z => ?_).trans (I.stays b o q)) fun a ha => hs.2 a fun z => cO (z ▸ ha)
    rw [z, cB] at q; injection q
  · refine ⟨⟨m, ns_slots hn fun o e => ⟨o.slots, (hs.2 _ (Ne.symm cL)).trans e⟩, fun j y w hj hw => ?_⟩, R.off, R.new, by rw [List.length_set]; exact R.len, fun p hp => ?_, R.frs.moved fun L hL hno o es n e hd => ?_⟩
    · by_cases hij : i = j
      · subst hij
        rw [hi] at hj; (injection hj with j1; subst j1)
        rw [List.getElem?_set_self hlt] at hw
        (injection hw with j1; injection j1 with j1; subst j1)
        refine ⟨v, ?_, V.step S1 (R.plain S.toFS)⟩
        unfold At
        rw [show F.env.kindOf x = some .cell from hk]
        exact ⟨c, hc, hC⟩
      · rw [List.getElem?_set_ne hij] at hw
        obtain ⟨rv, q, W⟩ := hm j y w hj hw
        refine ⟨rv, ?_, W.step S1 (R.plain S.toFS)⟩
        have hxy := loc_ne S.toFS hi hj hij
        refine q.of fun c' w' hc' hw' => hw'.sameBut hs (Ne.symm (pair_ne S.apart hc hc' (Ne.symm hxy)))
    · obtain ⟨c1, c2, c3, w, c4⟩ := R.cell p hp
      by_cases hb : p.2 = c
      · exact ⟨c1, c2, c3, some v, hb ▸ hC⟩
      · exact ⟨c1, c2, c3, w, c4.sameBut hs hb⟩
    · refine ⟨hno, o, es, n, (hs.2 L fun z => ?_).trans e, hd⟩
      subst z
      rw [hoc] at e; (injection e with j1; subst j1)
      rw [hdc] at hd; injection hd
structure NmC (F : Fm) (x : Str) (i : Nat) : Prop where
  slot : F.slots[i]? = some x
  kind : F.env.scope.names.lookup x = some .local ∨ F.env.scope.names.lookup x = some .cell ∧ ∃ c, F.env.cells.lookup x = some c
theorem store_snd (S : FT F d) {x : Str} {i : Nat} {a : AV} {v : Value} {l' : Loc} {Q : Unit → Shared → Prop} {E : Value → Shared → Prop} (hN : NmC F x i) (I : Inv C μ H s.heap) (R : FR C F μ l s.heap) (V : VR C μ s.heap a v)
    (e : setLoc l i a = some l') (h : ∀ s', Step (LX F) μ s μ s' → Inv C μ H s'.heap → FR C F μ l' s'.heap → Q () s') : wpAny (model C.prog C.w) F.A (storeName F.env x v) Q E s := by
  rcases hN.kind with hk | ⟨hk, c, hc⟩
  · exact store_loc S.toFS hN.slot hk I R V e h
  · exact store_cell S hN.slot hk hc I R V e h
noncomputable def TT (C : Cx) (P : P0) (F : Fm) (call : Nat → List AV → AH → Out AV) (N : Nat) (t : T) : Prop :=
  ∀ μ H s l a v, Inv C μ H s.heap → FR C F μ l s.heap → VR C μ s.heap a v → WT C F (assign (pyT t) F.env v) (asT P call N (stT C.gt t) a l H) μ s
noncomputable def TTs (C : Cx) (P : P0) (F : Fm) (call : Nat → List AV → AH → Out AV) (N : Nat) (ts : List T) : Prop :=
  ∀ μ H s l as vs, Inv C μ H s.heap → FR C F μ l s.heap → VRs C μ s.heap as vs → WT C F (assignInOrder ((assignEach (pyTs ts) F.env).map (·.2)) vs) (asTs P call N (stTs C.gt ts) as l H) μ s
theorem tt_of {x : Str} {i : Nat} {p : Pos} (h : ∀ μ H s l a v l' (Q : Unit → Shared → Prop) (E : Value → Shared → Prop), Inv C μ H s.heap → FR C F μ l s.heap → VR C μ s.heap a v → setLoc l i a = some l' → (∀ s', Step (LX F) μ s μ s' → Inv C μ H s'.heap → FR C F μ l' s'.heap → Q () s') → wpAny (model C.prog C.w) F.A (storeName F.env x v) Q E s) :
    TT C P F call N (.name x i p) := fun μ H s l a v I R V => by
  show WT C F _ (match setLoc l i a with | some l => (.ok l H : Out Loc) | none => .bad) μ s
  intro hb Q E Po
  cases e : setLoc l i a with
  | none => rw [e] at hb; exact absurd rfl hb
  | some l' =>
    rw [e] at Po
    exact wpAny_assign_Name (h μ H s l a v l' Q E I R V e fun s' S1 I1 R1 => Po μ l' H s' rfl S1 I1 R1)
theorem tt_name (S : FS F d) {x : Str} {i : Nat} {p : Pos} (hi : F.slots[i]? = some x) (hk : F.env.scope.names.lookup x = some .local) : TT C P F call N (.name x i p) :=
  tt_of fun _ _ _ _ _ _ _ _ _ I R V e h => store_loc S hi hk I R V e h
theorem tt_nameC (S : FT F d) {x : Str} {i : Nat} {p : Pos} (hN : NmC F x i) : TT C P F call N (.name x i p) :=
  tt_of fun _ _ _ _ _ _ _ _ _ I R V e h => store_snd S hN I R V e h
theorem tt_attr (G : CGood C P) {o : E} {x : Str} {ai : Nat} {p : Pos} (h : SE C P F call N o) (hx : C.nm[ai]? = some x) : TT C P F call N (.attr o x ai p) := fun μ H s l a v I R V => by
  show WT C F _ ((evE P call N (st C.gt o) l H).nx fun o H => match putA P.fld H o ai a with | some H => (.ok l H : Out Loc) | none => .bad) μ s
  intro hb Q E Po
  show wpAny _ _ (do
    let ov ← holding [v] (eval (py o) F.env)
    standAt p.atName
    holding [v, ov] (setAttr ov x v)
    release [v, ov] []) Q E s
  refine wpAny_bind (wpAny_holding (WE.thenT (h μ H s l I R) R hb Po fun μ₁ b H₁ u s₁ S1 I1 R1 V1 hb1 Po1 => ?_))
  refine wpAny_bind (wpAny_standAt (wpAny_bind (wpAny_holding ?_)))
  cases e : putA P.fld H₁ b ai a with
  | none => rw [e] at hb1; exact absurd rfl hb1
  | some H' =>
    rw [e] at Po1
    exact put_snd G.toGood I1 V1 (VR.step0 S1 V) hx e fun s' S2 I2 => wpAny_release (Po1 μ₁ l H' s' rfl (lx S2) I2 (R1.step0 S2))
theorem tt_item {o i : E} {p : Pos} (h1 : SE C P F call N o) (h2 : SE C P F call N i) : TT C P F call N (.item o i p) := fun μ H s l a v I R V => by
  show WT C F _ ((evE P call N (st C.gt o) l H).nx fun o H => (evE P call N (st C.gt i) l H).nx fun k H => match putI H o k a with | some H => (.ok l H : Out Loc) | none => .bad) μ s
  intro hb Q E Po
  have he : assign (pyT (.item o i p)) F.env v = (do
    let ov ← holding [v] (eval (py o) F.env)
    let iv ← holding [v, ov] (eval (py i) F.env)
    standAt p
    holding [v, ov, iv] (setItem ov iv v)
    release (match py i with | .Slice _ _ none _ => [iv, v, ov] | _ => [v, ov, iv]) []) := rfl
  rw [he]
  refine wpAny_bind (wpAny_holding (WE.thenT (h1 μ H s l I R) R hb Po fun μ₁ b H₁ u s₁ S1 I1 R1 V1 hb1 Po1 => ?_))
  refine wpAny_bind (wpAny_holding (WE.thenT (h2 μ₁ H₁ s₁ l I1 R1) R1 hb1 Po1 fun μ₂ k H₂ kv s₂ S2 I2 R2 V2 hb2 Po2 => ?_))
  refine wpAny_bind (wpAny_standAt (wpAny_bind (wpAny_holding ?_)))
  cases e : putI H₂ b k a with
  | none => rw [e] at hb2; exact absurd rfl hb2
  | some H' =>
    rw [e] at Po2
    exact puti_snd I2 (VR.step0 S2 V1) V2 (VR.step0 S2 (VR.step0 S1 V)) e fun s' S3 I3 => wpAny_release (Po2 μ₂ l H' s' rfl (lx S3) I3 (R2.step0 S3))
theorem assignEach_py (t : T) (r : List Expr) : assignEach (pyT t :: r) F.env = (false, assign (pyT t) F.env) :: assignEach r F.env := by induction t using Mine.T.casesOn <;> rfl
theorem tts_nil : TTs C P F call N [] := fun μ H s l as vs I R V hb Q E Po => by
  induction as using List.casesOn with
  | nil => rw [vrs0 V]; exact wpAny_pure (Po μ l H s rfl .refl I R)
  | cons _ _ => exact absurd rfl hb
theorem tts_cons (S0 : FS F d) {t : T} {ts : List T} (h1 : TT C P F call N t) (h2 : TTs C P F call N ts) : TTs C P F call N (t :: ts) := fun μ H s l as vs I R V => by
  induction as using List.casesOn with
  | nil => exact fun hb => absurd rfl hb
  | cons a as =>
    induction vs using List.casesOn with
    | nil => simp only [VRs] at V
    | cons v vs =>
      simp only [VRs] at V
      show WT C F (assignInOrder ((assignEach (pyT t :: pyTs ts) F.env).map (·.2)) (v :: vs)) ((asT P call N (stT C.gt t) a l H).nx fun l H => asTs P call N (stTs C.gt ts) as l H) μ s
      intro hb Q E Po
      rw [assignEach_py]
      show wpAny _ _ (do holding vs (assign (pyT t) F.env v); assignInOrder ((assignEach (pyTs ts) F.env).map (·.2)) vs) Q E s
      refine wpAny_bind (wpAny_holding (h1 μ H s l a v I R V.1 (fun q => hb (by rw [q]; rfl)) _ E fun μ₁ l₁ H₁ s₁ e1 S1 I1 R1 => ?_))
      rw [e1] at hb Po
      exact h2 μ₁ H₁ s₁ l₁ as vs I1 R1 (VRs.step S1 (R.plain S0) _ V.2) hb Q E (Po.re S1)
theorem stTs_len : ∀ (ts : List T), (stTs C.gt ts).length = ts.length
  | [] => rfl
  | t :: ts => by show (stT C.gt t :: stTs C.gt ts).length = _; simp [stTs_len ts]
theorem findIdx_ts : ∀ (ts : List T), ((assignEach (pyTs ts) F.env).findIdx? (·.1)) = none ∧ (assignEach (pyTs ts) F.env).length = ts.length
  | [] => ⟨rfl, rfl⟩
  | t :: ts => by
    show ((assignEach (pyT t :: pyTs ts) F.env).findIdx? (·.1)) = none ∧ (assignEach (pyT t :: pyTs ts) F.env).length = _
    rw [assignEach_py]
    obtain ⟨a, b⟩ := findIdx_ts ts
    exact ⟨by rw [List.findIdx?_cons]; simp [a], by simp [b]⟩
set_option tactic.hygienic true
theorem tt_tup (S : FS F d) {ts : List T} {k : Nat} {p : Pos} (h : TTs C P F call N ts) : TT C P F call N (.tup ts k p) := fun μ H s l a v I R V => by
  show WT C F _ (match (generalizing := false) a with | .tup vs => if (stTs C.gt ts).length = vs.length then asTs P call N (stTs C.gt ts) vs l H else .bad | _ => .bad) μ s
  intro hb Q E Po
  split at hb
  · rename_i as
    dsimp only at Po
    by_cases hlen : (stTs C.gt ts).length = as.length
    · rw [if_pos hlen] at Po hb
      obtain ⟨t, items, rfl, ht, hv, hl, ho⟩ := tuple_of V
      show wpAny _ _ (do standAt p; unpack (.ref t) (assignEach (pyTs ts) F.env)) Q E s
      refine wpAny_bind (wpAny_standAt ?_)
      unfold unpack
      obtain ⟨f1, f2⟩ := findIdx_ts (F := F) ts
      have hz := hv.len
      simp only [Array.length_toList] at hz
      rw [stTs_len] at hlen
      rw [f1, f2, hlen, hz]
      refine wpAny_bind (wpAny_holding (PyProof.Rows.unpackItems_tuple S.handled ht fun h' hx => ?_))
      have hk : ∀ b o, s.heap.get? b = some o → h'.get? b = some o := fun b o e => hx b o (Nat.ne_of_lt (Heap.lt_size e)) e
      have S1 : Step NoX μ s μ { s with heap := h' } := Step.keep μ hk s.toks
      exact h μ H { s with heap := h' } l as _ (I.keep hk) (R.step0 S1) (VRs.step0 S1 hv) hb Q E (Po.re (lx S1))
    · exact absurd (if_neg hlen) hb
  · exact absurd rfl hb
set_option tactic.hygienic false
end
end Mine
end
section
namespace Mine
open PySem PySem.W PySem.Calls PyProof.Rows
section
variable {C : Cx} {P : P0} {F : Fm} {N : Nat} {μ₀ μ : Mu} {H : AH} {s₀ s : Shared} {l : Loc} {d : Nat} {X : Addr → Prop} {A' : Around} {E' : Value → Shared → Prop} {e : Value}
theorem dict_mapFields (o : Obj) (f : Array Value → Array Value) : (o.mapFields f).dict = o.dict := by
  obtain ⟨c, d, dt, sl⟩ := o
  induction dt using PySem.Data.casesOn <;> rfl
theorem base_none (I : Inv C μ H s.heap) {a : Addr} (h : s.heap.get? a = none) : C.base.get? a = none := by
  cases q : C.base.get? a with
  | none => rfl
  | some o => rw [I.stays a o q] at h; injection h
structure Fly (C : Cx) (F : Fm) (X : Addr → Prop) (μ₀ : Mu) (s₀ : Shared) (μ : Mu) (H : AH) (l : Loc) (s : Shared) : Prop where
  st : Step X μ₀ s₀ μ s
  inv : Inv C μ H s.heap
  fr : FR C F μ l s.heap
noncomputable abbrev frs (F : Fm) : List Addr := F.fr.filterMap (·.frame)
inductive FldAt (s : Shared) (y : Addr) : Prop where
  | mk (o : Obj) (vs : Array Value) (z1 : s.heap.get? y = some o) (z2 : o.data = .fields vs) (z3 : o.cls ≠ .type "tuple") (z4 : o.cls ≠ .type "range")
theorem Fly.moved {h' : Heap} {y : Addr} {tk : Nat} (Y : Fly C F X μ₀ s₀ μ H l s) (y1 : s₀.heap.get? y = none) (y2 : ¬ Own μ y) (y3 : C.base.get? y = none) (y4 : FldAt s y) (y5 : ∃ o', h'.get? y = some o')
    (hk : ∀ b o, b ≠ y → s.heap.get? b = some o → (b ∉ frs F → h'.get? b = some o) ∧ ∃ sl, h'.get? b = some { o with slots := sl }) : Fly C F X μ₀ s₀ μ H l { s with heap := h', toks := tk } := by
  obtain ⟨S, I, R⟩ := Y
  have hfr : ∀ L ∈ frs F, ¬ Own μ L ∧ C.base.get? L = none ∧ ∃ o es n, s.heap.get? L = some o ∧ o.data = .dict es n := fun L hL => by
    obtain ⟨a, b⟩ := R.frs.each L hL
    exact ⟨a, (R.frs.fun_.mem hL).1, b⟩
  have hY : ∀ a o, a = y → s.heap.get? a = some o → Plainly o := fun a o q e => by
    subst q
    obtain ⟨o', vs, e', _, c1, c2⟩ := y4
    rw [e'] at e; (injection e with j1; subst j1)
    exact .inr (.inr ⟨c1, c2⟩)
  have S1 : Step (fun a => a = y) μ s μ { s with heap := h', toks := tk } := by
    refine ⟨⟨[], by simp⟩, fun _ h => .inl h, fun b o e => ?_, fun b o e hn hx => ?_, rfl, rfl⟩
    · by_cases hb : b = y
      · subst hb; exact y5
      · obtain ⟨_, sl, e'⟩ := hk b o hb e
        exact ⟨_, e'⟩
    · obtain ⟨k1, sl, e'⟩ := hk b o hx e
      by_cases hb : b ∈ frs F
      · obtain ⟨_, _, o', es, n, e2, hd⟩ := hfr b hb
        rw [e] at e2; (injection e2 with j1; subst j1)
        exact ⟨sl, e', fun q => absurd hd (q es n)⟩
      · exact ⟨o.slots, k1 hb, fun _ => rfl⟩
  refine ⟨S.trans S1 fun a q => .inr (by rw [q]; exact y1), ?_, ?_⟩
  · refine I.same S1 hY (fun b o q => ?_) fun a ha => ?_
    · refine (hk b o (fun z => ?_) (I.stays b o q)).1 fun z => ?_
      · rw [z, y3] at q; injection q
      · rw [(hfr b z).2.1] at q; injection q
    · obtain ⟨o, e⟩ := I.there ha
      rw [e]
      exact (hk a o (fun z => y2 (z ▸ ha)) e).1 fun z => (hfr a z).1 ha
  · refine R.step S1 hY (fun q => ?_) (fun p hp q => ?_) fun L hL q => ?_
    · obtain ⟨m, ⟨o, es, ep, e, hd, _⟩, _⟩ := R.ns
      obtain ⟨o', vs, e', hd', _⟩ := y4
      rw [← q, e] at e'; (injection e' with j1; subst j1)
      rw [hd] at hd'; injection hd'
    · obtain ⟨_, _, _, w, o, e, hd⟩ := R.cell p hp
      obtain ⟨o', vs, e', hd', _⟩ := y4
      rw [← q, e] at e'; (injection e' with j1; subst j1)
      rw [hd] at hd'; injection hd'
    · obtain ⟨_, _, o, es, n, e, hd⟩ := hfr L hL
      obtain ⟨o', vs, e', hd', _⟩ := y4
      rw [← q, e] at e'; (injection e' with j1; subst j1)
      rw [hd] at hd'; injection hd'
theorem exThere {x : Addr} {vs : Array Value} (A : ExAt C μ s₀.heap s.heap x vs) : FldAt s x := by
  obtain ⟨oe, e, hc, hd, _⟩ := A.at_
  exact ⟨oe, vs, e, hd, by rw [hc]; simp, by rw [hc]; simp⟩
theorem tbObj {x T : Addr} {ts : Array Value} {fl : Value} (B : TbAt C μ s₀.heap s.heap x T ts fl) : FldAt s T := by
  obtain ⟨o, e, hc, hd⟩ := B.at_
  exact ⟨o, ts, e, hd, by rw [hc]; simp, by rw [hc]; simp⟩
theorem ExAt.keep {x : Addr} {vs : Array Value} {h' : Heap} (A : ExAt C μ s₀.heap s.heap x vs) (hx : ∀ o, s.heap.get? x = some o → h'.get? x = some o) (hd : ∀ b o, (∀ vs, o.data ≠ .fields vs) → s.heap.get? b = some o → ∃ sl, h'.get? b = some { o with slots := sl }) : ExAt C μ s₀.heap h' x vs := by
  obtain ⟨a1, a2, a3, oe, e, hc, hda, dd, m, t, hdi, d1, d2, d3, hn, hm⟩ := A
  refine ⟨a1, a2, a3, oe, hx _ e, hc, hda, dd, m, t, hdi, d1, d2, d3, ns_slots hn fun o eo => ?_, hm⟩
  obtain ⟨o', es, ep, e', hd', _⟩ := hn
  rw [e'] at eo; (injection eo with j1; subst j1)
  exact hd dd _ (fun vs q => by rw [hd'] at q; injection q) e'
theorem flight_snd {fl : Value} {v : Option Addr} {Q : Unit → Shared → Prop} (Y : Fly C F X μ₀ s₀ μ H l s) (x : ExIn C μ s₀.heap s.heap fl e)
    (h : ∀ s', Fly C F X μ₀ s₀ μ H l s' → ExIn C μ s₀.heap s'.heap (v.elim .none fun f => rawInt f) e → Q () s') : wpAny (model C.prog C.w) A' (setFlight e v) Q E' s := by
  obtain ⟨x, vs, T, ts, A, h1, B⟩ := x
  obtain ⟨oe, he, hc, hd, hr⟩ := A.at_
  obtain ⟨oT, hT, hTc, hTd⟩ := B.at_
  have hsz : 3 < ts.size := (Array.getElem?_eq_some_iff.mp B.fl).1
  unfold setFlight
  refine wpAny_bind (wpAny_field he hd h1 ?_)
  rw [if_pos (show (Value.ref T != Value.none) = true from by simp)]
  refine wpAny_setField hT hTd hsz ?_
  have other : ∀ b, b ≠ T → (s.heap.update T (Obj.mapFields (·.setIfInBounds 3 (v.elim .none fun f => rawInt f)))).get? b = s.heap.get? b := fun b hb => Heap.get?_update_other _ _ (Ne.symm hb)
  have hT' := Heap.get?_update_self (Obj.mapFields (·.setIfInBounds 3 (v.elim .none fun f => rawInt f))) hT (Obj.isFreed_of_fields (Obj.data_mapFields hTd _))
  have Y' : Fly C F X μ₀ s₀ μ H l { s with heap := s.heap.update T (Obj.mapFields (·.setIfInBounds 3 (v.elim .none fun f => rawInt f))), toks := s.toks } :=
    Y.moved B.fT B.off B.bT (tbObj B) ⟨_, hT'⟩ fun b o hb e => ⟨fun _ => (other b hb).trans e, o.slots, (other b hb).trans e⟩
  refine h _ Y' (.mk x vs T (ts.setIfInBounds 3 (v.elim .none fun f => rawInt f)) (A.keep (fun o e => (other x (Ne.symm B.ne)).trans e) fun b o hn e => ⟨o.slots, (other b fun q => ?_).trans e⟩) h1 ⟨B.ne, B.off, B.bT, B.fT, ⟨_, hT', ?_, Obj.data_mapFields hTd _⟩, by simp [Array.getElem?_setIfInBounds, hsz]⟩)
  · rw [q, hT] at e; (injection e with j1; subst j1); exact hn _ hTd
  · rw [Obj.cls_mapFields]; exact hTc
theorem entry_snd {L x : Addr} {vs : Array Value} {head : Value} {hadNext : Bool} {Q : Unit → Shared → Prop} (S : FT F d) (hA : A'.frames = some F.fr) (hL : F.env.frame = some L) (Y : Fly C F X μ₀ s₀ μ H l s) (A : ExAt C μ s₀.heap s.heap x vs) (h1 : 1 < vs.size)
    (h : ∀ s', Fly C F X μ₀ s₀ μ H l s' → ExIn C μ s₀.heap s'.heap (rawInt L) (.ref x) → Q () s') :
    wpAny (model C.prog C.w) A' (do let a ← frameOf F.env; let pl ← entryPlaceOf L hadNext; let b ← EntryCells.newEntry head a .none (rawInt L) .none pl; setField (.ref x) 1 b) Q E' s := by
  obtain ⟨outer, htop⟩ := S.top
  have hl := Y.fr.frs.fun_
  rw [htop] at hl hA
  obtain ⟨oe, he, hc, hd, dd, m, t, hdi, d1, d2, d3, hn, hm⟩ := A.at_
  have hene : x ∉ (F.env :: outer).filterMap (·.frame) := fun hm => by
    obtain ⟨_, o, ho, hnf⟩ := hl.mem hm
    rw [he] at ho; (injection ho with j1; subst j1); exact hnf vs hd
  refine wpAny_bind (wpAny_frameOf_fun hA hl hL fun h₁ hs₁ => ?_)
  refine wpAny_bind (wpAny_entryPlaceOf fun pl hpl => ?_)
  unfold EntryCells.newEntry newFields
  refine wpAny_bind (wpAny_newObj_type ?_ (hpl.sizeOk5 _ _ _ _ _))
  have he₁ : h₁.get? x = some oe := (hs₁.2.1 x hene).trans he
  have he₂ := Heap.get?_push_of_some (h := h₁) { cls := .type "traceback", dict := none, data := .fields ([head, .ref L, .none, rawInt L, .none] ++ (if pl.isEmpty then List.replicate 6 Value.none else pl)).toArray } he₁
  refine wpAny_setField he₂ hd h1 ?_
  have hTe : h₁.objs.size ≠ x := Nat.ne_of_gt (Heap.lt_size he₁)
  have hd₃ := Obj.data_mapFields hd (·.setIfInBounds 1 (Value.ref h₁.objs.size))
  have he₃ := Heap.get?_update_self (Obj.mapFields (·.setIfInBounds 1 (Value.ref h₁.objs.size))) he₂ (Obj.isFreed_of_fields hd₃)
  have hT₃ := (Heap.get?_update_other (h₁.push { cls := .type "traceback", dict := none, data := .fields ([head, .ref L, .none, rawInt L, .none] ++ (if pl.isEmpty then List.replicate 6 Value.none else pl)).toArray })
    (Obj.mapFields (·.setIfInBounds 1 (Value.ref h₁.objs.size))) (Ne.symm hTe)).trans (Heap.get?_push_size h₁ rfl)
  have hTn : s.heap.get? h₁.objs.size = none := by rw [hs₁.1]; exact size_none _
  have kp : ∀ b o, b ≠ x → h₁.get? b = some o → ((h₁.push { cls := .type "traceback", dict := none, data := .fields ([head, .ref L, .none, rawInt L, .none] ++ (if pl.isEmpty then List.replicate 6 Value.none else pl)).toArray }).update x (Obj.mapFields (·.setIfInBounds 1 (Value.ref h₁.objs.size)))).get? b = some o := fun b o hb e => by
    rw [Heap.get?_update_other _ _ (Ne.symm hb)]; exact Heap.get?_push_of_some _ e
  have hfl : ([head, .ref L, .none, rawInt L, .none] ++ (if pl.isEmpty then List.replicate 6 Value.none else pl)).toArray[3]? = some (rawInt L) := by simp
  generalize ([head, .ref L, .none, rawInt L, .none] ++ (if pl.isEmpty then List.replicate 6 Value.none else pl)).toArray = ts at he₂ he₃ hT₃ kp hfl ⊢
  generalize h₁.objs.size = T at hTe hd₃ he₃ hT₃ hTn kp ⊢
  generalize (h₁.push { cls := .type "traceback", dict := none, data := .fields ts }).update x (Obj.mapFields (·.setIfInBounds 1 (Value.ref T))) = h₃ at he₃ hT₃ kp ⊢
  have kk : ∀ b o, b ≠ x → s.heap.get? b = some o → (b ∉ frs F → h₃.get? b = some o) ∧ ∃ sl, h₃.get? b = some { o with slots := sl } := fun b o hb e => by
    refine ⟨fun hf => kp b o hb ((hs₁.2.1 b (by unfold frs at hf; rwa [htop] at hf)).trans e), ?_⟩
    obtain ⟨sl, e'⟩ := hs₁.2.2 b o e
    exact ⟨sl, kp b _ hb e'⟩
  have Y' : Fly C F X μ₀ s₀ μ H l { s with heap := h₃, toks := s.toks } := Y.moved A.fx A.ho A.bx (exThere A) ⟨_, he₃⟩ kk
  refine h _ Y' (.mk x (vs.setIfInBounds 1 (.ref T)) T ts ⟨A.ho, A.bx, A.fx, _, he₃, ?_, hd₃, dd, m, t, ?_, d1, d2, d3, ns_slots hn fun o eo => ?_, hm⟩ (by simp [Array.getElem?_setIfInBounds, h1]) ⟨hTe, Y.inv.free hTn, base_none Y.inv hTn, Y.st.older _ hTn, ⟨_, hT₃, rfl, rfl⟩, hfl⟩)
  · rw [Obj.cls_mapFields]; exact hc
  · rw [dict_mapFields]; exact hdi
  · obtain ⟨o', es, ep, e', hd', _⟩ := id hn
    rw [e'] at eo; (injection eo with j1; subst j1)
    refine (kk dd _ (fun q => ?_) e').2
    rw [q, he] at e'; (injection e' with j1; subst j1)
    rw [hd] at hd'; injection hd'
theorem note_snd {Q : Unit → Shared → Prop} (S : FT F d) (hA : A'.frames = some F.fr) (Y : Fly C F X μ₀ s₀ μ H l s) (x : ExSt C μ s₀.heap s.heap e)
    (h : ∀ L s', F.env.frame = some L → Fly C F X μ₀ s₀ μ H l s' → ExIn C μ s₀.heap s'.heap (rawInt L) e → Q () s') : wpAny (model C.prog C.w) A' (noteFrame e F.env) Q E' s := by
  obtain ⟨x, vs, tb, A, h1, ht⟩ := x
  obtain ⟨L, hL⟩ : ∃ L, F.env.frame = some L := by
    obtain ⟨outer, htop⟩ := S.top
    have hl := Y.fr.frs.fun_
    rw [htop] at hl
    obtain ⟨_, ⟨L, _, hL, _⟩, _⟩ := hl
    exact ⟨L, hL⟩
  have hsz : 1 < vs.size := (Array.getElem?_eq_some_iff.mp h1).1
  obtain ⟨oe, he, hc, hd, hr⟩ := A.at_
  unfold noteFrame
  simp only [hL]
  refine wpAny_bind (wpAny_field he hd h1 ?_)
  cases ht with
  | none =>
    rw [if_neg (by decide)]
    exact entry_snd S hA hL Y A hsz (h L · hL)
  | at_ T ts fl B =>
    rw [if_pos (show (Value.ref T != Value.none) = true from by simp)]
    obtain ⟨oT, hT, hTc, hTd⟩ := B.at_
    refine wpAny_bind (wpAny_field hT hTd B.fl ?_)
    by_cases hq : fl = rawInt L
    · subst hq
      rw [if_pos (by simp)]
      exact wpAny_pure (h L s hL Y (.mk x vs T ts A h1 B))
    · rw [if_neg (by simpa using hq)]
      have hsz3 : 3 < ts.size := (Array.getElem?_eq_some_iff.mp B.fl).1
      refine wpAny_bind (wpAny_setField hT hTd hsz3 ?_)
      have other : ∀ b, b ≠ T → (s.heap.update T (Obj.mapFields (·.setIfInBounds 3 Value.none))).get? b = s.heap.get? b := fun b hb => Heap.get?_update_other _ _ (Ne.symm hb)
      have hT' := Heap.get?_update_self (Obj.mapFields (·.setIfInBounds 3 Value.none)) hT (Obj.isFreed_of_fields (Obj.data_mapFields hTd _))
      have Y' : Fly C F X μ₀ s₀ μ H l { s with heap := s.heap.update T (Obj.mapFields (·.setIfInBounds 3 Value.none)), toks := s.toks } :=
        Y.moved B.fT B.off B.bT (tbObj B) ⟨_, hT'⟩ fun b o hb e => ⟨fun _ => (other b hb).trans e, o.slots, (other b hb).trans e⟩
      refine entry_snd (s := { s with heap := s.heap.update T (Obj.mapFields (·.setIfInBounds 3 Value.none)) }) S hA hL Y' (A.keep (fun o e => (other x (Ne.symm B.ne)).trans e) fun b o hn e => ⟨o.slots, (other b fun q => ?_).trans e⟩) hsz (h L · hL)
      rw [q, hT] at e; (injection e with j1; subst j1); exact hn _ hTd
theorem back_snd {fl : Value} {E : Value → Shared → Prop} (Y : Fly C F X μ₀ s₀ μ H l s) (x : ExIn C μ s₀.heap s.heap fl e) (h : ∀ s', Fly C F X μ₀ s₀ μ H l s' → ExSt C μ s₀.heap s'.heap e → E e s') : cameBackBy (model C.prog C.w) A' F.env E e s := by
  have x' := x
  obtain ⟨y, vs, T, ts, A, h1, B⟩ := x
  obtain ⟨oe, he, hc, hd, hr⟩ := A.at_
  unfold cameBackBy
  refine wpAny_bind (wpAny_field he hd h1 ?_)
  rw [if_neg (show ¬ ((Value.ref T == Value.none) = true) from by simp)]
  exact flight_snd Y x' fun s' Y' x' => h s' Y' x'.st
theorem loopx_snd {E : Value → Shared → Prop} (S : FT F d) (Y : Fly C F X μ₀ s₀ μ H l s) (x : ExSt C μ s₀.heap s.heap e) (h : ∀ s', Fly C F X μ₀ s₀ μ H l s' → ExSt C μ s₀.heap s'.heap e → E e s') :
    notedBy (model C.prog C.w) F.A F.env (fun e s' => cameBackBy (model C.prog C.w) F.A F.env E e s') e s :=
  note_snd S S.frames Y x fun _ _ _ Y' x' => back_snd Y' x' h
theorem leave_snd {Q : Unit → Shared → Prop} (S : FT F d) (Y : Fly C F X μ₀ s₀ μ H l s) (x : ExSt C μ s₀.heap s.heap e) (h : ∀ s', Fly C F X μ₀ s₀ μ H l s' → ExSt C μ s₀.heap s'.heap e → Q () s') :
    wpAny (model C.prog C.w) F.A (leaving F.env e) Q E' s := by
  unfold leaving
  exact wpAny_bind (note_snd S S.frames Y x fun _ _ _ Y' x' => flight_snd Y' x' fun s' Y2 x2 => h s' Y2 x2.st)
end
end Mine
end
section
namespace Mine
open PySem PySem.W PySem.Calls PyProof.Rows
section
variable {α β γ : Type} {C : Cx} {P : P0} {F : Fm} {call : Nat → List AV → AH → Out AV} {N : Nat} {μ : Mu} {H : AH} {s : Shared} {l : Loc} {d : Nat}
noncomputable def SS (C : Cx) (P : P0) (F : Fm) (call : Nat → List AV → AH → Out AV) (N : Nat) (t : S) : Prop :=
  ∀ μ H s l, Inv C μ H s.heap → FR C F μ l s.heap → WS C F (exec (pyS t) F.env) (evS P call N (stS C.gt t) l H) μ s
noncomputable def SSs (C : Cx) (P : P0) (F : Fm) (call : Nat → List AV → AH → Out AV) (N : Nat) (ts : List S) : Prop :=
  ∀ μ H s l, Inv C μ H s.heap → FR C F μ l s.heap → WS C F (execs (pySs ts) F.env) (evSs P call N (stSs C.gt ts) l H) μ s
theorem sss_nil : SSs C P F call N [] := fun μ H s l I R hb Q E Po => wpAny_execs_nil (Po.ok μ _ l H _ s rfl .refl I R rfl)
theorem sss_cons {t : S} {ts : List S} (h1 : SS C P F call N t) (h2 : SSs C P F call N ts) : SSs C P F call N (t :: ts) := fun μ H s l I R => by
  show WS C F (execs (pyS t :: pySs ts) F.env) ((evS P call N (stS C.gt t) l H).andThen fun l H => evSs P call N (stSs C.gt ts) l H) μ s
  intro hb Q E Po
  refine wpAny_execs_cons (h1 μ H s l I R (fun q => hb (by rw [q]; rfl)) _ E ⟨fun μ₁ fl l₁ H₁ f s₁ e S1 I1 R1 V1 => ?_, fun μ' l' H' e s' q S I R x => by rw [q] at Po; exact Po.exc μ' l' H' e s' rfl S I R x⟩)
  rw [e] at hb Po
  induction fl using Mine.Fl.casesOn with
  | next =>
    obtain rfl := V1
    exact h2 μ₁ H₁ s₁ l₁ I1 R1 hb Q E (Po.re S1)
  | cont =>
    obtain rfl := V1
    exact Po.ok μ₁ _ l₁ H₁ _ s₁ rfl S1 I1 R1 rfl
  | ret a =>
    obtain ⟨v, rfl, V⟩ := V1
    exact Po.ok μ₁ _ l₁ H₁ _ s₁ rfl S1 I1 R1 ⟨v, rfl, V⟩
noncomputable def notComp : E → Bool
  | .comp .. => false
  | _ => true
theorem plain_not_ref {h : Heap} {a : AV} {v : Value} (V : VR C μ h a v) (hp : plainV a = true) : ∀ x, v ≠ .ref x := by
  induction a using Mine.AV.casesOn <;> first | ((first | (exact absurd hp Bool.false_ne_true) | (cases hp)); done) | skip
  · simp only [VR] at V; subst V; intro x q; injection q
  · simp only [VR] at V; subst V; intro x q; injection q
  · simp only [VR] at V; obtain ⟨t, rfl⟩ := V; intro x q; injection q
  · simp only [VR] at V; obtain ⟨_, t, rfl⟩ := V; intro x q; injection q
theorem nc_swap {e : E} {n : Nat} {env : Env} (hn : notComp e = true) : swapsWith (py e) none n env = pure false := by
  rcases e with _ | _ | _ | _ | _ | _ | _ | _ | _ | _ | _ | _ | _ | _ | _ | _ | _ | _ | _ | _ | _ | _ | _ | _ | _ <;> first | rfl | exact ff hn
theorem val_next {v : Value} {R : Prop} (nr : ∀ x, v ≠ .ref x) (q : R) : (match (generalizing := false) v with | .ref _ => False | _ => R) := by
  induction v using PySem.Value.casesOn <;> first | exact q | exact absurd rfl (nr _)
theorem ss_expr (S : FS F d) {e : E} {p : Pos} (hn : notComp e = true) (h : SE C P F call N e) : SS C P F call N (.expr e p) := fun μ H s l I R => by
  show WS C F _ ((evE P call N (st C.gt e) l H).thenS l fun v H => if plainV v then .ok .next l H else .bad) μ s
  intro hb Q E Po
  refine wpAny_Expr (WE.thenS (h μ H s l I R) R hb Po fun μ₁ a H₁ v s₁ S1 I1 R1 V1 hb1 Po1 => ?_) ?_ ?_
  · by_cases hp : plainV a = true
    · rw [if_pos hp] at Po1
      have nr := plain_not_ref V1 hp
      have q : Q .next s₁ := Po1.ok μ₁ _ l H₁ _ s₁ rfl .refl I1 R1 rfl
      exact val_next nr q
    · exact absurd (if_neg hp) hb1
  · unfold interactive; rw [S.kind]; rfl
  · exact nc_swap hn
theorem nc_swaps {t : T} {e : E} {n : Nat} {env : Env} (hn : notComp e = true) : swapsWithSole [pyT t] (py e) n env = pure false := by
  rcases e with _ | _ | _ | _ | _ | _ | _ | _ | _ | _ | _ | _ | _ | _ | _ | _ | _ | _ | _ | _ | _ | _ | _ | _ | _ <;> first | rfl | exact ff hn
theorem ss_asg {t : T} {e : E} {p : Pos} (hn : notComp e = true) (hsw : swappedStores [pyT t] (py e) F.env = pure none) (h : SE C P F call N e) (ht : TT C P F call N t) : SS C P F call N (.asg t e p) := fun μ H s l I R => by
  show WS C F _ ((evE P call N (st C.gt e) l H).thenS l fun v H => (asT P call N (stT C.gt t) v l H).so l) μ s
  intro hb Q E Po
  show wpAny _ _ (exec (.Assign [pyT t] (py e) p) F.env) Q E s
  rw [PyProof.Rows.exec_Assign]
  refine wpAny_bind (wpAny_standAt ?_)
  rw [nc_swaps hn]
  refine wpAny_bind (wpAny_pure ?_)
  rw [if_neg (by decide)]
  refine wpAny_bind (WE.thenS (h μ H s l I R) R hb Po fun μ₁ a H₁ v s₁ S1 I1 R1 V1 hb1 Po1 => ?_)
  rw [hsw]
  refine wpAny_bind (wpAny_pure ?_)
  show wpAny _ _ (do assignAll v ((assignEach [pyT t] F.env).map (·.2)); pure Flow.next) Q E s₁
  rw [assignEach_py]
  show wpAny _ _ (do assign (pyT t) F.env v; pure Flow.next) Q E s₁
  refine wpAny_bind (ht μ₁ H₁ s₁ l a v I1 R1 V1 (fun q => hb1 (by rw [q]; rfl)) _ E fun μ' l' H' s' q S' I' R' => ?_)
  rw [q] at Po1
  exact wpAny_pure (Po1.ok μ' _ l' H' _ s' rfl S' I' R' rfl)
theorem aug_snd {op : Operator} {a b : AV} {v u : Value} (I : Inv C μ H s.heap) (va : VR C μ s.heap a v) (vb : VR C μ s.heap b u) : WE C F NoX (VRel C) (inplaceOp op v u) (augV H op a b) μ s := by
  induction a using AV.casesOn with
  | int x =>
    induction b using AV.casesOn with
    | int y =>
      simp only [VR] at va vb
      obtain ⟨t, rfl⟩ := va; obtain ⟨t', rfl⟩ := vb
      induction op using PySem.Operator.casesOn with
      | Add => intro hb Q E P; exact PyProof.Rows.iadd_int (P.done rfl I (by simp only [VRel, VR]; exact ⟨_, rfl⟩))
      | Sub => intro hb Q E P; exact PyProof.Rows.isub_int (P.done rfl I (by simp only [VRel, VR]; exact ⟨_, rfl⟩))
      | _ => exact WE.bad
    | _ => exact WE.bad
  | _ => exact WE.bad
set_option tactic.hygienic true
theorem ss_augN (S : FS F d) {x : Str} {i : Nat} {np : Pos} {op : Operator} {e : E} {p : Pos} (hi : F.slots[i]? = some x) (hk : F.env.scope.names.lookup x = some .local) (h : SE C P F call N e) : SS C P F call N (.augN x i np op e p) := fun μ H s l I R => by
  show WS C F _ (match l[i]? with
    | some (some old) => (evE P call N (st C.gt e) l H).thenS l fun v H => (augV H op old v).thenS l fun r H => (match setLoc l i r with | some l => .ok .next l H | none => .bad)
    | _ => .bad) μ s
  intro hb Q E Po
  obtain ⟨m, hn, hm⟩ := R.ns
  split at hb
  · rename_i old ho
    rw [ho] at Po
    dsimp only at Po
    obtain ⟨ov, e0, V0⟩ := hm i x old hi ho
    refine wpAny_AugAssign_Name (wpAny_loadName_local S.kind hk hn (At.loc hk e0) ?_)
    refine WE.thenS (h μ H s l I R) R hb Po fun μ₁ a H₁ v s₁ S1 I1 R1 V1 hb1 Po1 => ?_
    refine WE.thenS (aug_snd I1 (V0.step0 S1) V1) R1 hb1 Po1 fun μ₂ r H₂ rv s₂ S2 I2 R2 V2 hb2 Po2 => ?_
    cases e : setLoc l i r with
    | none => rw [e] at hb2; exact absurd rfl hb2
    | some l' =>
      rw [e] at Po2
      exact store_loc S hi hk I2 R2 V2 e fun s' S3 I3 R3 => Po2.ok μ₂ _ l' H₂ _ s' rfl S3 I3 R3 rfl
  · exact absurd rfl hb
set_option tactic.hygienic false
theorem ss_augA (G : CGood C P) {o : E} {x : Str} {ai : Nat} {tp : Pos} {op : Operator} {e : E} {p : Pos} (hx : C.nm[ai]? = some x) (h1 : SE C P F call N o) (h2 : SE C P F call N e) : SS C P F call N (.augA o x ai tp op e p) := fun μ H s l I R => by
  show WS C F _ ((evE P call N (st C.gt o) l H).thenS l fun o H => match attrV P.fld H o ai with
    | some old => (evE P call N (st C.gt e) l H).thenS l fun v H => (augV H op old v).thenS l fun r H => (match putA P.fld H o ai r with | some H => .ok .next l H | none => .bad)
    | none => .bad) μ s
  intro hb Q E Po
  refine wpAny_AugAssign_AttributeAny (WE.thenS (h1 μ H s l I R) R hb Po fun μ₁ a H₁ v s₁ S1 I1 R1 V1 hb1 Po1 => ?_)
  cases hq : attrV P.fld H₁ a ai with
  | none => rw [hq] at hb1; exact absurd rfl hb1
  | some old =>
    rw [hq] at hb1 Po1
    dsimp only at hb1 Po1
    have A0 : WE C F NoX (VRel C) (getAttr v x true) (.ok old H₁) μ₁ s₁ := by
      have := attr_snd (F := F) (expr := true) G.toGood I1 V1 hx
      rw [hq] at this; exact this
    refine WE.thenS (g := fun old H₁ => (evE P call N (st C.gt e) l H₁).thenS l fun v H => (augV H op old v).thenS l fun r H => match putA P.fld H a ai r with | some H => .ok .next l H | none => .bad) A0 R1 hb1 Po1 fun μ₂ ol H₂ ov s₂ S2 I2 R2 V2 hb2 Po2 => ?_
    refine WE.thenS (h2 μ₂ H₂ s₂ l I2 R2) R2 hb2 Po2 fun μ₃ b H₃ w s₃ S3 I3 R3 V3 hb3 Po3 => ?_
    refine WE.thenS (aug_snd I3 (VR.step0 S3 V2) V3) R3 hb3 Po3 fun μ₄ r H₄ rv s₄ S4 I4 R4 V4 hb4 Po4 => ?_
    cases hp : putA P.fld H₄ a ai r with
    | none => rw [hp] at hb4; exact absurd rfl hb4
    | some H' =>
      rw [hp] at Po4
      exact put_snd G.toGood I4 (VR.step0 S4 (VR.step0 S3 (VR.step0 S2 V1))) V4 hx hp fun s' S5 I5 => Po4.ok μ₄ _ l H' _ s' rfl (lx S5) I5 (R4.step0 S5) rfl
theorem ss_ret {e : E} {p : Pos} (h : SE C P F call N e) : SS C P F call N (.ret e p) := fun μ H s l I R => by
  show WS C F _ ((evE P call N (st C.gt e) l H).thenS l fun v H => .ok (.ret v) l H) μ s
  intro hb Q E Po
  exact wpAny_Return_some (WE.thenS (h μ H s l I R) R hb Po fun μ₁ a H₁ v s₁ S1 I1 R1 V1 hb1 Po1 => Po1.ok μ₁ _ l H₁ _ s₁ rfl .refl I1 R1 ⟨v, rfl, V1⟩)
theorem ss_cont {p : Pos} : SS C P F call N (.cont p) := fun μ H s l I R hb Q E Po => by
  show wpAny _ _ (do standAt p; pure Flow.cont) Q E s
  exact wpAny_bind (wpAny_standAt (wpAny_pure (Po.ok μ _ l H _ s rfl .refl I R rfl)))
theorem ites_eq (c : E0) (f g : AH → SO) : ((evE P call N c l H).thenS l fun v H => match truthV v with
    | some true => f H
    | some false => g H
    | none => .bad) = (evT P call N c l H).thenS l fun b H => if b = true then f H else g H := by
  unfold evT
  cases evE P call N c l H with
  | ok v H1 => simp only [Out.bind, Out.thenS]; cases truthV v with
    | none => rfl
    | some x => induction x using Bool.casesOn <;> rfl
  | _ => rfl
theorem ss_ite {c : E} {a b : List S} {p : Pos} (hc : ST C P F call N c) (h1 : SSs C P F call N a) (h2 : SSs C P F call N b) : SS C P F call N (.ite c a b p) := fun μ H s l I R => by
  have e0 : evS P call N (stS C.gt (.ite c a b p)) l H = (evT P call N (st C.gt c) l H).thenS l fun x H => if x = true then evSs P call N (stSs C.gt a) l H else evSs P call N (stSs C.gt b) l H :=
    ites_eq (st C.gt c) (fun H => evSs P call N (stSs C.gt a) l H) (fun H => evSs P call N (stSs C.gt b) l H)
  rw [e0]
  intro hb Q E Po
  refine wpAny_If (WE.thenS (hc μ H s l I R) R hb Po fun μ₁ x H₁ v s₁ S1 I1 R1 V1 hb1 Po1 => ?_)
  obtain rfl : x = v := V1
  induction x using Bool.casesOn
  · exact h2 μ₁ H₁ s₁ l I1 R1 hb1 Q E Po1
  · exact h1 μ₁ H₁ s₁ l I1 R1 hb1 Q E Po1
end
end Mine
end
section
namespace Mine
open PySem PySem.W PySem.Calls PyProof.Rows
section
variable {α β γ : Type} {C : Cx} {P : P0} {F : Fm} {call : Nat → List AV → AH → Out AV} {N : Nat} {μ : Mu} {H : AH} {s : Shared} {l : Loc} {d : Nat}
theorem loop_flow {μ₀ μ' : Mu} {s₀ s' : Shared} {x : SO} {k : Loc → AH → SO} {fl : Fl} {f : Flow} {l' : Loc} {H' : AH} {Q : Flow → Shared → Prop} {E : Value → Shared → Prop}
    (hb : x.loop k ≠ .bad) (Po : PostS C F μ₀ s₀ (x.loop k) Q E) (e : x = .ok fl l' H') (S : Step (LX F) μ₀ s₀ μ' s') (I : Inv C μ' H' s'.heap) (R : FR C F μ' l' s'.heap) (V : FlR C μ' s'.heap fl f) :
    ((f = .next ∨ f = .cont) ∧ k l' H' ≠ .bad ∧ PostS C F μ₀ s₀ (k l' H') Q E) ∨ ∃ v, f = .ret v ∧ Q (.ret v) s' := by
  subst e
  induction fl using Mine.Fl.casesOn with
  | next => exact .inl ⟨.inl V, hb, Po⟩
  | cont => exact .inl ⟨.inr V, hb, Po⟩
  | ret a => obtain ⟨v, rfl, V'⟩ := V; exact .inr ⟨v, rfl, Po.ok μ' _ l' H' _ s' rfl S I R ⟨v, rfl, V'⟩⟩
theorem loop_exc {μ₀ μ' : Mu} {s₀ s' : Shared} {x : SO} {k : Loc → AH → SO} {l' : Loc} {H' : AH} {e : Value} {Q : Flow → Shared → Prop} {E : Value → Shared → Prop}
    (Po : PostS C F μ₀ s₀ (x.loop k) Q E) (q : x = .exc l' H') (S : Step (LX F) μ₀ s₀ μ' s') (I : Inv C μ' H' s'.heap) (R : FR C F μ' l' s'.heap) (y : ExSt C μ' s₀.heap s'.heap e) : E e s' := by
  subst q
  exact Po.exc μ' l' H' e s' rfl S I R y
noncomputable abbrev Nt (C : Cx) (F : Fm) (E : Value → Shared → Prop) : Value → Shared → Prop := notedBy (model C.prog C.w) F.A F.env fun e s' => cameBackBy (model C.prog C.w) F.A F.env E e s'
theorem PostS.noted {r : SO} {Q : Flow → Shared → Prop} {E : Value → Shared → Prop} (S : FT F d) (P : PostS C F μ s r Q E) : PostS C F μ s r Q (Nt C F E) :=
  ⟨P.ok, fun μ' l' H' e s' q St I R x => loopx_snd S ⟨St, I, R⟩ x fun s'' Y x' => P.exc μ' l' H' e s'' q Y.st Y.inv Y.fr x'⟩
set_option tactic.hygienic true
theorem while_eq (T : E0) (B : List S0) (n : Nat) (l : Loc) (H : AH) : whileGo (fun l H => evE P call N T l H) (fun l H => evSs P call N B l H) (n + 1) l H =
    (evT P call N T l H).thenS l fun b H1 => if b = true then (evSs P call N B l H1).loop (whileGo (fun l H => evE P call N T l H) (fun l H => evSs P call N B l H) n) else .ok .next l H1 := by
  show (match evE P call N T l H with
    | .ok (.bool true) H1 => (evSs P call N B l H1).loop (whileGo (fun l H => evE P call N T l H) (fun l H => evSs P call N B l H) n)
    | .ok (.bool false) H1 => SO.ok .next l H1
    | .exc H1 => .exc l H1
    | _ => .bad) = _
  unfold evT
  cases evE P call N T l H with
  | ok v H1 =>
    induction v using Mine.AV.casesOn <;> first | rfl | skip
    rename_i b
    induction b using Bool.casesOn <;> rfl
  | _ => rfl
set_option tactic.hygienic false
inductive WI (C : Cx) (F : Fm) (go : Nat → Loc → AH → SO) (Q : Flow → Shared → Prop) (E : Value → Shared → Prop) (n : Nat) (s : Shared) : Prop
  | mk (μ : Mu) (l : Loc) (H : AH) (I : Inv C μ H s.heap) (R : FR C F μ l s.heap) (hb : go n l H ≠ .bad) (Po : PostS C F μ s (go n l H) Q E) : WI C F go Q E n s
theorem ss_while {c : E} {b : List S} {p : Pos} (Sf : FT F d) (hc : ST C P F call N c) (h : SSs C P F call N b) : SS C P F call N (.while_ c b p) := fun μ H s l I R hb Q E Po => by
  refine wpAny_While (codeAny_whileLoop (WI C F (whileGo (fun l H => evE P call N (st C.gt c) l H) (fun l H => evSs P call N (stSs C.gt b) l H)) Q (Nt C F E)) (fun n s' hI => ?_) N (.mk μ l H I R hb (Po.noted Sf)))
  obtain ⟨μ₁, l₁, H₁, I1, R1, hb1, Po1⟩ := hI
  induction n using Nat.casesAuxOn with
  | zero => exact absurd rfl hb1
  | succ n =>
    rw [while_eq] at hb1 Po1
    refine WE.thenS (hc μ₁ H₁ s' l₁ I1 R1) R1 hb1 Po1 fun μ₂ x H₂ v s₂ S2 I2 R2 V2 hb2 Po2 => ?_
    obtain rfl : x = v := V2
    induction x using Bool.casesOn
    · exact wpAny_execs_nil (Po2.ok μ₂ _ l₁ H₂ _ s₂ rfl .refl I2 R2 rfl)
    · refine h μ₂ H₂ s₂ l₁ I2 R2 (fun q => hb2 (by rw [q]; rfl)) _ _ ⟨fun μ₃ fl l₃ H₃ f s₃ e S3 I3 R3 V3 => ?_, fun _ _ _ _ _ q S3 I3 R3 y => loop_exc Po2 q S3 I3 R3 y⟩
      rcases loop_flow hb2 Po2 e S3 I3 R3 V3 with ⟨hf, hb7, Po7⟩ | ⟨v, rfl, q⟩
      · have z := WI.mk (go := whileGo (fun l H => evE P call N (st C.gt c) l H) (fun l H => evSs P call N (stSs C.gt b) l H)) (n := n) μ₃ l₃ H₃ I3 R3 hb7 (Po7.re S3)
        rcases hf with rfl | rfl <;> exact ⟨n, Nat.lt_succ_self n, z⟩
      · exact q
noncomputable abbrev ExtN (wr : List Addr) (h h' : Heap) : Prop := ∀ b o, b ∉ wr → h.get? b = some o → h'.get? b = some o
theorem VR.ext {wr : List Addr} {h h' : Heap} (hp : ∀ b ∈ wr, ∃ o, h.get? b = some o ∧ Plainly o) (hx : ExtN wr h h') (a : AV) (v : Value) : VR C μ h a v → VR C μ h' a v :=
  VR.mono (fun _ _ h => h) (fun b o e hn hpl => ⟨hn, o.slots, hx b o (fun q => by obtain ⟨oi, ei, pi⟩ := hp b q; rw [ei] at e; (injection e with j1; subst j1); exact hpl pi) e, fun _ => rfl⟩) a
structure Src (C : Cx) (F : Fm) (wr : List Addr) (tg : Expr) (itv : Value) (J : Mu → Heap → It → Prop) : Prop where
  live : ∀ μ h i, J μ h i → ∀ b ∈ wr, ¬ Own μ b ∧ ∃ o, h.get? b = some o ∧ Plainly o ∧ (∃ vs, o.data = .fields vs)
  move : ∀ μ h i μ' h', J μ h i → (∀ (i : Nat) (p : Addr × Addr), μ[i]? = some p → μ'[i]? = some p) → (∀ b ∈ wr, ¬ Own μ' b ∧ ∀ o, h.get? b = some o → h'.get? b = some o) → J μ' h' i
  next : ∀ μ H (s : Shared) i r, Inv C μ H s.heap → J μ s.heap i → stepIt H i = some r → ∀ (Q : Option Value → Shared → Prop) (K : Value → Shared → Prop) (E E' : Value → Shared → Prop),
    (∀ v s₁, wpAny (model C.prog C.w) F.A (letOwnedTupleGo tg itv v) (fun _ s₂ => K v s₂) E' s₁ → Q (some v) s₁) →
    (r = none → ∀ h' t, ExtN wr s.heap h' → Q none { s with heap := h', toks := t }) →
    (∀ a i', r = some (a, i') → ∀ v h' t, ExtN wr s.heap h' → J μ h' i' → VR C μ h' a v → K v { s with heap := h', toks := t }) →
    wpAny (model C.prog C.w) F.A (pyNext itv) Q E s
theorem Src.step {wr : List Addr} {tg : Expr} {itv : Value} {J : Mu → Heap → It → Prop} (X : Src C F wr tg itv J) {Y : Addr → Prop} {μ' : Mu} {s' : Shared} {i : It} (hJ : J μ s.heap i) (S : Step Y μ s μ' s') (hY : ∀ b ∈ wr, ¬ Y b) : J μ' s'.heap i :=
  X.move _ _ _ _ _ hJ (fun _ _ h => S.at h) fun b hb => by
    obtain ⟨ho, o, e, _, vs, hd⟩ := X.live _ _ _ hJ b hb
    exact ⟨S.notOwn ho e, fun o' e' => by rw [e] at e'; (injection e' with j1; subst j1); exact S.exact e ho (hY b hb) fun es n q => by rw [hd] at q; injection q⟩
theorem ext_inv {wr : List Addr} {h' : Heap} {X : Addr → Prop} {μ₁ : Mu} {s₁ : Shared} (I : Inv C μ H s.heap) (S : Step X μ₁ s₁ μ s) (hit : ∀ b ∈ wr, s₁.heap.get? b = none) (hb : ∀ b ∈ wr, C.base.get? b = none) (ho : ∀ b ∈ wr, ¬ Own μ b)
    (hp : ∀ b ∈ wr, ∃ o, s.heap.get? b = some o ∧ Plainly o) (hx : ExtN wr s.heap h') (t : Nat) : Step X μ₁ s₁ μ { s with heap := h', toks := t } ∧ Inv C μ H h' := by
  refine ⟨⟨S.pre, S.fresh, fun b o e => ?_, fun b o e hn hx' => ?_, S.gens, S.os⟩, I.moved (fun b o e => hx b o (fun q => by rw [hb b q] at e; injection e) (I.stays b o e)) (fun a ha => ?_) (VR.ext hp hx)⟩
  · obtain ⟨o', e'⟩ := S.live b o e
    exact ⟨o', hx b o' (fun q => by rw [hit b q] at e; injection e) e'⟩
  · obtain ⟨sl, e', q⟩ := S.kept b o e hn hx'
    exact ⟨sl, hx b _ (fun q => by rw [hit b q] at e; injection e) e', q⟩
  · obtain ⟨o, e⟩ := I.there ha
    rw [e]; exact hx a o (fun q => ho a q ha) e
theorem ext_core {wr : List Addr} {h' : Heap} {X : Addr → Prop} {μ₁ : Mu} {s₁ : Shared} (I : Inv C μ H s.heap) (R : FR C F μ l s.heap) (S : Step X μ₁ s₁ μ s) (hit : ∀ b ∈ wr, s₁.heap.get? b = none) (hb : ∀ b ∈ wr, C.base.get? b = none) (ho : ∀ b ∈ wr, ¬ Own μ b) (hp : ∀ b ∈ wr, ∃ o, s.heap.get? b = some o ∧ Plainly o)
    (hL : F.env.locals ∉ wr) (hC : ∀ p ∈ F.env.cells, p.2 ∉ wr) (hF : ∀ L ∈ F.fr.filterMap (·.frame), L ∉ wr) (hx : ExtN wr s.heap h') (t : Nat) : Step X μ₁ s₁ μ { s with heap := h', toks := t } ∧ Inv C μ H h' ∧ FR C F μ l h' := by
  obtain ⟨a, b⟩ := ext_inv I S hit hb ho hp hx t
  refine ⟨a, b, ?_⟩
  obtain ⟨⟨m, hn, hv⟩, off, new, len, cell, frs⟩ := R
  have kc : ∀ p ∈ F.env.cells, ∀ v, s.heap.IsCell p.2 v → h'.IsCell p.2 v := fun p hp v hc => by
    obtain ⟨o, e, hd⟩ := hc
    exact ⟨o, hx _ o (hC p hp) e, hd⟩
  refine ⟨⟨m, ns_slots hn fun o e => ⟨o.slots, hx _ o hL e⟩, fun i x v hi hl => ?_⟩, off, new, len, fun p hp => ?_, frs.moved fun L hL hn o es n e hd => ⟨hn, o, es, n, hx _ _ (hF L hL) e, hd⟩⟩
  · obtain ⟨rv, e, W⟩ := hv i x v hi hl
    refine ⟨rv, e.of fun c w hc hw => ?_, VR.ext hp hx _ _ W⟩
    obtain ⟨p, hp, rfl⟩ := lookup_mem hc
    exact kc p hp _ hw
  · obtain ⟨c1, c2, c3, w, c4⟩ := cell p hp
    exact ⟨c1, c2, c3, w, kc p hp _ c4⟩
theorem ext_many {wr : List Addr} {h' : Heap} {X : Addr → Prop} {μ₁ : Mu} {s₁ : Shared} (I : Inv C μ H s.heap) (R : FR C F μ l s.heap) (S : Step X μ₁ s₁ μ s) (hit : ∀ b ∈ wr, s₁.heap.get? b = none) (hb : ∀ b ∈ wr, C.base.get? b = none) (ho : ∀ b ∈ wr, ¬ Own μ b) (hp : ∀ b ∈ wr, ∃ o, s.heap.get? b = some o ∧ Plainly o)
    (hf : ∀ b ∈ wr, ∃ o, s.heap.get? b = some o ∧ (∀ es n, o.data ≠ .dict es n) ∧ ∀ v, o.data ≠ .cell v) (hx : ExtN wr s.heap h') (t : Nat) : Step X μ₁ s₁ μ { s with heap := h', toks := t } ∧ Inv C μ H h' ∧ FR C F μ l h' := by
  have nd : ∀ L o es n, s.heap.get? L = some o → o.data = .dict es n → L ∉ wr := fun L o es n e hd q => by
    obtain ⟨o', e', hd', _⟩ := hf L q
    rw [e] at e'; (injection e' with j1; subst j1)
    exact hd' _ _ hd
  refine ext_core I R S hit hb ho hp ?_ (fun p hp q => ?_) (fun L hL => ?_) hx t
  · obtain ⟨m, ⟨o', es, ep, e', hd, _⟩, _⟩ := R.ns
    exact nd _ o' es ep e' hd
  · obtain ⟨_, _, _, w, o, e, hd⟩ := R.cell p hp
    obtain ⟨o', e', _, hd'⟩ := hf _ q
    rw [e] at e'; (injection e' with j1; subst j1)
    exact hd' _ hd
  · obtain ⟨_, o, es, n, e, hd⟩ := R.frs.each L hL
    exact nd _ o es n e hd
theorem Src.nd {wr : List Addr} {tg : Expr} {itv : Value} {J : Mu → Heap → It → Prop} (X : Src C F wr tg itv J) {h : Heap} {i : It} (hJ : J μ h i) : ∀ b ∈ wr, ∃ o, h.get? b = some o ∧ (∀ es n, o.data ≠ .dict es n) ∧ ∀ v, o.data ≠ .cell v := fun b q => by
  obtain ⟨_, o, e, _, vs, hd⟩ := X.live _ _ _ hJ b q
  exact ⟨o, e, ⟨fun _ _ q => by (rw [hd] at q; injection q), fun _ q => by (rw [hd] at q; injection q)⟩⟩
theorem Src.pl {wr : List Addr} {tg : Expr} {itv : Value} {J : Mu → Heap → It → Prop} (X : Src C F wr tg itv J) {h : Heap} {i : It} (hJ : J μ h i) : ∀ b ∈ wr, ∃ o, h.get? b = some o ∧ Plainly o := fun b q => by
  obtain ⟨_, o, e, p, _⟩ := X.live _ _ _ hJ b q
  exact ⟨o, e, p⟩
theorem Src.ho {wr : List Addr} {tg : Expr} {itv : Value} {J : Mu → Heap → It → Prop} (X : Src C F wr tg itv J) {h : Heap} {i : It} (hJ : J μ h i) : ∀ b ∈ wr, ¬ Own μ b := fun b q => (X.live _ _ _ hJ b q).1
theorem one {p : Addr → Prop} {a : Addr} (h : p a) : ∀ b ∈ [a], p b := fun b q => by rw [List.mem_singleton.mp q]; exact h
end
end Mine
end
section
namespace Mine
open PySem PySem.W PySem.Calls PyProof.Rows
section
variable {α β γ : Type} {C : Cx} {P : P0} {F : Fm} {call : Nat → List AV → AH → Out AV} {N : Nat} {μ : Mu} {H : AH} {s : Shared} {l : Loc} {d : Nat}
theorem FR.there {h : Heap} (R : FR C F μ l h) : ∃ o, h.get? F.env.locals = some o := by
  obtain ⟨⟨m, ⟨o, _, _, e, _⟩, _⟩, _⟩ := R
  exact ⟨o, e⟩
noncomputable def IterAt (μ : Mu) (h : Heap) (it : Addr) : It → Prop
  | .list r k => ∃ p, μ[r]? = some p ∧ h.IsListIter it p.1 k
  | .rng a b => ∃ left, IsRangeIter h it a left 1 ∧ (a < b → left = b - a) ∧ (¬ a < b → left ≤ 0)
theorem IterAt.obj {h : Heap} {it : Addr} {i : It} (x : IterAt μ h it i) : ∃ o, h.get? it = some o ∧ (o.cls = .type "list_iterator" ∨ o.cls = .type "range_iterator") ∧ ∃ vs, o.data = .fields vs := by
  induction i using Mine.It.casesOn with
  | list r k => obtain ⟨p, _, o, e, hc, hd⟩ := x; exact ⟨o, e, .inl hc, _, hd⟩
  | rng a b => obtain ⟨left, e, _⟩ := x; exact ⟨_, e, .inr rfl, _, rfl⟩
theorem lets_py {t : T} {it : Addr} {i : It} {v : Value} {Q : Unit → Shared → Prop} {E : Value → Shared → Prop} (x : IterAt μ s.heap it i) (h : Q () s) :
    wpAny (model C.prog C.w) F.A (letOwnedTupleGo (pyT t) (.ref it) v) Q E s := by
  induction t using Mine.T.casesOn <;> try exact wpAny_pure h
  obtain ⟨o, e, hc, _⟩ := x.obj
  show wpAny _ _ (letOwnedTupleGo (.Tuple _ _ _) _ _) Q E s
  unfold letOwnedTupleGo
  induction v using PySem.Value.casesOn <;> try exact wpAny_pure h
  refine wpAny_bind (wpAny_load e ?_)
  have hn : ∃ x, o.cls = .type x ∧ (["enumerate", "zip", "dict_itemiterator", "dict_reverseitemiterator", "odict_iterator", "itertools.zip_longest", "itertools.pairwise"].contains x) = false := by
    rcases hc with hc | hc
    · exact ⟨_, hc, by decide⟩
    · exact ⟨_, hc, by decide⟩
  obtain ⟨x, hx, hx2⟩ := hn
  obtain ⟨c, dt, da, sl⟩ := o
  dsimp only at hx
  subst hx
  induction da using PySem.Data.casesOn with
  | fields vs =>
    show wpAny _ _ (if (["enumerate", "zip", "dict_itemiterator", "dict_reverseitemiterator", "odict_iterator", "itertools.zip_longest", "itertools.pairwise"].contains x && _) = true then _ else _) Q E s
    rw [hx2, Bool.false_and, if_neg (by decide)]
    exact wpAny_pure h
  | _ => exact wpAny_pure h
noncomputable def JI (it : Addr) (μ : Mu) (h : Heap) (i : It) : Prop := IterAt μ h it i ∧ ¬ Own μ it
theorem src_it (hh : F.A.handled = none) (t : T) (it : Addr) : Src C F [it] (pyT t) (.ref it) (JI it) where
  live := fun μ h i hJ b hb => by
    rw [List.mem_singleton.mp hb]
    obtain ⟨o, e, hc, hd⟩ := hJ.1.obj
    refine ⟨hJ.2, o, e, .inr (.inr ?_), hd⟩
    rcases hc with hc | hc <;> exact (by rw [hc]; simp)
  move := fun μ h i μ' h' hJ hat hb => by
    obtain ⟨h1, h2⟩ := hb it (List.mem_singleton.mpr rfl)
    refine ⟨?_, h1⟩
    have x := hJ.1
    induction i using Mine.It.casesOn with
    | list r k =>
      obtain ⟨p, hp, o, e, r⟩ := x
      exact ⟨p, hat _ _ hp, o, h2 _ e, r⟩
    | rng a b =>
      obtain ⟨left, e, r⟩ := x
      exact ⟨left, h2 _ e, r⟩
  next := fun μ H s i r I hJ e Q K E E' hQ hn hs => by
    obtain ⟨hI, ho⟩ := hJ
    have xt : ∀ {h h' : Heap}, Heap.ExtBut it h h' → ExtN [it] h h' := fun hx b o hb => hx b o fun q => hb (List.mem_singleton.mpr q)
    have pl : ∀ b ∈ [it], ∃ o, s.heap.get? b = some o ∧ Plainly o := fun b hb => by
      rw [List.mem_singleton.mp hb]
      obtain ⟨o, e, hc, _⟩ := hI.obj
      exact ⟨o, e, .inr (.inr (by rcases hc with hc | hc <;> rw [hc] <;> simp))⟩
    have fin : ∀ a i' v h' tk, r = some (a, i') → Heap.ExtBut it s.heap h' → IterAt μ h' it i' → VR C μ s.heap a v → Q (some v) { s with heap := h', toks := tk } := fun a i' v h' tk hr hx hI' V =>
      hQ _ _ (lets_py (s := { s with heap := h', toks := tk }) hI' (hs a i' hr v h' tk (xt hx) ⟨hI', ho⟩ (VR.ext pl (xt hx) _ _ V)))
    induction i using Mine.It.casesOn with
    | list q k =>
      obtain ⟨p, hp, hit⟩ := hI
      have e : (match H[q]? with | some (.list xs) => some (xs[k]?.map fun v => (v, It.list q (k + 1))) | _ => none) = some r := e
      cases hx : H[q]? with
      | none => rw [hx] at e; exact nn e
      | some o =>
        rw [hx] at e
        induction o using AObj.casesOn with
        | list xs =>
          obtain rfl := Option.some.inj (show some (xs[k]?.map fun v => (v, It.list q (k + 1))) = some r from e)
          have := I.objs q _ p hx hp
          simp only [OR] at this
          obtain ⟨e1, hz, vs, n, hL, hv⟩ := this
          cases hk : xs[k]? with
          | none =>
            refine wpAny_pyNext_list_end hh hit hL.isList ?_ fun h' hx' => hn (by rw [hk]; rfl) h' s.toks (xt hx')
            have hz := hv.len
            rw [Array.getElem?_eq_none]
            have h2 := List.getElem?_eq_none_iff.mp hk
            simp only [Array.length_toList] at hz
            exact hz ▸ h2
          | some a =>
            obtain ⟨y, hy, Vy⟩ := hv.get hk
            refine wpAny_pyNext_list_item hit hL.isList (x := y) (by simpa using hy) fun h' hi' hs' => ?_
            exact fin a (.list q (k + 1)) y h' s.toks (by rw [hk]; rfl) hs'.extBut ⟨p, hp, hi'⟩ Vy
        | _ => exact nn e
    | rng a b =>
      obtain ⟨left, hit, h1, h2⟩ := hI
      obtain rfl := Option.some.inj (show some (if a < b then some (AV.int a, It.rng (a + 1) b) else none) = some r from e)
      by_cases hab : a < b
      · have hl := h1 hab
        refine wpAny_pyNext_range_item hit (by lia) fun h' hi' hs' => ?_
        exact fin (.int a) (.rng (a + 1) b) _ h' _ (if_pos hab) hs'.extBut ⟨left - 1, hi', fun _ => by lia, fun _ => by lia⟩ (by simp only [VR]; exact ⟨_, rfl⟩)
      · exact wpAny_pyNext_range_end hh hit (h2 hab) fun h' hx' => hn (if_neg hab) h' s.toks (xt hx')
theorem iter_snd {a : AV} {v : Value} {i : It} {Q : Value → Shared → Prop} {E : Value → Shared → Prop} (I : Inv C μ H s.heap) (V : VR C μ s.heap a v) (e : iterOf H a = some i)
    (h : ∀ it s', Step NoX μ s μ s' → Inv C μ H s'.heap → JI it μ s'.heap i → s.heap.get? it = none → Q (.ref it) s') : wpAny (model C.prog C.w) F.A (pyIter v) Q E s := by
  have ho : ¬ Own μ s.heap.objs.size := I.free (size_none _)
  induction a using AV.casesOn with
  | ref r =>
    have e : (match H[r]? with | some (.list _) => some (It.list r 0) | _ => none) = some i := e
    cases hx : H[r]? with
    | none => rw [hx] at e; exact nn e
    | some o =>
      rw [hx] at e
      induction o using AObj.casesOn with
      | list xs =>
        obtain rfl := Option.some.inj (show some (It.list r 0) = some i from e)
        obtain ⟨p, vs, n, hp, rfl, _, hL, _, _⟩ := I.list hx V
        exact wpAny_pyIter_list hL.isList (h _ _ (Step.push0 I _ s.toks) (I.push0 _) ⟨⟨p, hp, _, Heap.get?_push_size _ rfl, rfl, rfl⟩, ho⟩ (size_none _))
      | _ => exact nn e
  | rng x y =>
    obtain rfl := Option.some.inj (show some (It.rng x y) = some i from e)
    simp only [VR] at V
    obtain ⟨⟨h1, h2, h3, h4⟩, r, t, u, w, rfl, _, hr⟩ := V
    refine wpAny_pyIter_range hr (small_one (Int.le_trans (by decide) h1) (Int.lt_trans h2 (by decide)) (Int.le_trans (by decide) h3) (Int.lt_trans h4 (by decide))) (h _ _ (Step.push0 I _ s.toks) (I.push0 _) ⟨⟨Builtin.Range.rangeSize x y 1, Heap.get?_push_size _ rfl, fun q => ?_, fun q => ?_⟩, ho⟩ (size_none _))
    · rw [rangeSize_one, if_pos q]
    · rw [rangeSize_one, if_neg q]; exact Int.le_refl _
  | _ => exact nn e
theorem tgVs_len : ∀ (ts : List T0) (as : List AV) (l l' : Loc), tgVs ts as l = some l' → ts.length = as.length
  | [], [], _, _, _ => rfl
  | t :: ts, a :: as, l, l', e => by
    obtain ⟨l1, _, e2⟩ := Option.bind_eq_some_iff.mp (show (tgV t a l).bind (fun l => tgVs ts as l) = some l' from e)
    exact congrArg (· + 1) (tgVs_len ts as l1 l' e2)
  | [], _ :: _, _, _, e => by injection e
  | _ :: _, [], _, _, e => by injection e
mutual
theorem asT_of : ∀ (t : T0) (a : AV) (l l' : Loc) (H : AH), tgV t a l = some l' → asT P call N t a l H = .ok l' H
  | .name i, a, l, l', H, e => by
    show (match setLoc l i a with | some l => (.ok l H : Out Loc) | none => .bad) = _
    rw [show setLoc l i a = some l' from e]
  | .tup ts, a, l, l', H, e => by
    induction a using AV.casesOn with
    | tup vs =>
      show (if ts.length = vs.length then asTs P call N ts vs l H else .bad) = _
      rw [if_pos (tgVs_len ts vs l l' e)]
      exact asTs_of ts vs l l' H e
    | _ => exact nn e
  | .bad, _, _, _, _, e => nn e
  | .attr _ _, _, _, _, _, e => nn e
  | .item _ _, _, _, _, _, e => nn e
theorem asTs_of : ∀ (ts : List T0) (as : List AV) (l l' : Loc) (H : AH), tgVs ts as l = some l' → asTs P call N ts as l H = .ok l' H
  | [], [], _, _, _, e => by (injection e with j1; subst j1); rfl
  | t :: ts, a :: as, l, l', H, e => by
    obtain ⟨l1, e1, e2⟩ := Option.bind_eq_some_iff.mp (show (tgV t a l).bind (fun l => tgVs ts as l) = some l' from e)
    show (asT P call N t a l H).nx (fun l H => asTs P call N ts as l H) = _
    rw [asT_of t a l l1 H e1]
    exact asTs_of ts as l1 l' H e2
  | [], _ :: _, _, _, _, e => by injection e
  | _ :: _, [], _, _, _, e => by injection e
end
theorem TT.tg {t : T} (h : TT C P F call N t) {a : AV} {v : Value} {l' : Loc} {Q : Unit → Shared → Prop} {E : Value → Shared → Prop} (I : Inv C μ H s.heap) (R : FR C F μ l s.heap) (V : VR C μ s.heap a v) (e : tgV (stT C.gt t) a l = some l')
    (hQ : ∀ μ' s', Step (LX F) μ s μ' s' → Inv C μ' H s'.heap → FR C F μ' l' s'.heap → Q () s') : wpAny (model C.prog C.w) F.A (assign (pyT t) F.env v) Q E s := by
  have e2 := asT_of (P := P) (call := call) (N := N) _ a l l' H e
  refine h μ H s l a v I R V (by rw [e2]; intro q; injection q) Q E fun μ' l2 H2 s' q S I R => ?_
  rw [e2] at q
  (injection q with j1 j2; subst j1 j2)
  exact hQ μ' s' S I R
theorem for_eq {tg : AV → Loc → Option Loc} {body : Loc → AH → SO} {n : Nat} {i : It} {r : Option (AV × It)} (e : stepIt H i = some r) : forGo tg body (n + 1) i l H = match (generalizing := false) r with
    | none => SO.ok .next l H
    | some p => match tg p.1 l with
      | none => SO.bad
      | some l1 => (body l1 H).loop (forGo tg body n p.2) := by
  show (match stepIt H i with
    | none => SO.bad
    | some none => .ok .next l H
    | some (some (v, it')) => match tg v l with
      | none => .bad
      | some l1 => (body l1 H).loop (forGo tg body n it')) = _
  rw [e]
  induction r using Option.casesOn <;> rfl
theorem for_none {tg : AV → Loc → Option Loc} {body : Loc → AH → SO} {n : Nat} {i : It} (e : stepIt H i = none) : forGo tg body (n + 1) i l H = SO.bad := by
  show (match stepIt H i with
    | none => SO.bad
    | some none => .ok .next l H
    | some (some (v, it')) => match tg v l with
      | none => .bad
      | some l1 => (body l1 H).loop (forGo tg body n it')) = _
  rw [e]
inductive LI (C : Cx) (F : Fm) (J : Mu → Heap → It → Prop) (go : Nat → It → Loc → AH → SO) (μ₁ : Mu) (s₁ : Shared) (Q : Flow → Shared → Prop) (E : Value → Shared → Prop) (n : Nat) (s : Shared) : Prop
  | mk (μ : Mu) (l : Loc) (H : AH) (i : It) (S : Step (LX F) μ₁ s₁ μ s) (I : Inv C μ H s.heap) (R : FR C F μ l s.heap) (hJ : J μ s.heap i) (hb : go n i l H ≠ .bad) (Po : PostS C F μ₁ s₁ (go n i l H) Q E) : LI C F J go μ₁ s₁ Q E n s
theorem for_go {wr : List Addr} {itv : Value} {J : Mu → Heap → It → Prop} {t : T} {b : List S} {μ₁ : Mu} {s₁ : Shared} {Q : Flow → Shared → Prop} {E : Value → Shared → Prop} (Sf : FT F d) (X : Src C F wr (pyT t) itv J) (ht : TT C P F call N t) (hb : SSs C P F call N b)
    (I1 : Inv C μ₁ H s₁.heap) (R1 : FR C F μ₁ l s₁.heap) (hwr : ∀ b ∈ wr, s₁.heap.get? b = none) (n : Nat)
    (h : LI C F J (forGo (tgV (stT C.gt t)) (fun l H => evSs P call N (stSs C.gt b) l H)) μ₁ s₁ Q (Nt C F E) n s) :
    codeAny (model C.prog C.w) F.A (.forLoop (pyT t) itv (pySs b) [] F.env) (fun r s' => match r with | .ok f => Q f s' | .error e => cameBackBy (model C.prog C.w) F.A F.env E e s') s := by
  have hwb : ∀ b ∈ wr, C.base.get? b = none := fun b q => base_none I1 (hwr b q)
  have hLw : ∀ b ∈ wr, ¬ LX F b := fun b hb q => by
    rcases Sf.wrs b q with rfl | ⟨p, hp, rfl⟩
    · obtain ⟨o, e⟩ := R1.there
      rw [hwr _ hb] at e; injection e
    · obtain ⟨_, _, _, w, o, e, _⟩ := R1.cell p hp
      rw [hwr _ hb] at e; injection e
  refine codeAny_forLoop_any (LI C F J (forGo (tgV (stT C.gt t)) (fun l H => evSs P call N (stSs C.gt b) l H)) μ₁ s₁ Q (Nt C F E)) (fun n s' hI => ?_) n h
  obtain ⟨μ₃, l₃, H₃, i₃, S3, I3, R3, hJ, hb3, Po3⟩ := hI
  induction n using Nat.casesAuxOn with
  | zero => exact absurd rfl hb3
  | succ n =>
    cases hst : stepIt H₃ i₃ with
    | none => exact absurd (for_none hst) hb3
    | some r =>
      rw [for_eq hst] at hb3 Po3
      refine X.next μ₃ H₃ s' i₃ r I3 hJ hst _ _ _ _ (fun v s₁ h => h) (fun hr h' tk hx => ?_) fun a i' hr v h' tk hx hJ' V' => ?_
      · subst hr
        obtain ⟨S4, I4, R4⟩ := ext_many I3 R3 S3 hwr hwb (X.ho hJ) (X.pl hJ) (X.nd hJ) hx tk
        exact wpAny_execs_nil (Po3.ok μ₃ _ l₃ H₃ _ _ rfl S4 I4 R4 rfl)
      · subst hr
        obtain ⟨S4, I4, R4⟩ := ext_many I3 R3 S3 hwr hwb (X.ho hJ) (X.pl hJ) (X.nd hJ) hx tk
        dsimp only at hb3 Po3
        cases htg : tgV (stT C.gt t) a l₃ with
        | none => rw [htg] at hb3; exact absurd rfl hb3
        | some l₄ =>
          rw [htg] at hb3 Po3
          refine ht.tg (s := { s' with heap := h', toks := tk }) I4 R4 V' htg fun μ₅ s₅ S5 I5 R5 => ?_
          have hJ5 := X.step (s := { s' with heap := h', toks := tk }) hJ' S5 hLw
          have S45 := S4.trans0 S5
          refine hb μ₅ H₃ s₅ l₄ I5 R5 (fun q => hb3 (by dsimp only; rw [q]; rfl)) _ _ ⟨fun μ₆ fl l₆ H₆ f s₆ e6 S6 I6 R6 V6 => ?_, fun _ _ _ _ _ q S6 I6 R6 y => loop_exc Po3 q (S45.trans0 S6) I6 R6 (y.older S45.older)⟩
          have S7 := S45.trans0 S6
          rcases loop_flow hb3 Po3 e6 S7 I6 R6 V6 with ⟨hf, hb7, Po7⟩ | ⟨v, rfl, q⟩
          · have z := LI.mk (go := forGo (tgV (stT C.gt t)) (fun l H => evSs P call N (stSs C.gt b) l H)) (n := n) μ₆ l₆ H₆ i' S7 I6 R6 (X.step hJ5 S6 hLw) hb7 Po7
            rcases hf with rfl | rfl <;> exact ⟨n, Nat.lt_succ_self n, z⟩
          · exact q
theorem folded_py (e : E) (env : Env) (x : Value) : foldedSetIterable (py e) env x = pure x := by induction e using Mine.E.casesOn <;> rfl
theorem ss_for (Sf : FT F d) {t : T} {e : E} {b : List S} {p : Pos} (ht : TT C P F call N t) (he : SE C P F call N e) (hb : SSs C P F call N b) : SS C P F call N (.for_ t e b p) := fun μ H s l I R => by
  show WS C F _ ((evE P call N (st C.gt e) l H).thenS l fun v H => match iterOf H v with
    | some i => forGo (tgV (stT C.gt t)) (fun l H => evSs P call N (stSs C.gt b) l H) N i l H
    | none => .bad) μ s
  intro hbad Q E Po
  refine wpAny_For (WE.thenS (he μ H s l I R) R hbad Po fun μ₁ a H₁ v s₁ S1 I1 R1 V1 hb1 Po1 => ?_) (folded_py e F.env)
  cases hi : iterOf H₁ a with
  | none => rw [hi] at hb1; exact absurd rfl hb1
  | some i =>
    rw [hi] at hb1 Po1
    refine iter_snd I1 V1 hi fun it s₂ S2 I2 hJ hit => ?_
    exact for_go Sf (src_it Sf.handled t it) ht hb I1 R1 (one hit) N (.mk μ₁ l H₁ i (lx S2) I2 (R1.step0 S2) hJ hb1 (Po1.noted Sf))
end
end Mine
end
section
namespace Mine
open PySem PySem.W PySem.Calls PyProof.Rows
section
variable {α β γ : Type} {C : Cx} {P : P0} {F : Fm} {call : Nat → List AV → AH → Out AV} {N : Nat} {μ : Mu} {H : AH} {s : Shared} {l : Loc} {d : Nat}
noncomputable def STs (C : Cx) (P : P0) (F : Fm) (call : Nat → List AV → AH → Out AV) (N : Nat) (es : List E) : Prop := ∀ e ∈ es, ST C P F call N e
noncomputable abbrev testing (env : Env) : Expr → Bool → Sem (ForInStep Bool) := fun c r => if r = true then do let ok ← isTrue c env (eval c env); pure (ForInStep.yield ok) else pure (ForInStep.yield r)
theorem tests_false {M : Model} {A : Around} {env : Env} {Q : Bool → Shared → Prop} {E : Value → Shared → Prop} : ∀ (cs : List Expr), Q false s → wpAny M A (forIn cs false (testing env)) Q E s
  | [], h => wpAny_pure h
  | c :: cs, h => by
    rw [List.forIn_cons]
    exact wpAny_bind (wpAny_pure (tests_false cs h))
theorem ifs_eq (e : E) (r : List E) : evIfs P call N (sts C.gt (e :: r)) l H = (evT P call N (st C.gt e) l H).bind fun b H => if b = true then evIfs P call N (sts C.gt r) l H else .ok (.bool false) H := by
  rw [← evT_bind]; rfl
noncomputable abbrev ABRel : Mu → Heap → AV → Bool → Prop := fun _ _ a b => a = .bool b
theorem tests_snd : ∀ (es : List E), STs C P F call N es → ∀ μ H s l, Inv C μ H s.heap → FR C F μ l s.heap → WE C F NoX ABRel (forIn (pys es) true (testing F.env)) (evIfs P call N (sts C.gt es) l H) μ s
  | [], _, μ, H, s, l, I, R => fun hb Q E Po => wpAny_pure (Po.ok μ (.bool true) H true s rfl .refl I rfl)
  | e :: r, h, μ, H, s, l, I, R => by
    rw [ifs_eq]
    intro hb Q E Po
    show wpAny _ _ (forIn (py e :: pys r) true (testing F.env)) Q E s
    rw [List.forIn_cons]
    refine wpAny_bind (wpAny_bind (WE.bind (h e List.mem_cons_self μ H s l I R) hb Po fun μ₁ a H₁ v s₁ e1 S1 I1 V1 hb1 Po1 => ?_))
    obtain rfl : a = v := V1
    refine wpAny_pure ?_
    induction a using Bool.casesOn
    · exact tests_false _ (Po1.ok μ₁ (.bool false) H₁ false s₁ rfl .refl I1 rfl)
    · exact tests_snd r (fun e he => h e (List.mem_cons_of_mem _ he)) μ₁ H₁ s₁ l I1 (R.step0 S1) hb1 Q E Po1
theorem Inv.adopt {h : Heap} {p : Addr × Addr} {o0 : AObj} (I : Inv C μ H h) (h1 : ¬ Own μ p.1) (h2 : ¬ Own μ p.2) (b1 : C.base.get? p.1 = none) (b2 : C.base.get? p.2 = none)
    (V : ∀ a v, VR C μ h a v → VR C (μ ++ [p]) h a v) (ho : OR C (μ ++ [p]) h o0 p) : Inv C (μ ++ [p]) (H ++ [o0]) h := by
  have fr : ∀ {j : Nat} {q : Addr × Addr}, μ[j]? = some q → q.1 ≠ p.1 ∧ q.1 ≠ p.2 ∧ q.2 ≠ p.1 ∧ q.2 ≠ p.2 := fun {j q} hq => by
    obtain ⟨a, b⟩ := own_lt hq
    refine ⟨?_, ?_, ?_, ?_⟩ <;> intro e
    · rw [e] at a; exact h1 a
    · rw [e] at a; exact h2 a
    · rw [e] at b; exact h1 b
    · rw [e] at b; exact h2 b
  refine ⟨I.stays, by simp [I.len], fun i o q hi hq => ?_, fun i j q r hq hr hij => ?_, fun q hq => ?_⟩
  · rcases Nat.lt_or_ge i μ.length with hlt | hge
    · rw [List.getElem?_append_left hlt] at hq
      rw [List.getElem?_append_left (I.len ▸ hlt)] at hi
      exact (I.objs i o q hi hq).move rfl rfl V fun a v => VRs.of V a
    · rw [List.getElem?_append_right hge] at hq
      rw [List.getElem?_append_right (I.len ▸ hge)] at hi
      rw [← I.len] at hi
      cases hk : i - μ.length with
      | zero =>
        rw [hk] at hq hi
        (injection hq with j1; subst j1); (injection hi with j1; subst j1); exact ho
      | succ k => rw [hk] at hq; simp at hq
  · rcases Nat.lt_or_ge i μ.length with hi | hi <;> rcases Nat.lt_or_ge j μ.length with hj | hj
    · rw [List.getElem?_append_left hi] at hq
      rw [List.getElem?_append_left hj] at hr
      exact I.sep i j q r hq hr hij
    · rw [List.getElem?_append_left hi] at hq
      rw [List.getElem?_append_right hj] at hr
      cases hk : j - μ.length with
      | zero => rw [hk] at hr; (injection hr with j1; subst j1); exact fr hq
      | succ k => rw [hk] at hr; simp at hr
    · rw [List.getElem?_append_right hi] at hq
      rw [List.getElem?_append_left hj] at hr
      cases hk : i - μ.length with
      | zero => rw [hk] at hq; (injection hq with j1; subst j1); obtain ⟨a, b, c, d⟩ := fr hr; exact ⟨a.symm, c.symm, b.symm, d.symm⟩
      | succ k => rw [hk] at hq; simp at hq
    · rw [List.getElem?_append_right hi] at hq
      rw [List.getElem?_append_right hj] at hr
      cases hk : i - μ.length with
      | zero => cases hk' : j - μ.length with
        | zero => omega
        | succ k => rw [hk'] at hr; simp at hr
      | succ k => rw [hk] at hq; simp at hq
  · rcases List.mem_append.mp hq with hq | hq
    · exact I.new q hq
    · obtain rfl := List.mem_singleton.mp hq; exact ⟨b1, b2⟩
noncomputable abbrev Fc (F : Fm) (sc : Scope) (slots : List Str) (cl : List (Str × Addr)) (c : Addr) : Fm := ⟨compEnvC sc cl c F.env, slots, F.fr, F.A, [c]⟩
noncomputable def clos (env : Env) : List (Str × NameKind) → List (Str × Addr) → List (Str × Addr)
  | [], acc => acc
  | (n, k) :: r, acc => if (k == .free) = true then clos env r ((n, (env.cells.lookup n).getD 0) :: acc) else clos env r acc
theorem clos_eq (env : Env) (f : Str × NameKind → List (Str × Addr) → Sem (ForInStep (List (Str × Addr)))) (hf : ∀ n k acc, f (n, k) acc = if (k == .free) = true then (do let c ← cellOf env n; pure (.yield ((n, c) :: acc))) else pure (.yield acc)) :
    ∀ (names : List (Str × NameKind)) (acc : List (Str × Addr)), (∀ p ∈ names, p.2 = .free → ∃ c, env.cells.lookup p.1 = some c) → forIn names acc f = pure (clos env names acc)
  | [], acc, _ => by rw [List.forIn_nil]; rfl
  | (n, k) :: r, acc, h => by
    have h' : ∀ p ∈ r, p.2 = .free → ∃ c, env.cells.lookup p.1 = some c := fun p hp => h p (List.mem_cons_of_mem _ hp)
    rw [List.forIn_cons, hf]
    unfold clos
    by_cases q : (k == .free) = true
    · obtain ⟨c, hc⟩ := h (n, k) List.mem_cons_self (beq_iff_eq.mp q)
      rw [if_pos q, if_pos q]
      unfold cellOf
      have hc : env.cells.lookup n = some c := hc
      rw [hc]
      simp only [pure_bind, Option.getD_some]
      exact clos_eq env f hf r _ h'
    · rw [if_neg q, if_neg q]
      simp only [pure_bind]
      exact clos_eq env f hf r _ h'
theorem closure_eq {sc : Scope} {env : Env} (h : ∀ p ∈ sc.names, p.2 = .free → ∃ c, env.cells.lookup p.1 = some c) : closureFor sc env = pure (clos env sc.names []) := by
  unfold closureFor
  dsimp only
  rw [clos_eq env _ (fun n k acc => rfl) sc.names [] h, pure_bind]
set_option tactic.hygienic true
theorem clos_mem (env : Env) : ∀ (names : List (Str × NameKind)) (acc : List (Str × Addr)), (∀ p ∈ names, p.2 = .free → ∃ c, env.cells.lookup p.1 = some c) → (∀ p ∈ acc, env.cells.lookup p.1 = some p.2) → ∀ p ∈ clos env names acc, env.cells.lookup p.1 = some p.2
  | [], acc, _, h, p, hp => h p hp
  | (n, k) :: r, acc, h0, h, p, hp => by
    have h' : ∀ p ∈ r, p.2 = .free → ∃ c, env.cells.lookup p.1 = some c := fun p hp => h0 p (List.mem_cons_of_mem _ hp)
    unfold clos at hp
    split at hp
    · rename_i q
      obtain ⟨c, hc⟩ := h0 (n, k) List.mem_cons_self (beq_iff_eq.mp q)
      have hc : env.cells.lookup n = some c := hc
      refine clos_mem env r _ h' (fun y hy => ?_) p hp
      rcases List.mem_cons.mp hy with rfl | hy
      · show env.cells.lookup n = some ((env.cells.lookup n).getD 0)
        rw [hc]; rfl
      · exact h y hy
    · exact clos_mem env r acc h' h p hp
set_option tactic.hygienic false
theorem clos_key (env : Env) {x : Str} : ∀ (names : List (Str × NameKind)) (acc : List (Str × Addr)), ((x, NameKind.free) ∈ names ∨ ∃ c, (x, c) ∈ acc) → ∃ c, (x, c) ∈ clos env names acc
  | [], acc, h => h.elim (fun h => by exact absurd h List.not_mem_nil) id
  | (n, k) :: r, acc, h => by
    unfold clos
    rcases h with h | ⟨c, h⟩
    · rcases List.mem_cons.mp h with h | h
      · (injection h with j1 j2; subst j1 j2)
        rw [if_pos (by rfl)]
        exact clos_key env r _ (.inr ⟨_, List.mem_cons_self⟩)
      · split <;> exact clos_key env r _ (.inl h)
    · split
      · exact clos_key env r _ (.inr ⟨c, List.mem_cons_of_mem _ h⟩)
      · exact clos_key env r _ (.inr ⟨c, h⟩)
theorem key_lookup {x : Str} {c : Addr} : ∀ {l : List (Str × Addr)}, (x, c) ∈ l → ∃ c', l.lookup x = some c' ∧ (x, c') ∈ l
  | (y, d) :: r, h => by
    rw [List.lookup_cons]
    cases e : x == y
    · rcases List.mem_cons.mp h with h | h
      · (injection h with j1 j2; subst j1 j2); simp at e
      · obtain ⟨c', a, b⟩ := key_lookup h
        exact ⟨c', a, List.mem_cons_of_mem _ b⟩
    · rw [beq_iff_eq.mp e]
      exact ⟨d, rfl, List.mem_cons_self⟩
structure CapOk (F : Fm) (sc : Scope) (x : Str) (j : Nat) : Prop where
  slot : F.slots[j]? = some x
  out : F.env.scope.names.lookup x = some .cell
  in_ : (relabel sc F.env).names.lookup x = some .cell
  free : (x, NameKind.free) ∈ sc.names
structure ScOk (F : Fm) (sc : Scope) (slots : List Str) (caps : List (Str × Nat)) : Prop where
  free : ∀ p ∈ sc.names, p.2 = .free → ∃ c, F.env.cells.lookup p.1 = some c
  cell : ∀ x ∈ sc.names, x.2 ≠ .cell
  kind : sc.kind = .function
  names : ∀ x ∈ sc.names, x.2 = .local → sc.names.lookup x.1 = some .local
  nodup : (caps.map (·.1) ++ slots).Nodup
  caps : ∀ p ∈ caps, CapOk F sc p.1 p.2
noncomputable abbrev Fk (F : Fm) (sc : Scope) (slots : List Str) (caps : List (Str × Nat)) (c : Addr) : Fm := Fc F sc (caps.map (·.1) ++ slots) (clos F.env sc.names []) c
set_option tactic.hygienic true
theorem relab_free {sc : Scope} {env : Env} {x : Str} (hc : ∀ x ∈ sc.names, x.2 ≠ .cell) (h : (relabel sc env).names.lookup x = some .cell) : (x, NameKind.free) ∈ sc.names := by
  have h := mem_of_lookup h
  obtain ⟨⟨n, k⟩, hm, e⟩ := List.mem_map.mp h
  dsimp only at e
  split at e
  · rename_i q
    (injection e with j1; subst j1)
    obtain ⟨q, _⟩ := Bool.and_eq_true_iff.mp q
    obtain ⟨q, _⟩ := Bool.and_eq_true_iff.mp q
    rw [← beq_iff_eq.mp q]; exact hm
  · (injection e with j1 j2; subst j1 j2)
    exact absurd rfl (hc _ hm)
set_option tactic.hygienic false
theorem FS.comp (S : FS F d) {sc : Scope} {slots : List Str} {caps : List (Str × Nat)} (K : ScOk F sc slots caps) (c : Addr) : FS (Fk F sc slots caps c) d :=
  ⟨S.handled, S.frames, S.depth, S.units, K.kind, S.glob, S.blt, K.nodup, List.mem_singleton.mpr rfl, fun a h => .inl (List.mem_singleton.mp h), fun x h => by
    obtain ⟨c, hc⟩ := clos_key F.env sc.names [] (.inl (relab_free K.cell h))
    obtain ⟨c', h', _⟩ := key_lookup hc
    exact ⟨c', h'⟩⟩
theorem comp_eq {tg : AV → Loc → Option Loc} {ifs elt : Loc → AH → Out AV} {n : Nat} {i : It} {acc : List AV} {r : Option (AV × It)} (e : stepIt H i = some r) : compGo tg ifs elt (n + 1) i l H acc = match (generalizing := false) r with
    | none => .ok acc H
    | some p => match tg p.1 l with
      | none => .bad
      | some l' => compIn (compGo tg ifs elt n p.2) ifs elt l' H acc := by
  show (match stepIt H i with
    | none => (.bad : Out (List AV))
    | some none => .ok acc H
    | some (some (v, it')) => match tg v l with
      | none => .bad
      | some l' => compIn (compGo tg ifs elt n it') ifs elt l' H acc) = _
  rw [e]
  induction r using Option.casesOn <;> rfl
theorem comp_none {tg : AV → Loc → Option Loc} {ifs elt : Loc → AH → Out AV} {n : Nat} {i : It} {acc : List AV} (e : stepIt H i = none) : compGo tg ifs elt (n + 1) i l H acc = .bad := by
  show (match stepIt H i with
    | none => (.bad : Out (List AV))
    | some none => .ok acc H
    | some (some (v, it')) => match tg v l with
      | none => .bad
      | some l' => compIn (compGo tg ifs elt n it') ifs elt l' H acc) = _
  rw [e]
inductive CI (C : Cx) (F : Fm) (J : Mu → Heap → It → Prop) (go : Nat → It → Loc → AH → List AV → Out (List AV)) (D : Addr) (μ₀ : Mu) (s₀ : Shared) (r0 : Out (List AV)) (n : Nat) (s : Shared) : Prop
  | mk (μ : Mu) (l : Loc) (H : AH) (i : It) (xs : List AV) (vs : Array Value) (k : Nat) (S : Step NoX μ₀ s₀ μ s) (I : Inv C μ H s.heap) (R : FR C F μ l s.heap) (hJ : J μ s.heap i) (ho : ¬ Own μ D) (hL : IsL s.heap D vs k) (hV : VRs C μ s.heap xs vs.toList) (hl : xs.length ≤ big) (e : go n i l H xs = r0) : CI C F J go D μ₀ s₀ r0 n s
inductive CD (C : Cx) (F : Fm) (D : Addr) (μ₀ : Mu) (s₀ : Shared) (r0 : Out (List AV)) (s : Shared) : Prop
  | mk (μ : Mu) (l : Loc) (H : AH) (xs : List AV) (vs : Array Value) (k : Nat) (S : Step NoX μ₀ s₀ μ s) (I : Inv C μ H s.heap) (R : FR C F μ l s.heap) (ho : ¬ Own μ D) (hL : IsL s.heap D vs k) (hV : VRs C μ s.heap xs vs.toList) (hl : xs.length ≤ big) (e : r0 = .ok xs H) : CD C F D μ₀ s₀ r0 s
theorem comp_loop {wr : List Addr} {itv : Value} {J : Mu → Heap → It → Prop} {tg : T} {elt : E} {ifs : List E} {it : Expr} {sc : Scope} {p : Pos} {D : Addr} {μ₀ : Mu} {s₀ : Shared} {r0 : Out (List AV)} {RR : Result → Shared → Prop}
    (X : Src C F wr (pyT tg) itv J) (ht : TT C P F call N tg) (hifs : STs C P F call N ifs) (helt : SE C P F call N elt)
    (I0 : Inv C μ₀ H s₀.heap) (hwr : ∀ b ∈ wr, s₀.heap.get? b = none) (hD : s₀.heap.get? D = none) (hDw : D ∉ wr) (hF : ∀ a ∈ F.wr, s₀.heap.get? a = none ∧ a ∉ wr ∧ D ≠ a) (Sf : FS F d) (hb : r0 ≠ .bad)
    (fin : ∀ s, CD C F D μ₀ s₀ r0 s → RR (.ok .next) s) (n : Nat)
    (h : CI C F J (compGo (tgV (stT C.gt tg)) (fun l H => evIfs P call N (sts C.gt ifs) l H) (fun l H => evE P call N (st C.gt elt) l H)) D μ₀ s₀ r0 n s) :
    codeAny (model C.prog C.w) F.A (.compLoop (.ListComp (py elt) [⟨pyT tg, it, pys ifs, 0⟩] sc p) 0 itv (.ref D) F.env) RR s := by
  have hwb : ∀ b ∈ wr, C.base.get? b = none := fun b q => base_none I0 (hwr b q)
  have hLw : ∀ b ∈ wr, ¬ LX F b := fun b hb q => (hF b q).2.1 hb
  refine codeAny_loop rfl (CI C F J (compGo (tgV (stT C.gt tg)) (fun l H => evIfs P call N (sts C.gt ifs) l H) (fun l H => evE P call N (st C.gt elt) l H)) D μ₀ s₀ r0) (fun n s' hI => ?_) n h
  refine wpAny_noted ?_
  rw [compTurn_list]
  refine wpAny_bind (wpAny_standAt (wpAny_bind ?_))
  obtain ⟨μ₃, l₃, H₃, i₃, xs, vs, k, S3, I3, R3, hJ, ho3, hL3, hV3, hlen, hr3⟩ := hI
  induction n using Nat.casesAuxOn with
  | zero => exact absurd hr3.symm hb
  | succ n =>
    cases hst : stepIt H₃ i₃ with
    | none => exact absurd (hr3.symm.trans (comp_none hst)) hb
    | some r =>
      rw [comp_eq hst] at hr3
      refine X.next μ₃ H₃ s' i₃ r I3 hJ hst _ _ _ _ (fun v s₁ h => wpAny_bind h) (fun hr h' tk hx => ?_) fun a i' hr v h' tk hx hJ' V' => ?_
      · subst hr
        obtain ⟨S4, I4, R4⟩ := ext_many I3 R3 S3 hwr hwb (X.ho hJ) (X.pl hJ) (X.nd hJ) hx tk
        exact wpAny_pure (fin _ (.mk μ₃ l₃ H₃ xs vs k S4 I4 R4 ho3 (hx D _ hDw hL3) (VRs.of (VR.ext (X.pl hJ) hx) _ hV3) hlen hr3.symm))
      · subst hr
        obtain ⟨S4, I4, R4⟩ := ext_many I3 R3 S3 hwr hwb (X.ho hJ) (X.pl hJ) (X.nd hJ) hx tk
        have hL4 : IsL h' D vs k := hx D _ hDw hL3
        have hV4 := VRs.of (VR.ext (X.pl hJ) hx) _ hV3
        dsimp only at hr3
        cases htg : tgV (stT C.gt tg) a l₃ with
        | none => rw [htg] at hr3; exact absurd hr3.symm hb
        | some l₄ =>
          rw [htg] at hr3
          refine wpAny_bind (ht.tg (s := { s' with heap := h', toks := tk }) I4 R4 V' htg fun μ₆ s₆ S6 I6 R6 => ?_)
          have S36 := S4.trans S6 fun a q => .inr (hF a q).1
          have hJ6 := X.step (s := { s' with heap := h', toks := tk }) hJ' S6 hLw
          have hL6 : IsL s₆.heap D vs k := S6.exact hL4 ho3 (fun q => (hF D q).2.2 rfl) (by simp)
          have ho6 := S6.notOwn ho3 hL4
          have hV6 := VRs.step S6 (R4.plain Sf) _ hV4
          have hr6 : compIn (compGo (tgV (stT C.gt tg)) (fun l H => evIfs P call N (sts C.gt ifs) l H) (fun l H => evE P call N (st C.gt elt) l H) n i') (fun l H => evIfs P call N (sts C.gt ifs) l H) (fun l H => evE P call N (st C.gt elt) l H) l₄ H₃ xs = r0 := hr3
          unfold compIn at hr6
          dsimp only at hr6
          refine wpAny_bind (tests_snd ifs hifs μ₆ H₃ s₆ l₄ I6 R6 (fun q => hb (by rw [← hr6, q])) _ _ ⟨fun μ₇ a₇ H₇ ok s₇ e7 S7 I7 V7 => ?_, fun _ _ _ _ q => absurd (by rw [← hr6, q]) hb⟩)
          obtain rfl : a₇ = .bool ok := V7
          rw [e7] at hr6
          have hJ7 := X.step hJ6 S7 fun _ _ => id
          have hL7 : IsL s₇.heap D vs k := S7.exact hL6 ho6 id (by simp)
          have ho7 := S7.notOwn ho6 hL6
          have R7 := R6.step0 S7
          have hV7 := hV6.step0 S7
          have S37 := S36.trans0 S7
          induction ok using Bool.casesOn with
          | false =>
            exact wpAny_pure ⟨rfl, ⟨n, Nat.lt_succ_self n, .mk μ₇ l₄ H₇ i' xs vs k S37 I7 R7 hJ7 ho7 hL7 hV7 hlen hr6⟩⟩
          | true =>
            dsimp only at hr6
            refine wpAny_bind (wpAny_bind (helt μ₇ H₇ s₇ l₄ I7 R7 (fun q => hb (by rw [← hr6, q])) _ _ ⟨fun μ₈ a₈ H₈ y s₈ e8 S8 I8 V8 => ?_, fun _ _ _ _ q => absurd (by rw [← hr6, q]) hb⟩))
            rw [e8] at hr6
            dsimp only at hr6
            by_cases hlt : xs.length < big
            · rw [if_pos hlt] at hr6
              have hJ8 := X.step hJ7 S8 fun _ _ => id
              have hL8 : IsL s₈.heap D vs k := S8.exact hL7 ho7 id (by simp)
              have ho8 := S8.notOwn ho7 hL7
              have hV8 := hV7.step0 S8
              have hzz := hV8.len
              simp only [Array.length_toList] at hzz
              refine wpAny_bind (call_meets PySem.F.slot_list_append hL8.isList.typeIs PySem.F.entry_list_append (PySem.F.args_list_append_2 _ _) (list_append D vs k y (by rw [big_eq, ← hzz]; exact Nat.le_of_lt hlt)) ⟨hL8, ?_⟩)
              obtain ⟨k', hL9⟩ := isL_map hL8 (fun xs => xs.push y)
              have hx9 : ExtN [D] s₈.heap (s₈.heap.update D (Obj.mapSeq fun xs => xs.push y)) := fun b o q => (Heap.SameBut.update _ _ _).extBut b o fun z => q (List.mem_singleton.mpr z)
              have pl9 : ∀ b ∈ [D], ∃ o, s₈.heap.get? b = some o ∧ Plainly o := one ⟨_, hL8, .inr (.inr (by simp))⟩
              have V9 := VR.ext (C := C) (μ := μ₈) pl9 hx9
              obtain ⟨S9, I9, R9⟩ := ext_many (wr := [D]) I8 (R7.step0 S8) (S37.trans0 S8) (one hD) (one (base_none I0 hD)) (one ho8) pl9 (one ⟨_, hL8, by simp⟩) hx9 s₈.toks
              refine wpAny_pure (wpAny_pure ⟨rfl, ⟨n, Nat.lt_succ_self n, .mk μ₈ l₄ H₈ i' (xs ++ [a₈]) _ k' S9 I9 R9 (X.move _ _ _ _ _ hJ8 (fun _ _ h => h) fun b q => ⟨X.ho hJ8 b q, fun o e => hx9 b o (fun z => hDw (List.mem_singleton.mp z ▸ q)) e⟩) ho8 hL9 ?_ (by rw [List.length_append]; exact hlt) hr6⟩⟩)
              rw [Array.toList_push]
              exact (VRs.of V9 _ hV8).append (by simpa only [VRs, and_true] using V9 _ _ V8)
            · rw [if_neg hlt] at hr6; exact absurd hr6.symm hb
theorem comp_block (Sf : FS F d) {elt it : E} {tg : T} {ifs : List E} {sc : Scope} {slots : List Str} {caps : List (Str × Nat)} {p : Pos} (K : ScOk F sc slots caps)
    (htg : ∀ c, TT C P (Fk F sc slots caps c) call N tg) (hifs : ∀ c, STs C P (Fk F sc slots caps c) call N ifs) (helt : ∀ c, SE C P (Fk F sc slots caps c) call N elt)
    {a : AV} {v : Value} {i : It} (I : Inv C μ H s.heap) (R : FR C F μ l s.heap) (V : VR C μ s.heap a v) (hi : iterOf H a = some i) {RR : Value → Addr → Result → Shared → Prop} {E : Value → Shared → Prop} {r0 : Out (List AV)}
    (hr : compGo (tgV (stT C.gt tg)) (fun l H => evIfs P call N (sts C.gt ifs) l H) (fun l H => evE P call N (st C.gt elt) l H) N i (caps.map (fun q => (l[q.2]?).getD none) ++ List.replicate slots.length none) H [] = r0) (hb : r0 ≠ .bad)
    (fin : ∀ D c s', s.heap.get? D = none → s.heap.get? c = none → D ≠ c → CD C (Fk F sc slots caps c) D μ s r0 s' → RR (.ref D) c (.ok .next) s') :
    wpAny (model C.prog C.w) F.A (pyIter v) (fun it' s₂ => wpAny (model C.prog C.w) F.A (newList []) (fun acc s₃ =>
      wpAny (model C.prog C.w) F.A (newFunctionEnv sc F.env.globals (clos F.env sc.names []) [] F.env.qual none .none (some F.env)) (fun cenv s₄ =>
        codeAny (model C.prog C.w) F.A (.compStart (.ListComp (py elt) [⟨pyT tg, py it, pys ifs, 0⟩] sc p) 0 it' acc { cenv with scope := relabel sc F.env }) (RR acc cenv.locals) s₄) E s₃) E s₂) E s := by
  refine iter_snd I V hi fun it' s₂ S2 I2 hJ hit => ?_
  have R2 := R.step0 S2
  refine wpAny_newObj_type (hd := by size_fits) (wpAny_newFunctionEnv K.cell (by intro y hy; simp at hy) (fun h₁ hns hsb => ?_) K.kind)
  have hD : s₂.heap.get? s₂.heap.objs.size = none := size_none _
  have hC : s₂.heap.get? (s₂.heap.objs.size + 1) = none := size_none1 _
  rw [Heap.size_push] at hns hsb ⊢
  have hDC : s₂.heap.objs.size ≠ s₂.heap.objs.size + 1 := Nat.ne_of_lt (Nat.lt_succ_self _)
  have hk31 : ∀ b o, (s₂.heap.push { cls := .type "list", dict := none, data := .seq ([] : List Value).toArray }).get? b = some o → h₁.get? b = some o := fun b o e => hsb.extBut b o (fun q => by
    have hl := Heap.lt_size e
    rw [Heap.size_push, q] at hl
    exact absurd hl (Nat.lt_irrefl _)) (Heap.get?_push_of_some _ e)
  have hL4 : IsL h₁ s₂.heap.objs.size #[] 0 := hk31 _ _ (Heap.get?_push_size _ rfl)
  have hk : ∀ b o, s₂.heap.get? b = some o → h₁.get? b = some o := fun b o e => hk31 b o (Heap.get?_push_of_some _ e)
  clear hk31 hsb
  generalize s₂.heap.objs.size + 1 = c at hC hDC hns ⊢
  generalize s₂.heap.objs.size = D at hD hDC hL4 ⊢
  have old : ∀ a, s₂.heap.get? a = none → s.heap.get? a = none := S2.older
  have hits : ∃ o, s₂.heap.get? it' = some o := by
    obtain ⟨_, o, e, _⟩ := (src_it (C := C) (F := F) Sf.handled tg it').live _ _ _ hJ it' (List.mem_singleton.mpr rfl)
    exact ⟨o, e⟩
  have hne : ∀ a, s₂.heap.get? a = none → a ∉ [it'] := fun a e q => by
    obtain ⟨o, e'⟩ := hits
    rw [List.mem_singleton.mp q, e'] at e; injection e
  have X := src_it (C := C) (F := Fk F sc slots caps c) Sf.handled tg it'
  have S3 : Step NoX μ s₂ μ { s₂ with heap := h₁, toks := s₂.toks + ([] : List (Str × Value)).length } := Step.keep μ hk _
  have hcl : ∀ p ∈ clos F.env sc.names [], F.env.cells.lookup p.1 = some p.2 := clos_mem F.env sc.names [] K.free fun _ h => by exact absurd h List.not_mem_nil
  have R4 : FR C (Fk F sc slots caps c) μ (caps.map (fun q => (l[q.2]?).getD none) ++ List.replicate slots.length none) h₁ := by
    obtain ⟨m, hn, hm⟩ := R2.ns
    refine ⟨⟨_, hns, fun i x v hi hl => ?_⟩, I2.free hC, base_none I2 hC, by rw [List.length_append, List.length_append, List.length_map, List.length_map, List.length_replicate], fun q hq => ?_, (R2.step0 S3).frs⟩
    · rcases Nat.lt_or_ge i caps.length with hlt | hge
      · rw [List.getElem?_append_left (by rw [List.length_map]; exact hlt), List.getElem?_map] at hl
        have hi : (caps.map (·.1) ++ slots)[i]? = some x := hi
        rw [List.getElem?_append_left (by rw [List.length_map]; exact hlt), List.getElem?_map] at hi
        obtain ⟨q, hq, rfl⟩ := Option.map_eq_some_iff.mp hi
        rw [hq] at hl
        have hl : (l[q.2]?).getD none = some v := by simpa using hl
        have hl : l[q.2]? = some (some v) := by
          cases e : l[q.2]? with
          | none => rw [e] at hl; injection hl
          | some y => rw [e] at hl; exact congrArg some hl
        have W := K.caps q (List.mem_of_getElem? hq)
        obtain ⟨rv, hat, Vv⟩ := hm q.2 q.1 v W.slot hl
        obtain ⟨c0, hc0, hv0⟩ := At.cell W.out hat
        obtain ⟨c1, hc1⟩ := clos_key F.env sc.names [] (.inl W.free)
        obtain ⟨c2, hc2, hm2⟩ := key_lookup hc1
        have e2 := hcl _ hm2
        have e2 : F.env.cells.lookup q.1 = some c2 := e2
        rw [hc0] at e2; (injection e2 with j1; subst j1)
        refine ⟨rv, ?_, Vv.step0 S3⟩
        unfold At
        rw [show (Fk F sc slots caps c).env.kindOf q.1 = some .cell from W.in_]
        exact ⟨c0, hc2, hv0.keeps hk⟩
      · rw [List.getElem?_append_right (by rw [List.length_map]; exact hge), List.getElem?_replicate] at hl
        split at hl <;> (first | (injection hl; done) | (injection hl with j1; injection j1; done))
    · obtain ⟨y, hy, e⟩ := lookup_mem (hcl q hq)
      obtain ⟨c1, c2, c3, w, c4⟩ := R2.cell y hy
      rw [e] at c1 c2 c4
      refine ⟨c1, c2, fun q' => ?_, w, c4.keeps hk⟩
      obtain ⟨o, e', _⟩ := c4
      have : q.2 = c := q'
      rw [this, hC] at e'; injection e'
  have hJ4 : JI it' μ h₁ i := X.move μ s₂.heap i μ h₁ hJ (fun _ _ h => h) fun b q => ⟨by rw [List.mem_singleton.mp q]; exact hJ.2, fun o e => hk b o e⟩
  have loop := comp_loop (RR := RR (.ref D) c) (it := py it) (sc := sc) (p := p) (s := { s₂ with heap := h₁, toks := s₂.toks + ([] : List (Str × Value)).length }) (D := D) X (htg c) (hifs c) (helt c) I (one hit) (old D hD) (hne D hD) (one ⟨old c hC, hne c hC, hDC⟩) (Sf.comp K c) hb (fun s h => fin D c s (old D hD) (old c hC) hDC h) N
    (.mk μ _ H i [] #[] 0 (S2.trans0 S3) (I2.keep hk) R4 hJ4 (I2.free hD) hL4 (by simp only [VRs]) (Nat.zero_le _) hr)
  refine codeAny_compStart_list loop ?_
  induction i using Mine.It.casesOn with
  | list r k => obtain ⟨q, _, hq⟩ := hJ4.1; exact wpAny_pyIter_listiter hq loop
  | rng x y => obtain ⟨left, hq, _⟩ := hJ4.1; exact wpAny_pyIter_rangeiter hq loop
end
end Mine
end
section
namespace Mine
open PySem PySem.W PySem.Calls PyProof.Rows
section
variable {α β γ : Type} {C : Cx} {P : P0} {F : Fm} {call : Nat → List AV → AH → Out AV} {N : Nat} {μ : Mu} {H : AH} {s : Shared} {l : Loc} {d : Nat}
theorem adopt_list {X : Addr → Prop} {μ' : Mu} {H' : AH} {s' : Shared} {D : Addr} {xs : List AV} {vs : Array Value} {n : Nat} (S : Step X μ s μ' s') (I : Inv C μ' H' s'.heap) (hD : s.heap.get? D = none) (bD : C.base.get? D = none) (ho : ¬ Own μ' D) (hL : IsL s'.heap D vs n)
    (hV : VRs C μ' s'.heap xs vs.toList) (hlen : xs.length ≤ big) : Step X μ s (μ' ++ [(D, D)]) s' ∧ Inv C (μ' ++ [(D, D)]) (H' ++ [.list xs]) s'.heap ∧ VR C (μ' ++ [(D, D)]) s'.heap (.ref H'.length) (.ref D) ∧ ∀ a v, VR C μ' s'.heap a v → VR C (μ' ++ [(D, D)]) s'.heap a v := by
  have V : ∀ a v, VR C μ' s'.heap a v → VR C (μ' ++ [(D, D)]) s'.heap a v := fun a v =>
    VR.mono (fun i p h => by rw [List.getElem?_append_left (List.getElem?_eq_some_iff.mp h).1]; exact h) (fun b o e hn hp => ⟨fun q => by
      obtain ⟨p, hp', q⟩ := q
      rcases List.mem_append.mp hp' with hp' | hp'
      · exact hn ⟨p, hp', q⟩
      · obtain rfl := List.mem_singleton.mp hp'
        have : b = D := q.elim id id
        subst this
        rw [hL] at e; (injection e with j1; subst j1)
        exact hp (.inr (.inr (by simp))), o.slots, e, fun _ => rfl⟩) a
  refine ⟨⟨?_, fun a q => ?_, S.live, S.kept, S.gens, S.os⟩, Inv.adopt (p := (D, D)) I ho ho bD bD V (by
    simp only [OR]
    exact ⟨trivial, hlen, vs, n, hL, VRs.of V _ hV⟩), ?_, V⟩
  · obtain ⟨t, e⟩ := S.pre
    exact ⟨t ++ [(D, D)], by rw [e, List.append_assoc]⟩
  · obtain ⟨p, hp, q⟩ := q
    rcases List.mem_append.mp hp with hp | hp
    · exact S.fresh a ⟨p, hp, q⟩
    · obtain rfl := List.mem_singleton.mp hp
      have : a = D := q.elim id id
      exact .inr (this ▸ hD)
  · simp only [VR]
    exact ⟨(D, D), by rw [← I.len]; simp, rfl⟩
theorem CD.off {F' : Fm} {D : Addr} {r0 : Out (List AV)} {s' : Shared} (h : CD C F' D μ s r0 s') : ∃ m, s'.heap.Ns F'.env.locals m := by
  obtain ⟨_, _, _, _, _, _, _, _, ⟨⟨m, hn, _⟩, _⟩, _⟩ := h
  exact ⟨m, hn⟩
theorem se_comp (Sf : FS F d) {elt it : E} {tg : T} {ifs : List E} {sc : Scope} {slots : List Str} {caps : List (Str × Nat)} {p : Pos} (K : ScOk F sc slots caps) (hit : SE C P F call N it)
    (htg : ∀ c, TT C P (Fk F sc slots caps c) call N tg) (hifs : ∀ c, STs C P (Fk F sc slots caps c) call N ifs) (helt : ∀ c, SE C P (Fk F sc slots caps c) call N elt) : SE C P F call N (.comp elt tg it ifs sc slots caps p) := fun μ H s l I R => by
  have ecap : (caps.map (·.2)).map (fun j => (l[j]?).getD none) = caps.map fun q => (l[q.2]?).getD none := by rw [List.map_map]; rfl
  have ee : evE P call N (st C.gt (.comp elt tg it ifs sc slots caps p)) l H = (evE P call N (st C.gt it) l H).bind fun v H => match iterOf H v with
    | some i => (compGo (tgV (stT C.gt tg)) (fun l H => evIfs P call N (sts C.gt ifs) l H) (fun l H => evE P call N (st C.gt elt) l H) N i ((caps.map (·.2)).map (fun j => (l[j]?).getD none) ++ List.replicate slots.length none) H []).bind fun xs H => .ok (.ref H.length) (H ++ [.list xs])
    | none => .bad := rfl
  rw [ee, ecap]
  intro hb Q E Po
  show wpAny _ _ (eval (.ListComp (py elt) [⟨pyT tg, py it, pys ifs, 0⟩] sc p) F.env) Q E s
  rw [eval_ListComp]
  refine wpAny_comprehension_free (use := none) rfl (folded_py it F.env) (closure_eq K.free) K.kind K.names (WE.bind (hit μ H s l I R) hb Po fun μ₁ a H₁ v s₁ e1 S1 I1 V1 hb1 Po1 => ?_)
  cases hi : iterOf H₁ a with
  | none => rw [hi] at hb1; exact absurd rfl hb1
  | some i =>
    rw [hi] at Po1 hb1
    dsimp only at Po1 hb1
    refine comp_block (it := it) (p := p) (RR := fun acc c => compPost (model C.prog C.w) F.A E none Q acc c) Sf K htg hifs helt I1 (R.step0 S1) V1 hi rfl (fun q => hb1 (by rw [q]; rfl)) fun D c s₂ hD hC hDC h => ?_
    obtain ⟨m, hns⟩ := h.off
    obtain ⟨μ₂, l₂, H₂, xs, vs, n, S2, I2, R2, hoD, hL, hV, hlen, e2⟩ := h
    rw [e2] at Po1
    refine ⟨m, hns, fun h' hs' => ?_⟩
    obtain ⟨o, es, ep, hoC', hdC, _⟩ := id hns
    have hx : ExtN [c] s₂.heap h' := fun b o q => hs'.extBut b o fun z => q (List.mem_singleton.mpr z)
    have pl : ∀ b ∈ [c], ∃ o, s₂.heap.get? b = some o ∧ Plainly o := one ⟨o, hoC', .inl ⟨es, ep, hdC⟩⟩
    obtain ⟨S3, I3⟩ := ext_inv (wr := [c]) I2 S2 (one hC) (one R2.new) (one R2.off) pl hx s₂.toks
    obtain ⟨S4, I4, V4, _⟩ := adopt_list S3 I3 hD (base_none I1 hD) hoD (hs'.extBut D _ hDC hL) (VRs.of (VR.ext pl hx) _ hV) hlen
    exact Po1.ok _ _ _ _ _ rfl S4 I4 V4
structure SwOk (F : Fm) (x : Str) (xp p : Pos) (sc : Scope) : Prop where
  line : xp.line = p.line
  own : (sc.names.any fun (n, k) => n == x && (k == .local || k == .cell)) = false
theorem blk (Sf : FS F d) : F.env.blockKind = .function := by
  unfold Env.blockKind
  rw [Sf.kind]; rfl
theorem swapsWith_comp (Sf : FS F d) {elt it : E} {tg : T} {ifs : List E} {sc : Scope} {slots : List Str} {caps : List (Str × Nat)} {p xp sp : Pos} {x : Str} (hk : F.env.scope.names.lookup x = some .local) (W : SwOk F x xp p sc) :
    swapsWith (py (.comp elt tg it ifs sc slots caps p)) (some (.Name x xp)) sp.line F.env = pure true := by
  have h3 : (F.env.blockKind == ScopeKind.function) = true := by rw [blk Sf]; rfl
  have h4 : (F.env.kindOf x == some NameKind.local) = true := by rw [show F.env.kindOf x = some .local from hk]; rfl
  have h5 : (xp.line == p.line) = true := by rw [W.line]; exact beq_self_eq_true _
  show (pure (F.env.blockKind == .function && F.env.kindOf x == some .local && xp.line == p.line && !(sc.names.any fun (n, k) => n == x && (k == .local || k == .cell))) : Sem Bool) = pure true
  rw [W.own, h3, h4, h5]; rfl
theorem own_app {D a : Addr} (h : Own (μ ++ [(D, D)]) a) : Own μ a ∨ a = D := by
  obtain ⟨p, hp, q⟩ := h
  rcases List.mem_append.mp hp with hp | hp
  · exact .inl ⟨p, hp, q⟩
  · obtain rfl := List.mem_singleton.mp hp
    exact .inr (q.elim id id)
theorem ss_comp (Sf : FS F d) {elt it : E} {tg : T} {ifs : List E} {sc : Scope} {slots : List Str} {caps : List (Str × Nat)} {x : Str} {j : Nat} {p xp sp : Pos} (hj : F.slots[j]? = some x) (hk : F.env.scope.names.lookup x = some .local) (W : SwOk F x xp p sc) (K : ScOk F sc slots caps) (hit : SE C P F call N it)
    (htg : ∀ c, TT C P (Fk F sc slots caps c) call N tg) (hifs : ∀ c, STs C P (Fk F sc slots caps c) call N ifs) (helt : ∀ c, SE C P (Fk F sc slots caps c) call N elt) : SS C P F call N (.asg (.name x j xp) (.comp elt tg it ifs sc slots caps p) sp) := fun μ H s l I R => by
  have ecap : (caps.map (·.2)).map (fun j => (l[j]?).getD none) = caps.map fun q => (l[q.2]?).getD none := by rw [List.map_map]; rfl
  have hev : evS P call N (stS C.gt (.asg (.name x j xp) (.comp elt tg it ifs sc slots caps p) sp)) l H = (evE P call N (st C.gt it) l H).thenS l fun v H => match iterOf H v with
      | some i => ((compGo (tgV (stT C.gt tg)) (fun l H => evIfs P call N (sts C.gt ifs) l H) (fun l H => evE P call N (st C.gt elt) l H) N i ((caps.map (·.2)).map (fun j => (l[j]?).getD none) ++ List.replicate slots.length none) H []).bind fun xs H => .ok (.ref H.length) (H ++ [.list xs])).thenS l fun v H => (asT P call N (.name j) v l H).so l
      | none => .bad := by
    show ((evE P call N (st C.gt it) l H).bind fun v H => match iterOf H v with
      | some i => (compGo (tgV (stT C.gt tg)) (fun l H => evIfs P call N (sts C.gt ifs) l H) (fun l H => evE P call N (st C.gt elt) l H) N i ((caps.map (·.2)).map (fun j => (l[j]?).getD none) ++ List.replicate slots.length none) H []).bind fun xs H => .ok (AV.ref H.length) (H ++ [AObj.list xs])
      | none => .bad).thenS l _ = _
    cases evE P call N (st C.gt it) l H with
    | ok v H1 =>
      show Out.thenS (match iterOf H1 v with
        | some i => (compGo (tgV (stT C.gt tg)) (fun l H => evIfs P call N (sts C.gt ifs) l H) (fun l H => evE P call N (st C.gt elt) l H) N i ((caps.map (·.2)).map (fun j => (l[j]?).getD none) ++ List.replicate slots.length none) H1 []).bind fun xs H => (.ok (AV.ref H.length) (H ++ [AObj.list xs]) : Out AV)
        | none => .bad) l _ = (match iterOf H1 v with
        | some i => _
        | none => .bad)
      cases iterOf H1 v <;> rfl
    | _ => rfl
  rw [hev, ecap]
  intro hb Q E Po
  show wpAny _ _ (exec (.Assign [.Name x xp] (py (.comp elt tg it ifs sc slots caps p)) sp) F.env) Q E s
  rw [exec_Assign_Name_used _ _ _ _ (swapsWith_comp Sf hk W)]
  refine wpAny_bind (wpAny_standAt (wpAny_bind ?_))
  show wpAny _ F.A (do let _ ← comprehension (.ListComp (py elt) [⟨pyT tg, py it, pys ifs, 0⟩] sc p) sc F.env _ (newList []) false (eval (py it) F.env) (some (assign (.Name x xp) F.env))) _ _ s
  refine wpAny_bind (wpAny_mono (wpAny_comprehension_free (use := some (assign (.Name x xp) F.env)) (Q := fun _ s' => Q .next s') rfl (folded_py it F.env) (closure_eq K.free) K.kind K.names ?_)
    (fun _ s' hq => wpAny_pure (wpAny_pure hq)) fun _ _ e => e)
  refine WE.thenS (hit μ H s l I R) R hb Po fun μ₁ a H₁ v s₁ S1 I1 R1 V1 hb1 Po1 => ?_
  cases hi : iterOf H₁ a with
  | none => rw [hi] at hb1; exact absurd rfl hb1
  | some i =>
    rw [hi] at Po1 hb1
    dsimp only at Po1 hb1
    refine comp_block (it := it) (p := p) (RR := fun acc c => compPost (model C.prog C.w) F.A E (some (assign (.Name x xp) F.env)) (fun _ s' => Q .next s') acc c) Sf K htg hifs helt I1 R1 V1 hi rfl (fun q => hb1 (by rw [q]; rfl)) fun D c s₂ hD hC hDC h => ?_
    obtain ⟨m, hns⟩ := h.off
    obtain ⟨μ₂, l₂, H₂, xs, vs, n, S2, I2, Rc, hoD, hL, hV, hlen, e2⟩ := h
    rw [e2] at hb1 Po1
    obtain ⟨S3, I3, V3, VV⟩ := adopt_list S2 I2 hD (base_none I1 hD) hoD hL hV hlen
    have hold : ∀ a o, s₁.heap.get? a = some o → a ≠ D := fun a o e q => by rw [q, hD] at e; injection e
    have R3 : FR C F (μ₂ ++ [(D, D)]) l s₂.heap := by
      have R2 := R1.step0 S2
      obtain ⟨⟨m, hn, hv⟩, off, new, len, cell, frs⟩ := R2
      refine ⟨⟨m, hn, fun i x v hi hl => ?_⟩, fun q => (own_app q).elim off ?_, new, len, fun p hp => ?_, frs.moved fun L hL hno o es n e hd => ⟨fun q => (own_app q).elim hno ?_, o, es, n, e, hd⟩⟩
      · obtain ⟨rv, e, W⟩ := hv i x v hi hl
        exact ⟨rv, e, VV _ _ W⟩
      · obtain ⟨oL, eL⟩ := R1.there
        exact hold _ _ eL
      · obtain ⟨c1, c2, c3, w, c4⟩ := cell p hp
        obtain ⟨_, _, _, _, o, eo, _⟩ := R1.cell p hp
        exact ⟨fun q => (own_app q).elim c1 (hold _ _ eo), c2, c3, w, c4⟩
      · obtain ⟨_, o, _, _, eo, _⟩ := R1.frs.each L hL
        exact hold _ _ eo
    have hb2 : ((match setLoc l j (.ref H₂.length) with | some l => (.ok l (H₂ ++ [AObj.list xs]) : Out Loc) | none => .bad).so l) ≠ .bad := hb1
    have Po2 : PostS C F μ₁ s₁ ((match setLoc l j (.ref H₂.length) with | some l => (.ok l (H₂ ++ [AObj.list xs]) : Out Loc) | none => .bad).so l) Q E := Po1
    cases e : setLoc l j (.ref H₂.length) with
    | none => rw [e] at hb2; exact absurd rfl hb2
    | some l' =>
      rw [e] at Po2
      refine wpAny_assign_Name (store_loc Sf hj hk I3 R3 V3 e fun s₄ S4 I4 R4 => ?_)
      obtain ⟨o, es, ep, hoC', hdC, _⟩ := id hns
      have hoC' : s₂.heap.get? c = some o := hoC'
      have hoC3 : ¬ Own (μ₂ ++ [(D, D)]) c := fun q => (own_app q).elim Rc.off (Ne.symm hDC)
      have hcL : F.env.locals ≠ c := fun q => by
        obtain ⟨oL, eL⟩ := R1.there
        rw [q, hC] at eL; injection eL
      have hcC : ∀ p ∈ F.env.cells, p.2 ≠ c := fun y hy q => by
        obtain ⟨_, _, _, _, o', eo, _⟩ := R1.cell y hy
        rw [q, hC] at eo; injection eo
      have hcw : ¬ LX F c := fun q => by
        rcases Sf.wrs c q with q | ⟨y, hy, q⟩
        · exact hcL q.symm
        · exact hcC y hy q.symm
      obtain ⟨sl, eC4, _⟩ := S4.kept c o hoC' hoC3 hcw
      refine ⟨m, ns_slots hns fun o2 q => ⟨sl, ?_⟩, fun h' hs' => ?_⟩
      · have q' : s₂.heap.get? c = some o2 := q
        rw [hoC'] at q'; (injection q' with j1; subst j1)
        exact eC4
      · obtain ⟨S5, I5, R5⟩ := ext_core (wr := [c]) I4 R4 ((lx (X := LX F) S3).trans0 S4) (one hC) (one Rc.new) (one hoC3) (one ⟨_, eC4, .inl ⟨es, ep, hdC⟩⟩) (fun q => hcL (List.mem_singleton.mp q)) (fun p hp q => hcC p hp (List.mem_singleton.mp q))
          (fun L hL q => by
            obtain ⟨_, o', _, _, eo, _⟩ := R1.frs.each L hL
            rw [List.mem_singleton.mp q, hC] at eo; injection eo) (fun b o q => hs'.extBut b o fun z => q (List.mem_singleton.mpr z)) s₄.toks
        exact Po2.ok _ _ _ _ _ _ rfl S5 I5 R5 rfl
end
end Mine
end
section
namespace Mine
open PySem PySem.W PySem.Calls PyProof.Rows
section
variable {α β γ : Type} {C : Cx} {P : P0} {F : Fm} {call : Nat → List AV → AH → Out AV} {N : Nat} {μ : Mu} {H : AH} {s : Shared} {l : Loc} {d : Nat}
noncomputable def swNames (ts : List Expr) (sc : Scope) : List Str := ts.filterMap fun
    | .Name id pos => if sc.names.lookup id == some .local && pos.line == (ts.head?.map (·.pos.line)).getD 0 then some id else none
    | _ => none
noncomputable def lenOdd (ts : List Expr) (vs : List Expr) : Bool := !(ts.length == 2 || ts.length == 3) || vs.length != ts.length
noncomputable def namesOdd (ts : List Expr) (sc : Scope) : Bool := (swNames ts sc).length != ts.length || (swNames ts sc).eraseDups.length != (swNames ts sc).length
theorem star_py (e : E) : (match py e with | .Starred .. => true | _ => false) = false := by rcases e with _ | _ | _ | _ | _ | _ | _ | _ | _ | _ | _ | _ | _ | _ | _ | _ | _ | _ | _ | _ | _ | _ | _ | _ | _ <;> rfl
theorem not_starred : ∀ (es : List E), ((pys es).any fun | .Starred .. => true | _ => false) = false
  | [] => rfl
  | e :: r => by
    show ((match py e with | .Starred .. => true | _ => false) || (pys r).any fun | .Starred .. => true | _ => false) = false
    rw [not_starred r, show (match py e with | .Starred .. => true | _ => false) = false from star_py e]
    rfl
set_option tactic.hygienic true
theorem swap_none {ts : List Expr} {es : List E} {k k' : Nat} {p p' : Pos} (h : (lenOdd ts (pys es) || namesOdd ts F.env.scope || (pys es).all (foldedForSure 8)) = true) :
    swappedStores [.Tuple ts k p] (py (.tup es k' p')) F.env = pure none := by
  show swappedStores [.Tuple ts k p] (.Tuple (pys es) k' p') F.env = pure none
  unfold swappedStores
  dsimp only [bind_pure_comp, pure_bind]
  split
  · rfl
  · rename_i h1
    split
    · rfl
    · split
      · rfl
      · rename_i h3
        have h3' : ¬ namesOdd ts F.env.scope = true := h3
        split
        · rfl
        · rename_i h4
          exfalso
          have h1' : ¬ lenOdd ts (pys es) = true := fun q => h1 (by
            unfold lenOdd at q
            rw [q]; rfl)
          rcases Bool.or_eq_true _ _ ▸ h with h | h
          · rcases Bool.or_eq_true _ _ ▸ h with h | h
            · exact h1' h
            · exact h3' h
          · exact h4 h
set_option tactic.hygienic false
theorem swap_some (Sf : FS F d) {ts : List Expr} {es : List E} {k k' : Nat} {p p' : Pos} (h1 : lenOdd ts (pys es) = false) (h3 : namesOdd ts F.env.scope = false) (h4 : (pys es).all (foldedForSure 8) = false) (h5 : (pys es).all (constantsAlone 8) = false) :
    swappedStores [.Tuple ts k p] (py (.tup es k' p')) F.env = pure (some (swNames ts F.env.scope)) := by
  show swappedStores [.Tuple ts k p] (.Tuple (pys es) k' p') F.env = pure _
  unfold swappedStores
  dsimp only [bind_pure_comp, pure_bind]
  have h1' : (!(ts.length == 2 || ts.length == 3) || (pys es).length != ts.length || F.env.blockKind != .function) = false := by
    unfold lenOdd at h1
    rw [h1, blk Sf]; rfl
  rw [if_neg (by rw [h1']; decide), if_neg (fun q => by
    have q' : ((pys es).any fun | .Starred .. => true | _ => false) = true := q
    rw [not_starred] at q'; exact absurd q' Bool.false_ne_true), if_neg (fun q => by
    have : namesOdd ts F.env.scope = true := q
    rw [h3] at this; exact absurd this Bool.false_ne_true), if_neg (by rw [h4]; decide), if_neg (by rw [h5]; decide)]
  rfl
theorem bind_store (Sf : FS F d) {x : Str} {i : Nat} {a : AV} {v : Value} {l' : Loc} {Q : Unit → Shared → Prop} {E : Value → Shared → Prop} (hi : F.slots[i]? = some x) (hk : F.env.scope.names.lookup x = some .local) (I : Inv C μ H s.heap) (R : FR C F μ l s.heap) (V : VR C μ s.heap a v)
    (e : setLoc l i a = some l') (h : ∀ s', Step (LX F) μ s μ s' → Inv C μ H s'.heap → FR C F μ l' s'.heap → Q () s') : wpAny (model C.prog C.w) F.A (bindName F.env x v) Q E s :=
  PyProof.Rows.bindName_ (store_loc Sf hi hk I R V e h)
structure NmOk (F : Fm) (x : Str) (i : Nat) : Prop where
  slot : F.slots[i]? = some x
  loc : F.env.scope.names.lookup x = some .local
theorem NmOk.ne {x y : Str} {i j : Nat} (a : NmOk F x i) (b : NmOk F y j) (h : x ≠ y) : i ≠ j := fun q => h (by
  have e1 := a.slot; have e2 := b.slot
  rw [q, e2] at e1; (injection e1 with j1; subst j1); rfl)
noncomputable def nameOf : T → Option Str
  | .name x _ _ => some x
  | _ => none
noncomputable def tNames (ts : List T) : List Str := ts.filterMap nameOf
noncomputable def nmAt (sc : Scope) (slots : List Str) (x : Str) (i : Nat) : Bool := slots[i]? == some x && sc.names.lookup x == some .local
theorem nmAt_ok {x : Str} {i : Nat} (h : nmAt F.env.scope F.slots x i = true) : NmOk F x i := by
  obtain ⟨a, b⟩ := Bool.and_eq_true_iff.mp h
  exact ⟨beq_iff_eq.mp a, beq_iff_eq.mp b⟩
inductive Nms (F : Fm) : List T → Prop
  | nil : Nms F []
  | cons (x : Str) (i : Nat) (p : Pos) (ts : List T) (h : NmOk F x i) (hn : x ∉ tNames ts) (r : Nms F ts) : Nms F (.name x i p :: ts)
theorem Nms.len {ts : List T} (h : Nms F ts) : (tNames ts).length = ts.length := by
  induction h with
  | nil => rfl
  | cons x i p ts _ _ _ ih => exact congrArg (· + 1) ih
theorem tgs_set {ts : List T} (hN : Nms F ts) {x : Str} {i : Nat} {a : AV} (hx : NmOk F x i) : x ∉ tNames ts → ∀ {as : List AV} {l l' : Loc}, i < l.length → tgVs (stTs C.gt ts) as (l.set i (some a)) = some l' →
    ∃ l2, tgVs (stTs C.gt ts) as l = some l2 ∧ setLoc l2 i a = some l' := by
  induction hN with
  | nil =>
    intro hn as l l' hl e
    induction as using List.casesOn with
    | nil => (injection e with j1; subst j1); exact ⟨l, rfl, if_pos hl⟩
    | cons _ _ => injection e
  | cons y j p ts hy hn' _ ih =>
    intro hn as l l' hl e
    have hxy : x ≠ y := fun q => hn (q ▸ List.mem_cons_self)
    induction as using List.casesOn with
    | nil => injection e
    | cons b as =>
      obtain ⟨l1, e1, e2⟩ := Option.bind_eq_some_iff.mp (show (setLoc (l.set i (some a)) j b).bind (fun l => tgVs (stTs C.gt ts) as l) = some l' from e)
      obtain ⟨h1, rfl⟩ := setLoc_some e1
      rw [List.length_set] at h1
      rw [List.set_comm _ _ (hx.ne hy hxy)] at e2
      obtain ⟨l2, q1, q2⟩ := ih (fun q => hn (List.mem_cons_of_mem _ q)) (by rw [List.length_set]; exact hl) e2
      refine ⟨l2, ?_, q2⟩
      show (setLoc l j b).bind (fun l => tgVs (stTs C.gt ts) as l) = some l2
      rw [show setLoc l j b = some (l.set j (some b)) from if_pos h1]
      exact q1
theorem rev_store (Sf : FS F d) {ts : List T} (hN : Nms F ts) : ∀ {as : List AV} {vs : List Value} {l l' : Loc} {s : Shared}, tgVs (stTs C.gt ts) as l = some l' → Inv C μ H s.heap → FR C F μ l s.heap → VRs C μ s.heap as vs →
    ∀ (gs : List (Value → Sem Unit)) (us : List Value) (Q : Unit → Shared → Prop) (E : Value → Shared → Prop), (∀ s', Step (LX F) μ s μ s' → Inv C μ H s'.heap → FR C F μ l' s'.heap → wpAny (model C.prog C.w) F.A (assignInOrder gs us) Q E s') →
    wpAny (model C.prog C.w) F.A (assignInOrder ((tNames ts).reverse.map (fun n => bindName F.env n) ++ gs) (vs.reverse ++ us)) Q E s := by
  induction hN with
  | nil =>
    intro as vs l l' s e I R V gs us Q E h
    induction as using List.casesOn with
    | nil => (injection e with j1; subst j1); rw [vrs0 V]; exact h s .refl I R
    | cons _ _ => injection e
  | cons x i p ts hx hn _ ih =>
    intro as vs l l' s e I R V gs us Q E h
    induction as using List.casesOn with
    | nil => injection e
    | cons a as =>
      induction vs using List.casesOn with
      | nil => simp only [VRs] at V
      | cons v vs =>
        simp only [VRs] at V
        obtain ⟨l1, e1, e2⟩ := Option.bind_eq_some_iff.mp (show (setLoc l i a).bind (fun l => tgVs (stTs C.gt ts) as l) = some l' from e)
        obtain ⟨h1, rfl⟩ := setLoc_some e1
        obtain ⟨l2, q1, q2⟩ := tgs_set (by assumption) hx hn h1 e2
        rw [show tNames (.name x i p :: ts) = x :: tNames ts from rfl, List.reverse_cons, List.map_append, List.append_assoc, List.reverse_cons, List.append_assoc]
        refine ih q1 I R V.2 _ _ Q E fun s1 S1 I1 R1 => ?_
        exact wpAny_bind (wpAny_holding (bind_store Sf hx.slot hx.loc I1 R1 (V.1.step S1 (R.plain Sf)) q2 fun s2 S2 I2 R2 => h s2 (S1.trans0 S2) I2 R2))
theorem rev_store0 (Sf : FS F d) {ts : List T} (hN : Nms F ts) {as : List AV} {vs : List Value} {l' : Loc} (e : tgVs (stTs C.gt ts) as l = some l') (I : Inv C μ H s.heap) (R : FR C F μ l s.heap) (V : VRs C μ s.heap as vs)
    {Q : Unit → Shared → Prop} {E : Value → Shared → Prop} (h : ∀ s', Step (LX F) μ s μ s' → Inv C μ H s'.heap → FR C F μ l' s'.heap → Q () s') :
    wpAny (model C.prog C.w) F.A (assignInOrder ((tNames ts).reverse.map (fun n => bindName F.env n)) vs.reverse) Q E s := by
  have z := rev_store Sf hN e I R V [] [] Q E fun s' S3 I3 R3 => wpAny_pure (h s' S3 I3 R3)
  rwa [List.append_nil, List.append_nil] at z
theorem asTs_none {ts : List T} (hN : Nms F ts) : ∀ {as : List AV} {l : Loc}, tgVs (stTs C.gt ts) as l = none → asTs P call N (stTs C.gt ts) as l H = .bad := by
  induction hN with
  | nil =>
    intro as l e
    induction as using List.casesOn with
    | nil => injection e
    | cons _ _ => rfl
  | cons x i p ts hx hn _ ih =>
    intro as l e
    induction as using List.casesOn with
    | nil => rfl
    | cons a as =>
      have e : (setLoc l i a).bind (fun l => tgVs (stTs C.gt ts) as l) = none := e
      show Out.nx (match setLoc l i a with | some l => (.ok l H : Out Loc) | none => .bad) (fun l H => asTs P call N (stTs C.gt ts) as l H) = .bad
      cases q : setLoc l i a with
      | none => rfl
      | some l1 => rw [q] at e; exact ih e
theorem asT_tup {ts : List T0} {a : AV} {l l' : Loc} (h : (asT P call N (.tup ts) a l H).so l' ≠ .bad) : ∃ as, a = .tup as := by
  induction a using AV.casesOn with
  | tup as => exact ⟨as, rfl⟩
  | _ => exact absurd rfl h
theorem ss_swap {ts : List T} {es : List E} {k k' : Nat} {p p' sp : Pos} (Sf : FS F d) (hsw : swappedStores [pyT (.tup ts k p)] (py (.tup es k' p')) F.env = pure (some (tNames ts))) (he : SE C P F call N (.tup es k' p')) (hN : Nms F ts) : SS C P F call N (.asg (.tup ts k p) (.tup es k' p') sp) := fun μ H s l I R => by
  show WS C F _ ((evE P call N (st C.gt (.tup es k' p')) l H).thenS l fun v H => (asT P call N (.tup (stTs C.gt ts)) v l H).so l) μ s
  intro hb Q E Po
  refine PyProof.Rows.Assign_Tuple_swapped (elts := pyTs ts) (names := tNames ts) (WE.thenS (he μ H s l I R) R hb Po fun μ₁ a H₁ v s₁ S1 I1 R1 V1 hb1 Po1 => ?_) rfl hsw
  obtain ⟨as, rfl⟩ := asT_tup hb1
  have hb2 : (Out.so (if (stTs C.gt ts).length = as.length then asTs P call N (stTs C.gt ts) as l H₁ else .bad) l) ≠ .bad := hb1
  have Po2 : PostS C F μ₁ s₁ (Out.so (if (stTs C.gt ts).length = as.length then asTs P call N (stTs C.gt ts) as l H₁ else .bad) l) Q E := Po1
  by_cases hle : (stTs C.gt ts).length = as.length
  · rw [if_pos hle] at hb2 Po2
    obtain ⟨t, items, rfl, ht, hv, hl, ho⟩ := tuple_of V1
    have hz := hv.len
    simp only [Array.length_toList] at hz
    rw [stTs_len] at hle
    rw [hN.len, hle, hz]
    refine PyProof.Rows.unpackItems_tuple Sf.handled ht fun h' hx' => ?_
    have S2 : Step NoX μ₁ s₁ μ₁ { s₁ with heap := h' } := Step.keep μ₁ (fun b o e => hx' b o (Nat.ne_of_lt (Heap.lt_size e)) e) s₁.toks
    have I2 : Inv C μ₁ H₁ h' := I1.keep fun b o e => hx' b o (Nat.ne_of_lt (Heap.lt_size e)) e
    cases e : tgVs (stTs C.gt ts) as l with
    | none => rw [asTs_none hN e] at hb2; exact absurd rfl hb2
    | some l' =>
      rw [asTs_of _ _ _ _ _ e] at Po2
      exact rev_store0 (s := { s₁ with heap := h' }) Sf hN e I2 (R1.step0 S2) (VRs.step0 S2 hv) fun s' S3 I3 R3 => Po2.ok μ₁ _ l' H₁ _ s' rfl ((lx S2).trans0 S3) I3 R3 rfl
  · rw [if_neg hle] at hb2; exact absurd rfl hb2
end
end Mine
end
section
namespace Mine
open PySem PySem.W PySem.Calls PyProof.Rows
theorem lk_number : typeLookup (.type "Exception") "number" = pure none := by rw [typeLookup_type, builtinLookup_eq_fast]; kernel_rfl
theorem lk_told : typeLookup (.type "Exception") "told" = pure none := by rw [typeLookup_type, builtinLookup_eq_fast]; kernel_rfl
theorem lk_setattr : typeLookup (.type "Exception") "__setattr__" = pure (some (.builtin "object.__setattr__")) := by rw [typeLookup_type, builtinLookup_eq_fast]; kernel_rfl
structure ExD where
  nm : Str
  q : Str
  N : Addr
  bs : List Value
  sn : List Str
  sub : List Value
  ab : Bool
  col : Option Bool
  dd : Option Addr
  k0 : Option Value
  k1 : Option Value
  k2 : Option Value
  k3 : Option Value
  k5 : Option Value
  mN : Str → Option Value
noncomputable abbrev bmX : List Value := [.type "Exception", .type "BaseException", .type "object"]
structure ExCl (C : Addr) (D : ExD) (h : Heap) : Prop where
  at_ : h.get? C = some (excClassObj D.nm D.q C D.N D.bs bmX true D.sn D.sub D.ab D.col D.dd D.k0 D.k1 D.k2 D.k3 D.k5 "Exception.__new__")
  ns : h.Ns D.N D.mN
  ga : D.mN "__getattribute__" = none
  gt : D.mN "__getattr__" = none
  sa : D.mN "__setattr__" = none
  nu : D.mN "number" = none
  to : D.mN "told" = none
section
variable {prog : Program} {w : World} {A : Around} {E : Value → Shared → Prop} {h : Heap} {g : Array GenState} {d : Drawn} {t : Nat} {os : OsState} {a ad C : Addr} {o : Obj} {D : ExD} {m : Str → Option Value} {v : Value}
theorem ex_look {n : Str} {y : Option Value} {Q : Option Value → Shared → Prop} (X : ExCl C D h) (hq : D.mN n = none) (hB : typeLookup (.type "Exception") n = pure y) (h0 : Q y ⟨h, g, d, t, os⟩) : wpAny (model prog w) A (typeLookup (.ref C) n) Q E ⟨h, g, d, t, os⟩ := by
  refine wpAny_typeLookup_exc X.at_ X.ns PySem.F.excBase_Exception.mroIs hB ?_
  rw [hq]; exact h0
noncomputable abbrev exObj (C ad : Addr) (vs : Array Value) (sl : Array (Option Value)) : Obj := { cls := .ref C, dict := some ad, data := .fields vs, slots := sl }
variable {vs : Array Value} {sl : Array (Option Value)}
theorem ex_inst {b : Bool} {Q : Option Addr → Shared → Prop} (X : ExCl C D h) (hx : h.get? a = some (exObj C ad vs sl)) (hq : Q (some ad) ⟨h, g, d, t, os⟩) : wpAny (model prog w) A (instanceDict a b) Q E ⟨h, g, d, t, os⟩ := by
  have hC := X.at_
  unfold instanceDict
  refine wpAny_bind (wpAny_loadPart_at hx ?_)
  show wpAny _ _ (classData C >>= _) _ _ _
  unfold classData
  refine wpAny_bind (wpAny_bind (wpAny_load hC (wpAny_pure ?_)))
  exact wpAny_pure hq
theorem ex_entry {tk : Tok} {Q : Fin → Shared → Prop} (X : ExCl C D h) (hx : h.get? a = some (exObj C ad vs sl)) (hN : h.Ns ad m) (hm : m "number" = some v) (hv : handedIn v = true) (hq : Q (.done (.ret v)) ⟨h, g, d, t, os⟩) :
    wpAny (model prog w) A (Builtin.«object.__getattribute__» ⟨[.ref a, .str "number" tk], []⟩) Q E ⟨h, g, d, t, os⟩ := by
  have hC := X.at_
  have hl : ∀ {Q' : Option Value → Shared → Prop} {E'}, Q' (some v) ⟨h, g, d, t, os⟩ → wpAny (model prog w) A (nsGet ad "number") Q' E' ⟨h, g, d, t, os⟩ := fun q => wpAny_nsGet hN (by rw [hm]; exact q)
  repeat (any_goals (first | assumption | with_reducible refine wpAny_loadPart_at hx ?_ | with_reducible refine ex_look X X.nu lk_number ?_ | (with_reducible refine ex_inst X hx ?_) | with_reducible refine hl ?_ | wp_step))
theorem ex_by {tk tv : Tok} {iv : Int} {fill expr : Bool} {Q : Value → Shared → Prop} (X : ExCl C D h) (hx : h.get? a = some (exObj C ad vs sl)) (hN : h.Ns ad m) (hm : m "number" = some (.int iv tv)) (hq : Q (.int iv tv) ⟨h, g, d, t, os⟩) :
    wpAny (model prog w) A (getAttrBy (.ref a) (.str "number" tk) fill expr) Q E ⟨h, g, d, t, os⟩ := by
  have f3 := PySem.F.attrBase_Exception.ga.bind (.ref a)
  have hx0 : (expr && onTheHeap (Value.builtin "BaseException.__getattribute__")) = false := by induction expr using Bool.casesOn <;> rfl
  have hx2 : (Value.builtin "BaseException.__getattribute__" == Value.builtin "object.__getattribute__") = false := by decide +kernel
  have hx1 : (onTheHeap (Value.ref C) && Value.builtin "BaseException.__getattribute__" == Value.builtin "object.__getattribute__") = false := by rw [hx2]; rfl
  repeat (any_goals (first | assumption | with_reducible refine wpAny_loadPart_at hx ?_ | with_reducible refine ex_look X X.ga PySem.F.attrBase_Exception.ga.lookup ?_ | with_reducible refine ex_look X X.gt PySem.F.attrBase_Exception.noGetattr ?_ | wp_step))
  refine codeAny_call_builtin PySem.F.attrBase_Exception.ga.plain F.entry_bexc_ga (wpAny_check_ga_own PySem.F.attrBase_Exception X.at_ .base hx rfl (ex_entry X hx hN hm rfl ?_))
  repeat (any_goals (first | assumption | wp_step))
theorem ex_attr {expr : Bool} {iv : Int} {tv : Tok} {Q : Value → Shared → Prop} (X : ExCl C D h) (hx : h.get? a = some (exObj C ad vs sl)) (hN : h.Ns ad m) (hm : m "number" = some (.int iv tv)) (hq : Q (.int iv tv) ⟨h, g, d, t + 1, os⟩) :
    wpAny (model prog w) A (getAttr (.ref a) "number" expr) Q E ⟨h, g, d, t, os⟩ := by
  unfold getAttr
  repeat (any_goals (first | assumption | with_reducible apply ex_by X hx hN hm | wp_step))
end
end Mine
end
section
set_option maxHeartbeats 0
namespace Mine
open PySem PySem.W PySem.Calls PyProof.Rows
section
variable {prog : Program} {w : World} {A : Around} {E : Value → Shared → Prop} {h : Heap} {g : Array GenState} {d : Drawn} {t : Nat} {os : OsState} {a ad C x so : Addr} {o : Obj} {D : ExD} {m : Str → Option Value} {v : Value}
theorem own_exc_init : classOwn (.type "Exception") "__init__" = pure (some (.builtin "Exception.__init__")) := by kernel_rfl
theorem slot_wd_get : Slot "wrapper_descriptor" "__get__" "wrapper_descriptor.__get__" := .of (owner := "wrapper_descriptor") (n := "__get__") (by rw [typeLookup_type, builtinLookup_eq_fast]; kernel_rfl) (by decide +kernel) (by decide +kernel) (by decide +kernel)
  (by first | exact .inl (by decide +kernel) | exact .inr (by decide +kernel)) (by rw [isSubtype_type]; kernel_rfl)
theorem entry_wd_get : entryFor table "wrapper_descriptor.__get__" = some Builtin.«wrapper_descriptor.__get__» := entryFor_of_tree (by kernel_rfl)
theorem args_wd_get (a b c : Value) : argsOk "wrapper_descriptor.__get__" ⟨[a, b, c], []⟩ := by unfold argsOk; kernel_rfl
theorem type_exc_init : typeOf (.builtin "Exception.__init__") = pure (.type "wrapper_descriptor") := by show builtinType _ = _; rw [builtinType_eq_fast]; kernel_rfl
theorem owner_exc_init : (".".intercalate ("Exception.__init__".cutAt '.').dropLast) = "Exception" := by decide +kernel
noncomputable abbrev mwObj (x : Addr) : Obj := { cls := .type "method-wrapper", data := .fields #[.builtin "Exception.__init__", .ref x] }
theorem su_ga {tk : Tok} {ox : Obj} {Q : Fin → Shared → Prop} (X : ExCl C D h) (hso : h.get? so = some { cls := .type "super", dict := none, data := .fields #[.ref C, .ref x, .ref C], slots := #[] }) (hx : h.get? x = some ox) (hxc : ox.cls = .ref C) (hxC : x ≠ C) (ho : Looks (model prog w) h (opaqueClassAbove (.ref C)) none)
    (hq : Q (.done (.ret (.ref h.objs.size))) ⟨h.push (mwObj x), g, d, t, os⟩) : wpAny (model prog w) A (Builtin.«super.__getattribute__» ⟨[.ref so, .str "__init__" tk], []⟩) Q E ⟨h, g, d, t, os⟩ := by
  have hC := X.at_
  have hne : (Value.ref x == Value.ref C) = false := by simp [hxC]
  have hdt : ({ cls := .type "super", dict := none, data := .fields #[.ref C, .ref x, .ref C], slots := #[] } : Obj).data = .fields #[.ref C, .ref x, .ref C] := rfl
  have f0 : (#[.ref C, .ref x, .ref C] : Array Value)[0]? = some (.ref C) := rfl
  have f1 : (#[.ref C, .ref x, .ref C] : Array Value)[1]? = some (.ref x) := rfl
  have f2 : (#[.ref C, .ref x, .ref C] : Array Value)[2]? = some (.ref C) := rfl
  have hl : (((Value.ref C :: bmX).dropWhile (· != .ref C)).drop 1) = bmX := by simp [List.dropWhile]
  have hT : (⟨h, g, d, t, os⟩ : Shared).TypeIs (.builtin "Exception.__init__") "wrapper_descriptor" := type_exc_init
  have hcB : (Value.ref C :: bmX).contains (.type (".".intercalate ("Exception.__init__".cutAt '.').dropLast)) = true := by rw [owner_exc_init, List.contains_cons]; rfl
  unfold Builtin.«super.__getattribute__»
  repeat (first
    | (with_reducible refine wpAny_field hso hdt f0 ?_) | (with_reducible refine wpAny_field hso hdt f1 ?_) | (with_reducible refine wpAny_field hso hdt f2 ?_)
    | (with_reducible refine ks_wpAny_notOpaque ho ?_)
    | (with_reducible refine wpAny_mroOf_exc hC ?_; rw [hl])
    | (simp only [hne, Bool.false_eq_true, if_false])
    | (with_reducible refine wpAny_bind ?_)
    | (with_reducible refine wpAny_askSetting ?_)
    | (with_reducible refine wpAny_pure ?_)
    | (show wpAny _ _ (forIn bmX _ _) _ _ _; rw [List.forIn_cons])
    | (rw [own_exc_init])
    | (with_reducible refine wpAny_typeOf hT ?_)
    | (with_reducible refine wpAny_of_eq slot_wd_get.lookup ?_)
    | (with_reducible refine wpAny_holding ?_)
    | (with_reducible refine wpAny_call_entry slot_wd_get hT entry_wd_get ?_ (args_wd_get _ _ _))
    | wp_step
    | dsimp only)
  rw [hxc]
  refine wpAny_isSubtype_exc hC ?_
  rw [hcB]
  unfold newFields
  repeat (first | (with_reducible refine wpAny_newObj_type ?_ (by size_fits)) | (with_reducible refine ⟨_, rfl, ?_⟩) | wp_step | dsimp only)
  all_goals exact hq
end
end Mine
end
section
set_option maxHeartbeats 1000000
namespace Mine
open PySem PySem.W PySem.Calls PyProof.Rows
section
variable {prog : Program} {w : World} {A : Around} {E : Value → Shared → Prop} {h : Heap} {g : Array GenState} {d : Drawn} {t : Nat} {os : OsState} {a ad C x so mw : Addr} {o ox : Obj} {D : ExD} {m : Str → Option Value} {v : Value}
theorem su_get {pl : Sem Bool} {Q : Value × List Value → Shared → Prop} (X : ExCl C D h) (hso : h.get? so = some { cls := .type "super", dict := none, data := .fields #[.ref C, .ref x, .ref C], slots := #[] }) (hx : h.get? x = some ox) (hxc : ox.cls = .ref C) (hxC : x ≠ C) (ho : Looks (model prog w) h (opaqueClassAbove (.ref C)) none)
    (hq : Q (.ref h.objs.size, []) ⟨h.push (mwObj x), g, d, t + 1, os⟩) : wpAny (model prog w) A (getMethod (.ref so) "__init__" pl) Q E ⟨h, g, d, t, os⟩ := by
  have hT : ∀ t', (⟨h, g, d, t', os⟩ : Shared).TypeIs (.ref so) "super" := fun _ => ⟨_, hso, rfl⟩
  have Sl := PySem.F.ks_slot_super_ga
  unfold getMethod getAttr getAttrBy
  repeat (first
    | (with_reducible refine wpAny_specialOf (hT _) Sl.lookup ?_)
    | (with_reducible refine wpAny_typeOf (hT _) ?_)
    | (with_reducible refine wpAny_of_eq Sl.lookup ?_)
    | (with_reducible refine wpAny_of_eq (Sl.bind _) ?_)
    | (refine wpAny_call_entry Sl (hT _) PySem.F.ks_entry_super_ga (su_ga X hso hx hxc hxC ho ⟨_, rfl, ?_⟩) (PySem.F.ks_gaArgs_super _ _))
    | rw [if_pos PySem.F.ks_canon_super_ga]
    | wp_step)
  exact hq
theorem mw_call {rest : List Value} {vs : Array Value} {Q : Value → Shared → Prop} (X : ExCl C D h) (hm : h.get? mw = some (mwObj x)) (hx : h.get? x = some ox) (hxc : ox.cls = .ref C) (hxd : ox.data = .fields vs) (h0 : 0 < vs.size) (hr : rest.length ≤ 10)
    (hq : ∀ h', h'.get? x = some { ox with data := .fields (vs.setIfInBounds 0 (.ref h.objs.size)) } → (∀ b o, b ≠ x → h.get? b = some o → h'.get? b = some o) → Q .none ⟨h', g, d, t, os⟩) :
    wpAny (model prog w) A (call (.ref mw) rest) Q E ⟨h, g, d, t, os⟩ := by
  have hC := X.at_
  refine wpAny_call (codeAny_of_tree ?_)
  show wpAny _ A.in1 (callAny (.ref mw) _) _ _ _
  unfold callAny
  refine wpAny_bind (wpAny_load hm ?_)
  show wpAny _ A.in1 (do checkBoundCall "Exception.__init__" ⟨.ref x :: rest, []⟩; again (.builtin "Exception.__init__" ⟨.ref x :: rest, []⟩)) _ _ _
  refine wpAny_bind ?_
  have hcB : (Value.ref C :: bmX).contains (.type "Exception") = true := by rw [List.contains_cons]; rfl
  unfold checkBoundCall
  repeat (first | (with_reducible refine wpAny_loadPart_at hx ?_; rw [hxc]) | (with_reducible refine wpAny_isSubtype_exc hC ?_; rw [hcB]) | wp_step)
  have fin : codeAny (model prog w) A (.builtin "Exception.__init__" ⟨.ref x :: rest, []⟩) (fun r s' => match r with | .ok (.ret v) => Q v s' | .ok _ => False | .error e => E e s') ⟨h, g, d, t, os⟩ := by
    refine codeAny_builtin PySem.F.excBase_Exception.initEntry ?_
    rw [Around.under_plainId PySem.F.excBase_Exception.init.plain _]
    have hsz : rest.toArray.size ≤ sizeLine := by rw [sizeLine_eq]; simp; lia
    have hx1 := Heap.get?_push_of_some (h := h) { cls := .type "tuple", dict := none, data := .seq rest.toArray } hx
    obtain ⟨c0, hc0⟩ : ∃ v, vs[0]? = some v := ⟨vs[0], by simp [h0]⟩
    have hfin : ∀ {A : Around} {Q' : Fin → Shared → Prop} {E' : Value → Shared → Prop}, Q' (.done (.ret .none)) ⟨(h.push { cls := .type "tuple", dict := none, data := .seq rest.toArray }).update x (Obj.mapFields (·.setIfInBounds 0 (.ref h.objs.size))), g, d, t, os⟩ → wpAny (model prog w) A (Builtin.«BaseException.__init__» ⟨.ref x :: rest, []⟩) Q' E' ⟨h, g, d, t, os⟩ := fun q => by
      unfold Builtin.«BaseException.__init__» newTuple
      refine wpAny_bind (wpAny_newObj_type ?_ hsz)
      refine wpAny_bind (wpAny_bind (wpAny_field hx1 hxd hc0 (wpAny_bind (wpAny_setField hx1 hxd h0 ?_))))
      induction c0 using PySem.Value.casesOn <;> first
        | (refine wpAny_pure ?_; refine wpAny_pure ?_; exact q)
        | (wp_walk; exact q)
        | trace_state
    refine hfin ?_
    have hxd' := Obj.data_mapFields hxd (·.setIfInBounds 0 (.ref h.objs.size))
    refine hq _ ?_ fun b o hb e => ?_
    · rw [Heap.get?_update_self _ hx1 (Obj.isFreed_of_fields hxd')]
      obtain ⟨c, dc, dt, sl⟩ := ox
      dsimp only at hxd
      subst hxd
      rfl
    · rw [Heap.get?_update_other _ _ (Ne.symm hb)]
      exact Heap.get?_push_of_some _ e
  refine wpAny_onRaise ?_
  rw [show ∀ (a b : String) (n : Nat), Bind.check ⟨.positional, "*", "Exception", .self, [⟨"args", .varPos, false⟩]⟩ a b n (List.map (fun x => x.fst) ({ pos := Value.ref x :: rest } : Args).kw) = pure () from
    fun a b n => check_star_args _ _ _ _ _ _]
  exact wpAny_pure (wpAny_pure ⟨plainId_quiet PySem.F.excBase_Exception.init.plain _, fin⟩)
end
end Mine
end
section
set_option maxHeartbeats 1000000
namespace Mine
open PySem PySem.W PySem.Calls PyProof.Rows
noncomputable def initB (k : Nat) (p : Nat → Pos) : List Stmt :=
  [.Expr (.Call (.Attribute (.Call (.Name "super" (p 0)) [] [] (p 1)) "__init__" (p 2)) [.Constant (.str "error") k (p 3)] [] (p 4)) (p 5),
   .Assign [.Attribute (.Name "self" (p 6)) "number" (p 7)] (.Name "number" (p 8)) (p 9),
   .Assign [.Attribute (.Name "self" (p 10)) "told" (p 11)] (.Name "told" (p 12)) (p 13)]
noncomputable def iniNames : List (Str × NameKind) := [(Str.ofString "self", .local), (Str.ofString "number", .local), (Str.ofString "told", .local), (Str.ofString "__class__", .free), (Str.ofString "super", .globalImplicit)]
noncomputable def iniBinds (a b c : Value) : List (Str × Value) := [(Str.ofString "self", a), (Str.ofString "number", b), (Str.ofString "told", c)]
inductive IniFn (prog : Program) (C : Addr) (h : Heap) (fI : Addr) : Prop where
  | mk (of : Obj) (fd : FuncData) (k : Nat) (p : Nat → Pos) (hof : h.get? fI = some of) (hofc : of.cls = .type "function") (hofd : of.data = .func fd) (hbody : fd.body = .stmts (initB k p)) (hline : ((p 2).endLine == (p 4).line) = true)
    (hbind : ∀ (a b c : Value) (s : Shared), (∀ b o, h.get? b = some o → s.heap.get? b = some o) → BindsTo s fd ⟨[a, b, c], []⟩ (iniBinds a b c))
    (hnames : fd.scope.names = iniNames) (hkind : fd.scope.kind = .function) (hco : fd.scope.isCoroutine = false) (hgen : fd.scope.isGenerator = false)
    (hglob : fd.globals = mainGlobals) (hblt : fd.builtins = builtinsNs) (hcode : h.CodeRec fd.code fd.qualname) (har : ∃ ar, (fd.params.posonlyargs ++ fd.params.args).head? = some ar ∧ ar.arg = "self")
    (hcl : ∃ cell oc, fd.closure = [(Str.ofString "__class__", cell)] ∧ h.get? cell = some oc ∧ oc.data = .cell (some (.ref C)))
    (hcc : ∃ cc oc vs file tf, fd.code = .ref cc ∧ h.get? cc = some oc ∧ oc.data = .fields vs ∧ vs[2]? = some (.str file tf) ∧ ((prog.main.file : Str) == file) = true)
structure ExIni (prog : Program) (C : Addr) (D : ExD) (h : Heap) (fI : Addr) : Prop where
  cl : ExCl C D h
  ini : D.mN "__init__" = some (.ref fI)
  fn : IniFn prog C h fI
  top : (prog.main.scope.names.lookup ("super" : Str)).isSome = false
  sup : ∃ mg mb, h.Ns mainGlobals mg ∧ h.Ns builtinsNs mb ∧ mg "super" = none ∧ mb "super" = some (.type "super")
  lim : h.NoLimit
  opq : ∀ w, Looks (model prog w) h (opaqueClassAbove (.ref C)) none
theorem ExCl.kept {C x : Addr} {D : ExD} {h h' : Heap} (X : ExCl C D h) (hxC : x ≠ C) (hN : x ≠ D.N) (hk : ∀ b o, b ≠ x → h.get? b = some o → h'.get? b = some o) : ExCl C D h' := by
  obtain ⟨a1, ⟨o, es, ep, e, r⟩, a3, a4, a5, a6, a7⟩ := X
  exact ⟨hk _ _ (Ne.symm hxC) a1, ⟨o, es, ep, hk _ _ (Ne.symm hN) e, r⟩, a3, a4, a5, a6, a7⟩
theorem size_none' (h : Heap) : h.get? h.objs.size = none := by
  cases e : h.get? h.objs.size with
  | none => rfl
  | some o => exact absurd (Heap.lt_size e) (Nat.lt_irrefl _)
section
variable {prog : Program} {w : World} {A : Around} {E : Value → Shared → Prop} {C fI : Addr} {D : ExD}
theorem ini_super {h h₁ : Heap} {g : Array GenState} {d : Drawn} {t : Nat} {os : OsState} {x L : Addr} {ox : Obj} {vs : Array Value} {fd : FuncData} {k : Nat} {p0 p1 p2 p3 p4 p5 : Pos} {m : Str → Option Value} {body : List Stmt} {of : Obj} {Q : Flow → Shared → Prop} (I : ExIni prog C D h fI) (hk : ∀ b o, h.get? b = some o → h₁.get? b = some o)
    (hx : h₁.get? x = some ox) (hxc : ox.cls = .ref C) (hxd : ox.data = .fields vs) (h0 : 0 < vs.size) (hxC : x ≠ C) (hns : h₁.Ns L m) (hself : m "self" = some (.ref x))
    (hof : h.get? fI = some of) (hofd : of.data = .func fd) (hline : (p2.endLine == p4.line) = true) (hnames : fd.scope.names = iniNames) (hkind : fd.scope.kind = .function) (hglob : fd.globals = mainGlobals) (hblt : fd.builtins = builtinsNs)
    (har : ∃ ar, (fd.params.posonlyargs ++ fd.params.args).head? = some ar ∧ ar.arg = "self") (hcl : ∃ cell oc, fd.closure = [(Str.ofString "__class__", cell)] ∧ h.get? cell = some oc ∧ oc.data = .cell (some (.ref C)))
    (hcode : ∃ cc oc vs file tf, fd.code = .ref cc ∧ h.get? cc = some oc ∧ oc.data = .fields vs ∧ vs[2]? = some (.str file tf) ∧ ((prog.main.file : Str) == file) = true)
    (hq : ∀ h' tk v0, h'.get? x = some { ox with data := .fields (vs.setIfInBounds 0 v0) } → (∀ b o, b ≠ x → h₁.get? b = some o → h'.get? b = some o) → Q .next ⟨h', g, d, tk, os⟩) :
    _root_.PySem.wpAt (model prog w) A (.func body (callEnv fd L fI)) (exec (.Expr (.Call (.Attribute (.Call (.Name "super" p0) [] [] p1) "__init__" p2) [.Constant (.str "error") k p3] [] p4) p5) (callEnv fd L fI)) Q E ⟨h₁, g, d, t, os⟩ := by
  obtain ⟨ar, har, harn⟩ := har
  obtain ⟨cell, oc, hclos, hcell, hcd⟩ := hcl
  obtain ⟨cc, occ, cvs, file, tf, hcc, hocc, hoccd, hcv, hfile⟩ := hcode
  obtain ⟨mg, mb, hmg, hmb, hg1, hb1⟩ := I.sup
  have X1 : ExCl C D h₁ := I.cl.kept (x := x) hxC (fun q => by
    obtain ⟨o, es, ep, e, hd, _⟩ := I.cl.ns
    rw [← q] at e
    rw [hk _ _ e] at hx; (injection hx with j1; subst j1)
    rw [hd] at hxd; injection hxd) fun b o _ e => hk b o e
  have k1 : ∀ y, (callEnv fd L fI).kindOf y = iniNames.lookup y := fun y => by rw [← hnames]; rfl
  have hk' : (callEnv fd L fI).scope.kind = .function := hkind
  refine ks_wpAt_Expr_any (ks_wpAt_MethodCall (pl := do return (← importBound (.Call (.Name "super" p0) [] [] p1) (callEnv fd L fI)).getD true) ?_ ?_) (by unfold interactive; rw [hk']; rfl) rfl
  · refine ks_wpAt_super_base (f := fI) (cc := cc) (of := of) (fd := fd) (ar := ar) (by rw [k1]; rfl) (by rw [k1]; rfl) (by decide) rfl (hk _ _ hof) hofd har hcc (hk _ _ hocc) hoccd hcv hfile I.top ?_
    rw [harn]
    refine ks_loadName_global hk' (by rw [k1]; rfl) (loadGlobal_builtin (by show h₁.Ns fd.globals mg; rw [hglob]; exact hmg.keeps hk) hg1 (by show h₁.Ns fd.builtins mb; rw [hblt]; exact hmb.keeps hk) hb1 ⟨rfl, ?_⟩)
    refine wpAny_loadName_free hk' (by rw [k1]; rfl) (c := cell) (v := .ref C) (by show fd.closure.lookup _ = _; rw [hclos]; rfl) ⟨oc, hk _ _ hcell, hcd⟩ ?_
    refine wpAny_loadName_local hk' (by rw [k1]; rfl) hns hself ?_
    refine ks_wpAny_isType_cls X1.at_ rfl ⟨rfl, ?_⟩
    refine ks_wpAny_call_super X1.at_ rfl hx hxc (by rw [hxd]; intro c q; injection q) (fun A Q E s kk q => by
      obtain ⟨hp, g, d, t, os⟩ := s
      refine wpAny_isSubtype_exc (kk _ _ X1.at_) ?_
      rw [show (Value.ref C :: bmX).contains (.ref C) = true by simp]
      exact q) fun h₂ hso k2 => ?_
    have X2 : ExCl C D h₂ := ⟨k2 _ _ X1.at_, X1.ns.keeps k2, X1.ga, X1.gt, X1.sa, X1.nu, X1.to⟩
    have hx2 := k2 _ _ hx
    refine su_get X2 hso hx2 hxc hxC ((I.opq w).keeps fun b o e => k2 _ _ (hk _ _ e)) ?_
    have hm3 : (h₂.push (mwObj x)).get? h₂.objs.size = some (mwObj x) := Heap.get?_push_size _ rfl
    have k3 : ∀ b o, h₂.get? b = some o → (h₂.push (mwObj x)).get? b = some o := fun b o e => Heap.get?_push_of_some _ e
    generalize h₂.push (mwObj x) = h₃ at hm3 k3 ⊢
    generalize h₂.objs.size = mw at hm3 ⊢
    refine callWith_of (P := fun h => h.get? mw = some (mwObj x)) rfl (fun h hP => ⟨.machine, .inr (.inl rfl), fun A Q E s kk q => ?_⟩) ?_
    · unfold keeperOf
      refine wpAny_bind (wpAny_load (kk _ _ hP) ?_)
      exact wpAny_pure q
    · have ea : backTo p4 (starEach [.Constant (.str "error") k p3] (callEnv fd L fI)) = [(false, eval (.Constant (.str "error") k p3) (callEnv fd L fI))] := rfl
      rw [ea]
      refine evalArgs_plain (Calls.spliced_cons (Calls.Constant_str (Calls.spliced_nil ⟨hm3, ?_⟩)))
      have X3 : ExCl C D h₃ := ⟨k3 _ _ X2.at_, X2.ns.keeps k3, X2.ga, X2.gt, X2.sa, X2.nu, X2.to⟩
      exact mw_call X3 hm3 (k3 _ _ hx2) hxc hxd h0 (show 1 ≤ 10 by decide) fun h' e1 e2 => hq h' _ _ e1 fun b o hb e => e2 b o hb (k3 _ _ (k2 _ _ e))
  · show (do
      let ov ← attributeBase (.Call (.Name "super" p0) [] [] p1) "__init__" (callEnv fd L fI) (eval (.Call (.Name "super" p0) [] [] p1) (callEnv fd L fI))
      standAt p2.atName
      methodCall (.Call (.Name "super" p0) [] [] p1) "__init__" p2 p4 (callEnv fd L fI) ov (1 + 0) (backTo p4 (starEach [.Constant (.str "error") k p3] (callEnv fd L fI))) []) = _
    have hform : methodCallForm (1 + 0) (backTo p4 (starEach [.Constant (.str "error") k p3] (callEnv fd L fI))) [] = true := rfl
    unfold methodCall calleeOf methodCallPos
    rw [hform, hline]
    simp only [bind_assoc, pure_bind, if_true]
    rfl
noncomputable abbrev rawObj (C : Addr) (vs : Array Value) (sl : Array (Option Value)) : Obj := { cls := .ref C, dict := none, data := .fields vs, slots := sl }
noncomputable abbrev noItems : Obj := { cls := .type "dict", data := .dict #[] }
noncomputable abbrev linked (h : Heap) (x : Addr) : Heap := (h.push noItems).update x fun o => { cls := o.cls, dict := some h.objs.size, data := o.data, slots := o.slots }
theorem linked_facts {h : Heap} {x : Addr} {o : Obj} (hx : h.get? x = some o) (hf : ∃ vs, o.data = .fields vs) :
    (linked h x).get? x = some { o with dict := some h.objs.size } ∧ h.objs.size ≠ x ∧ (linked h x).Ns1 h.objs.size (fun _ => none) ∧ ∀ b ob, b ≠ x → h.get? b = some ob → (linked h x).get? b = some ob := by
  have ne : h.objs.size ≠ x := fun q => Nat.lt_irrefl _ (q ▸ Heap.lt_size hx)
  have kp : ∀ b ob, b ≠ x → (h.push noItems).get? b = some ob → (linked h x).get? b = some ob := fun b ob q e => (Heap.get?_update_other _ _ (Ne.symm q)).trans e
  obtain ⟨vs, hf⟩ := hf
  refine ⟨Heap.get?_update_self _ (Heap.get?_push_of_some _ hx) (Obj.isFreed_of_fields (vs := vs) hf), ne, .of_empty ⟨_, #[], _, kp _ _ ne (Heap.get?_push_size h rfl), rfl, fun e he => by simp at he, fun _ => rfl⟩, fun b ob q e => kp b ob q (Heap.get?_push_of_some _ e)⟩
theorem first_core {h : Heap} {g : Array GenState} {d : Drawn} {t : Nat} {os : OsState} {x : Addr} {vs : Array Value} {sl : Array (Option Value)} {tk : Tok} {v : Value} {Q : Fin → Shared → Prop} (X : ExCl C D h) (hx : h.get? x = some (rawObj C vs sl))
    (hq : ∀ h' tk' d', h.get? d' = none → d' ≠ x → h'.get? x = some (exObj C d' vs sl) → h'.Ns1 d' (fun y => if y = "number" then some v else none) → (∀ b o, b ≠ x → h.get? b = some o → h'.get? b = some o) → Q (.done (.ret .none)) ⟨h', g, d, tk', os⟩) :
    wpAny (model prog w) A (Builtin.«object.__setattr__» ⟨[.ref x, .str "number" tk, v], []⟩) Q E ⟨h, g, d, t, os⟩ := by
  obtain ⟨lx, ln, lm, lo⟩ := linked_facts hx ⟨vs, rfl⟩
  unfold Builtin.«object.__setattr__»
  repeat (first
    | rw [refuse_eq]
    | rw [refuseLoop_ref, PySem.F.store_Exception.passes (.ref x)]
    | (with_reducible refine wpAny_loadPart_at hx ?_)
    | (with_reducible refine wpAny_mroOf_exc X.at_ ?_)
    | (with_reducible refine ex_look X X.nu lk_number ?_)
    | wp_step)
  refine wpAny_load X.at_ (wpAny_pure ?_)
  show wpAny _ _ (alloc noItems >>= fun d => update x (fun o => { cls := o.cls, dict := some d, data := o.data, slots := o.slots }) >>= fun _ => pure (some d)) _ _ _
  refine wpAny_bind (wpAny_alloc' (wpAny_bind (wpAny_update' (Heap.get?_push_of_some _ hx) (wpAny_pure ?_))))
  dsimp only
  refine wpAny_bind (wpAny_pure (wpAny_bind (wpAny_nsSet1 lm fun h' hn hs => ?_)))
  obtain ⟨oD, es, ep, eD, hdD, hc⟩ := hn.count (Within.cons "number" v Within.nil)
  refine wpAny_bind (wpAny_lookBehind eD (by rw [hdD]; exact pastItsLine_dict (Nat.le_trans hc (by decide))) ?_)
  exact wpAny_pure (hq h' _ h.objs.size (size_none' h) ln ((hs.2 x (Ne.symm ln)).trans lx) hn fun b ob q e => (hs.2 b (Nat.ne_of_lt (Heap.lt_size e))).trans (lo b ob q e))
theorem first_call {h : Heap} {g : Array GenState} {d : Drawn} {t : Nat} {os : OsState} {x : Addr} {vs : Array Value} {sl : Array (Option Value)} {tk : Tok} {v : Value} {R : Result → Shared → Prop} (X : ExCl C D h) (hx : h.get? x = some (rawObj C vs sl))
    (hq : ∀ h' tk' d', h.get? d' = none → d' ≠ x → h'.get? x = some (exObj C d' vs sl) → h'.Ns1 d' (fun y => if y = "number" then some v else none) → (∀ b o, b ≠ x → h.get? b = some o → h'.get? b = some o) → R (.ok (.ret .none)) ⟨h', g, d, tk', os⟩) :
    codeAny (model prog w) A (.call (.builtin "object.__setattr__") ⟨[.ref x, .str "number" tk, v], []⟩) R ⟨h, g, d, t, os⟩ := by
  have SF := PySem.F.store_Exception
  have hC := X.at_
  generalize "object.__setattr__" = sa at SF ⊢
  refine codeAny_call_builtin SF.slot.plain SF.entry ?_
  refine wpAny_check_sa (o := rawObj C vs sl) SF hC hx rfl ?_
  exact first_core X hx hq
theorem first_attr {h : Heap} {g : Array GenState} {d : Drawn} {t : Nat} {os : OsState} {x : Addr} {vs : Array Value} {sl : Array (Option Value)} {v : Value} {Q : Unit → Shared → Prop} (X : ExCl C D h) (hx : h.get? x = some (rawObj C vs sl))
    (hq : ∀ h' tk' d', h.get? d' = none → d' ≠ x → h'.get? x = some (exObj C d' vs sl) → h'.Ns1 d' (fun y => if y = "number" then some v else none) → (∀ b o, b ≠ x → h.get? b = some o → h'.get? b = some o) → Q () ⟨h', g, d, tk', os⟩) :
    wpAny (model prog w) A (setAttr (.ref x) "number" v) Q E ⟨h, g, d, t, os⟩ := by
  have hC := X.at_
  have f3 := PySem.F.store_Exception.slot.bind (.ref x)
  have hlk := PySem.F.store_Exception.slot.lookup
  unfold setAttr callSpecial? specialOf
  repeat (any_goals (first | assumption | (with_reducible refine wpAny_loadPart_at hx ?_) | (with_reducible refine ex_look X X.sa hlk ?_) | wp_step))
  refine first_call X hx fun h' tk' d' a1 a2 a3 a4 a5 => ?_
  repeat (any_goals (first | assumption | wp_step))
  exact hq h' tk' d' a1 a2 a3 a4 a5
theorem ini_walk {hB h : Heap} {g : Array GenState} {d : Drawn} {t : Nat} {os : OsState} {x : Addr} {vs : Array Value} {sl : Array (Option Value)} {number told : Value} {Q : Value → Shared → Prop} (hroom : A.depth < recursionLimit) (I : ExIni prog C D hB fI) (hB0 : ∀ b o, hB.get? b = some o → h.get? b = some o) (hx : h.get? x = some (rawObj C vs sl)) (h0 : 0 < vs.size) (hxC : x ≠ C)
    (hq : ∀ h' tk v0 d' m, h'.get? x = some (exObj C d' (vs.setIfInBounds 0 v0) sl) → h'.Ns d' m → m "number" = some number → h.get? d' = none → (∀ b o, b ≠ x → h.get? b = some o → h'.get? b = some o) → Q .none ⟨h', g, d, tk, os⟩) :
    wpAny (model prog w) A (call (.ref fI) [.ref x, number, told]) Q E ⟨h, g, d, t, os⟩ := by
  obtain ⟨of, fd, k, p, hof, hofc, hofd, hbody, hline, hbind, hnames, hkind, hco, hgen, hglob, hblt, hcode, har, hcl, hcc⟩ := I.fn
  refine wpAny_call (ks_codeAny_call_defAt (fd := fd) (body := initB k p) (binds := iniBinds (.ref x) number told) hroom (hB0 _ _ hof) hofd (I.lim.keeps hB0) (hcode.keeps hB0) hbody (hbind _ _ _ _ hB0)
    (by rw [hnames]; decide) (by rw [hnames]; intro y hy; simp only [iniBinds, List.mem_cons, List.not_mem_nil, or_false] at hy; rcases hy with rfl | rfl | rfl <;> rfl) (fun h₁ hns hk => ?_) hco hgen hkind)
  have hLn := size_none' h
  generalize h.objs.size = L at hns hLn ⊢
  have hxL : L ≠ x := fun q => by rw [q, hx] at hLn; injection hLn
  have hkind' : (callEnv fd L fI).scope.kind = .function := hkind
  have k1 : ∀ y, (callEnv fd L fI).kindOf y = iniNames.lookup y := fun y => by rw [← hnames]; rfl
  have hxN : x ≠ D.N := fun q => by
    obtain ⟨o, es, ep, e, hd, _⟩ := I.cl.ns
    rw [← q] at e
    rw [hB0 _ _ e] at hx
    (injection hx with j1; subst j1); injection hd
  have nsk : ∀ {h2 : Heap} {m : Str → Option Value}, h₁.Ns L m → (∀ b o, b ≠ x → h₁.get? b = some o → h2.get? b = some o) → h2.Ns L m := fun hn kk => by
    obtain ⟨o, es, ep, e, r⟩ := hn
    exact ⟨o, es, ep, kk _ _ hxL e, r⟩
  refine ks_wpAt_execs_cons (ini_super I (fun b o e => hk b o (hB0 b o e)) (hk _ _ hx) rfl rfl h0 hxC hns rfl hof hofd hline hnames hkind hglob hblt har hcl hcc fun h2 tk2 v0 hx2 k2 => ?_)
  have X2 : ExCl C D h2 := I.cl.kept hxC hxN fun b o hb e => k2 b o hb (hk b o (hB0 b o e))
  have ns2 := nsk hns k2
  refine ks_wpAt_execs_cons (ks_wpAt_Assign_Attr (wpAt_of_wpAny (wpAny_Name (wpAny_loadName_local hkind' (by rw [k1]; rfl) ns2 (show _ = some number from rfl) (wpAny_Name (wpAny_loadName_local hkind' (by rw [k1]; rfl) ns2 (show _ = some (Value.ref x) from rfl) ?_) (by decide))) (by decide))))
  refine first_attr X2 hx2 fun h3 tk3 d' hd1 hd2 hx3 hn3 k3 => ?_
  have k23 : ∀ b o, b ≠ x → h₁.get? b = some o → h3.get? b = some o := fun b o hb e => k3 b o hb (k2 b o hb e)
  have X3 : ExCl C D h3 := I.cl.kept hxC hxN fun b o hb e => k23 b o hb (hk b o (hB0 b o e))
  have ns3 := nsk hns k23
  have hdold : ∀ b o, b ≠ x → h₁.get? b = some o → b ≠ d' := fun b o hb e q => by rw [q] at e hb; rw [k2 _ _ hb e] at hd1; injection hd1
  refine ks_wpAt_execs_cons (ks_wpAt_Assign_Attr (wpAt_of_wpAny (wpAny_Name (wpAny_loadName_local hkind' (by rw [k1]; rfl) ns3 (show _ = some told from rfl) (wpAny_Name (wpAny_loadName_local hkind' (by rw [k1]; rfl) ns3 (show _ = some (Value.ref x) from rfl) ?_) (by decide))) (by decide))))
  refine store_attr (ns := [Str.ofString "number"]) PySem.F.store_Exception X3.at_ X3.ns X3.sa X3.to lk_told hxC ⟨_, hx3, rfl, (by intro c q; injection q), .inr ⟨d', rfl, hd2, hn3⟩⟩ (fun h4 tk4 I4 k4 s4 => ?_) (Within.cons _ _ Within.nil) (by rw [sizeLine_eq]; decide)
  obtain ⟨o4, hx4, _, _, hd4⟩ := I4
  obtain ⟨o1, e1, c1, c2, c3, c4⟩ := s4 _ hx3
  rw [hx4] at e1; (injection e1 with j1; subst j1)
  have c5 := c4 d' rfl
  rcases hd4 with ⟨q, _⟩ | ⟨d4, q, hne, hn4⟩
  · rw [c5] at q; injection q
  · rw [c5] at q; (injection q with j1; subst j1)
    refine wpAt_of_wpAny ?_
    refine wpAny_execs_nil (hq h4 tk4 v0 d' _ ?_ hn4.ns ?_ ?_ ?_)
    · rw [hx4]
      obtain ⟨oc, od, oda, osl⟩ := o4
      dsimp only at c1 c2 c3 c5
      subst c1 c2 c3 c5
      rfl
    · rfl
    · cases e : h.get? d' with
      | none => rfl
      | some o =>
        by_cases hb : d' = x
        · exact absurd hb hd2
        · exact absurd rfl (hdold _ _ hb (hk _ _ e))
    · intro b o hb e
      refine k4 b o hb (fun o₀ dx e0 ed q => ?_) (k23 b o hb (hk b o e))
      rw [hx3] at e0; (injection e0 with j1; subst j1)
      (injection ed with j1; subst j1)
      exact hdold b o hb (hk b o e) q
end
end Mine
end
section
namespace Mine
open PySem PySem.W PySem.Calls PyProof.Rows
theorem ExCl.keeps {C : Addr} {D : ExD} {h h' : Heap} (X : ExCl C D h) (hk : ∀ b o, h.get? b = some o → h'.get? b = some o) : ExCl C D h' :=
  ⟨hk _ _ X.at_, X.ns.keeps hk, X.ga, X.gt, X.sa, X.nu, X.to⟩
section
variable {α β γ : Type} {C : Cx} {P : P0} {F : Fm} {call : Nat → List AV → AH → Out AV} {N : Nat} {μ : Mu} {H : AH} {s : Shared} {l : Loc} {d : Nat} {D : ExD} {fI : Addr}
theorem has_base (a : Addr) : (Value.ref a :: bmX).contains (.type "BaseException") = true := by rw [List.contains_cons]; rfl
theorem ex_raise {A : Around} {x : Sem Value} {env : Env} {C : Addr} {Q : Flow → Shared → Prop} {E : Value → Shared → Prop} (hh : A.handled = none)
    (h : wpAny (model prog w) A x (fun v s₁ => ∃ e ad v0 sl, v = .ref e ∧ ExCl C D s₁.heap ∧ s₁.heap.get? e = some (exObj C ad #[v0, .none, .none, .none, .bool false, .none] sl) ∧ E (.ref e) s₁) E s) : wpAny (model prog w) A (raiseStmt env (some x) none) Q E s := by
  unfold raiseStmt
  refine wpAny_bind (wpAny_mono h (fun v s₁ h₁ => ?_) fun _ _ x => x)
  obtain ⟨e, ad, v0, sl, rfl, X, he, hE⟩ := h₁
  have hC := X.at_
  have hcB := has_base C
  obtain ⟨hp, g, d, tk, os⟩ := s₁
  repeat (first | with_reducible refine wpAny_loadPart_at he ?_ | with_reducible refine wpAny_loadPart_at hC ?_ | (with_reducible refine wpAny_isSubtype_exc hC ?_; rw [hcB]) | wp_step)
  exact wpAny_raiseNew_none hh hE
theorem ss_raise (Sf : FT F d) (X : ExIni C.prog C.ex D C.base fI) {g : Nat} {k1 k2 : Nat} {told : Str} {np cp p1 p2 p : Pos} (hg : C.gt[g]? = some (("SnobolError" : Str), AV.cls C.exK)) (hn : SE C P F call N (.glob "SnobolError" g np)) : SS C P F call N (.raise 22 k1 k2 told np cp p1 p2 p) := fun μ H s l I R hb Q E Po => by
  have Po : PostS C F μ s (.exc l H) Q E := Po
  show wpAny _ _ (exec (.Raise (some (.Call (.Name "SnobolError" np) [.Constant (.int 22) k1 p1, .Constant (.str told) k2 p2] [] cp)) none p) F.env) Q E s
  rw [arm_exec_Raise]
  refine wpAny_bind (wpAny_standAt (ex_raise (C := C.ex) (D := D) Sf.handled (wpAny_bind (wpAny_Call_Name_kw ?_))))
  have e0 : evE P call N (st C.gt (.glob "SnobolError" g np)) l H = .ok (.cls C.exK) H := by
    show evE P call N (.val (((C.gt[g]?).map (·.2)).getD .none)) l H = _
    rw [hg]; rfl
  refine hn μ H s l I R (by rw [e0]; intro q; injection q) _ _ ⟨fun μ₀ a₀ H₀ v₀ s₀ q0 S0 I0 V0 => ?_, fun _ _ _ _ q => by rw [e0] at q; injection q⟩
  rw [e0] at q0
  (injection q0 with j1 j2; subst j1 j2)
  obtain rfl : v₀ = .ref C.ex := V0
  have X1 := X.cl.keeps I0.stays
  refine callWith_of (P := fun h => ExCl C.ex D h) rfl (fun h hP => ⟨.machine, .inr (.inl rfl), fun A Q E s kk q => by
    obtain ⟨hp, g, d, t, os⟩ := s
    exact wpAny_keeperOf_exc (kk _ _ hP.at_) q⟩) ?_
  have ea : backTo cp (starEach [.Constant (.int 22) k1 p1, .Constant (.str told) k2 p2] F.env) = [(false, eval (.Constant (.int 22) k1 p1) F.env), (false, eval (.Constant (.str told) k2 p2) F.env)] := rfl
  rw [ea]
  refine evalArgs_plain (Calls.spliced_cons (wpAny_Constant_int (Calls.spliced_cons (Calls.Constant_str (Calls.spliced_nil ⟨X1, ?_⟩)))))
  obtain ⟨of, hof, hofc⟩ : ∃ of, s₀.heap.get? fI = some of ∧ of.cls = .type "function" := by
    obtain ⟨of, _, _, _, h1, h2⟩ := X.fn
    exact ⟨of, I0.stays _ _ h1, h2⟩
  obtain ⟨hp0, g0, d0, t0, os0⟩ := s₀
  refine wpAny_call_exc_init PySem.F.excBase_Exception X1.at_ X1.ns X.ini hof hofc (fun h' e hm => ?_) (show 2 ≤ _ by rw [sizeLine_eq]; decide)
  obtain ⟨k0, new, tp, ht, tn, _⟩ := hm
  have hne : e ≠ C.ex := fun q => by rw [q, X1.at_] at new; injection new
  refine ini_walk (by have := Sf.depth; show F.A.depth + 1 < 1000; lia) X (fun b o e => k0 b o (I0.stays b o e)) ht (show 0 < 6 by decide) hne fun h2 tk v0 d' m hx2 hn2 hm2 hd2 k2 => ⟨rfl, wpAny_bind (wpAny_standAt (wpAny_pure ?_))⟩
  have hk : ∀ b o, hp0.get? b = some o → h2.get? b = some o := fun b o eb => k2 b o (fun q => by rw [q, new] at eb; injection eb) (k0 b o eb)
  have hd0 : hp0.get? d' = none := by
    cases q : hp0.get? d' with
    | none => rfl
    | some o => rw [k0 _ _ q] at hd2; injection hd2
  have S1 : Step NoX μ₀ ⟨hp0, g0, d0, t0, os0⟩ μ₀ ⟨h2, g0, d0, tk, os0⟩ := Step.keep (s := ⟨hp0, g0, d0, t0, os0⟩) μ₀ hk tk
  have I2 : Inv C μ₀ H h2 := Inv.keep (s := ⟨hp0, g0, d0, t0, os0⟩) I0 hk
  have X3 : ExCl C.ex D h2 := X1.keeps hk
  refine ⟨e, d', v0, _, rfl, X3, hx2, ?_⟩
  refine Po.exc μ₀ l H (.ref e) _ rfl ((lx S0).trans0 (lx S1)) I2 ((R.step0 S0).step0 S1) (.mk e _ .none ⟨I0.free new, base_none I0 new, S0.older _ new, _, hx2, rfl, rfl, d', m, _, rfl, I0.free hd0, base_none I0 hd0, S0.older _ hd0, hn2, hm2⟩ rfl .none)
theorem andThen_next (x : SO) : x.andThen (fun l H => .ok .next l H) = x := by
  induction x using Mine.SO.casesOn with
  | ok f l H => induction f using Mine.Fl.casesOn <;> rfl
  | _ => rfl
theorem set_twice {α : Type} (l : List α) (i j : Nat) (a b c : α) : ((l.set i a).set j b).set i c = (l.set j b).set i c := by
  by_cases h : i = j
  · subst h; rw [List.set_set, List.set_set, List.set_set]
  · rw [List.set_comm _ _ h, List.set_set]
theorem glob_core {A : Around} {x : Str} {g : Nat} {v : AV} {np : Pos} {mg mb : Str → Option Value} {Q : Value → Shared → Prop} {E : Value → Shared → Prop} (S : FS F d) (G : GName C mg mb) (I : Inv C μ H s.heap) (hg : C.gt[g]? = some (x, v)) (hk : F.env.scope.names.lookup x = some .globalImplicit) (hd : (x == ("__debug__" : Str)) = false)
    (h : ∀ rv, VR C μ s.heap v rv → Q rv s) : wpAny (model C.prog C.w) A (eval (.Name x np) F.env) Q E s := by
  obtain ⟨rv, hrv, hV⟩ := G.ok g x v hg
  have q := h rv (hV μ s.heap I.stays I.new)
  have hg' : s.heap.Ns F.env.globals mg := by rw [S.glob]; exact G.g.keeps I.stays
  have hb' : s.heap.Ns F.env.builtins mb := by rw [S.blt]; exact G.b.keeps I.stays
  rcases hrv with h1 | ⟨h1, h2⟩
  · exact Name_function_global S.kind hk (loadGlobal_global hg' h1 q) hd
  · exact Name_function_global S.kind hk (loadGlobal_builtin hg' h1 hb' h2 q) hd
inductive ExR (C : Cx) (h : Heap) (x : Addr) : Prop where
  | mk (vs : Array Value) (ad : Addr) (sl : Array (Option Value)) (mx : Str → Option Value) (tx : Tok) (z1 : h.get? x = some (exObj C.ex ad vs sl)) (z3 : h.Ns ad mx) (z4 : mx "number" = some (.int 22 tx))
theorem ExIn.raw {h0 h h' : Heap} {x L : Addr} {fl : Value} {m : Str → Option Value} (y : ExIn C μ h0 h fl (.ref x)) (hL : h.Ns L m) (hL0 : ∃ o, h0.get? L = some o) (hk : ∀ b o, b ≠ L → h.get? b = some o → h'.get? b = some o) : ExR C h' x := by
  obtain ⟨_, vs, T, ts, A, e1, B⟩ := y
  obtain ⟨⟨oc, od, oda, osl⟩, he, hc, hda, ad, mx, tx, hdi, hd1, hd2, hd3, hnx, hmx⟩ := A.at_
  dsimp only at hc hda hdi
  subst hc hda hdi
  refine ⟨vs, ad, osl, mx, tx, hk _ _ (fun q => ?_) he, ?_, hmx⟩
  · obtain ⟨o, es, ep, e, hd, _⟩ := hL
    rw [← q, he] at e; (injection e with j1; subst j1); injection hd
  · obtain ⟨o, es, ep, e, r⟩ := hnx
    exact ⟨o, es, ep, hk _ _ (fun q => by obtain ⟨o, e⟩ := hL0; rw [← q, hd3] at e; injection e) e, r⟩
inductive ExC (C : Cx) (h : Heap) : Value → Prop where
  | mk (x : Addr) (o : Obj) (z1 : h.get? x = some o) (z2 : o.cls = .ref C.ex) : ExC C h (.ref x)
theorem ExIn.cls {h0 h : Heap} {fl e : Value} (y : ExIn C μ h0 h fl e) : ExC C h e := by
  obtain ⟨x, vs, T, ts, A, e1, B⟩ := y
  obtain ⟨oe, he, hc, _⟩ := A.at_
  exact ⟨x, oe, he, hc⟩
theorem suite_snd {A' : Around} (Sf : FT F d) (X : ExCl C.ex D s.heap) {x y : Str} {i j : Nat} {xp ap sp sq : Pos} {Q : Flow → Shared → Prop} {E : Value → Shared → Prop} {m : Str → Option Value} {xa : Addr}
    (hx : F.env.scope.names.lookup x = some .local) (hxd : (x == ("__debug__" : Str)) = false) (hj : F.slots[j]? = some y) (hy : F.env.scope.names.lookup y = some .local) (I : Inv C μ H s.heap) (R : FR C F μ (l.set i none) s.heap)
    (hn : s.heap.Ns F.env.locals m) (hm : m x = some (.ref xa)) (hlt : j < l.length) (A : ExR C s.heap xa)
    (hQ : ∀ s', Step (LX F) μ { s with toks := s.toks + 1 } μ s' → Inv C μ H s'.heap → FR C F μ ((l.set i none).set j (some (.int 22))) s'.heap → Q .next s') :
    wpAny (model C.prog C.w) A' (execs [.Assign [.Name y sp] (.Attribute (.Name x xp) "number" ap) sq] F.env) Q E s := by
  obtain ⟨vs, ad, osl, mx, tx, he, hnx, hmx⟩ := A
  refine wpAny_execs_cons (wpAny_Assign_Name (Attribute_any_ (wpAny_Name (wpAny_loadName_local Sf.kind hx hn hm ?_) hxd) rfl))
  refine ex_attr X he hnx hmx ?_
  exact store_loc (a := .int 22) (s := { s with toks := s.toks + 1 }) Sf.toFS hj hy I R (by simp only [VR]; exact ⟨_, rfl⟩) (if_pos (by rw [List.length_set]; exact hlt)) fun s₆ S6 I6 R6 => wpAny_execs_nil (hQ s₆ S6 I6 R6)
theorem catch_snd (Sf : FT F d) (X : ExIni C.prog C.ex D C.base fI) {mg mb : Str → Option Value} (G : GName C mg mb) {x y : Str} {i j g : Nat} {np xp ap sp sq hp : Pos} (hg : C.gt[g]? = some (("SnobolError" : Str), AV.cls C.exK)) (hk : F.env.scope.names.lookup ("SnobolError" : Str) = some .globalImplicit)
    (hi : F.slots[i]? = some x) (hx : F.env.scope.names.lookup x = some .local) (hxd : (x == ("__debug__" : Str)) = false) (hj : F.slots[j]? = some y) (hy : F.env.scope.names.lookup y = some .local) (hL0 : ∃ o, s.heap.get? F.env.locals = some o) {s₃ : Shared} {μ₀ : Mu} {e : Value} {Q : Flow → Shared → Prop} {E : Value → Shared → Prop}
    (Y3 : Fly C F (LX F) μ₀ s μ H l s₃) (y3 : ExIn C μ s.heap s₃.heap .none e) (hlt : j < l.length) (hQ : ∀ s', Fly C F (LX F) μ₀ s μ H ((l.set j (some (.int 22))).set i none) s' → Q .next s') :
    wpAny (model C.prog C.w) F.A (handleBy e F.env [.ExceptHandler (some (.Name "SnobolError" np)) (some x) [.Assign [.Name y sp] (.Attribute (.Name x xp) "number" ap) sq] hp]) Q E s₃ := by
  obtain ⟨xa, oe, he, hc⟩ := y3.cls
  have X3 := X.cl.keeps Y3.inv.stays
  have hcls : (F.env.scope.kind == .class || (F.env.scope.kind == .module && F.env.locals != F.env.globals)) = false := by rw [Sf.kind]; rfl
  refine wpAny_handleBy_cons (codeAny_handlers_test (glob_core Sf.toFS G Y3.inv hg hk (by decide) fun rv V => ?_)) (by intro q; injection q)
  obtain rfl : rv = .ref C.ex := V
  obtain ⟨hp3, g3, d3, t3, os3⟩ := s₃
  refine wpAny_excMatches_sub_self X3.at_ he hc rfl (codeAny_handlers_suite_as (flight_snd (v := none) Y3 y3 fun s₄ Y4 y4 => ?_))
  obtain ⟨m4, hn4, hm4⟩ := Y4.fr.ns
  refine wpAny_storeName_local hx hn4 (fun h5 hn5 hs5 => ?_) hcls
  obtain ⟨S5, I5, R5⟩ := loc_set (tk := s₄.toks + 1 + 1) (w := none) Sf.toFS hi hx Y4.inv Y4.fr hm4 hn5 hs5 fun a q => by injection q
  refine suite_snd (s := { s₄ with heap := h5, toks := s₄.toks + 1 }) Sf (X.cl.keeps I5.stays) hx hxd hj hy I5 R5 hn5 (show _ = some (Value.ref xa) from if_pos rfl) hlt (y4.raw hn4 hL0 fun b o hb e => (hs5.2 b hb).trans e) fun s₆ S6 I6 R6 => ?_
  obtain ⟨m6, hn6, hm6⟩ := R6.ns
  refine wpAny_nameGoes_keeps hx hn6 hcls fun h7 v7 hn7 hs7 => ?_
  obtain ⟨S7, I7, R7⟩ := loc_set (tk := s₆.toks + 1) (w := none) Sf.toFS hi hx I6 R6 hm6 hn7 hs7 fun a q => by injection q
  rw [set_twice] at R7
  exact hQ _ ⟨((Y4.st.trans0 S5).trans0 S6).trans0 S7, I7, R7⟩
theorem ss_try (Sf : FT F d) (X : ExIni C.prog C.ex D C.base fI) {mg mb : Str → Option Value} (G : GName C mg mb) {b : S} {x y : Str} {i j g : Nat} {np xp ap sp sq hp p : Pos} (hg : C.gt[g]? = some (("SnobolError" : Str), AV.cls C.exK)) (hk : F.env.scope.names.lookup ("SnobolError" : Str) = some .globalImplicit)
    (hi : F.slots[i]? = some x) (hx : F.env.scope.names.lookup x = some .local) (hxd : (x == ("__debug__" : Str)) = false) (hj : F.slots[j]? = some y) (hy : F.env.scope.names.lookup y = some .local) (h1 : SS C P F call N b) : SS C P F call N (.try_ b x i y j np xp ap sp sq hp p) := fun μ H s l I R hb Q E Po => by
  have hb : (evS P call N (stS C.gt b) l H).tried i j ≠ .bad := hb
  have Po : PostS C F μ s ((evS P call N (stS C.gt b) l H).tried i j) Q E := Po
  show wpAny _ _ (exec (.Try [pyS b] [.ExceptHandler (some (.Name "SnobolError" np)) (some x) [.Assign [.Name y sp] (.Attribute (.Name x xp) "number" ap) sq] hp] [] [] p) F.env) Q E s
  rw [arm_exec_Try]
  have hbody := sss_cons h1 (sss_nil (C := C) (P := P) (F := F) (call := call) (N := N)) μ H s l I R
  have hev : evSs P call N (stSs C.gt [b]) l H = evS P call N (stS C.gt b) l H := andThen_next _
  rw [hev] at hbody
  refine wpAny_bind (wpAny_standAt (wpAny_tryStmt_except (hbody (fun q => hb (by rw [q]; rfl)) _ _ ⟨fun μ' fl l' H' f s' q S1 I1 R1 V => ?_, fun μ' l' H' e s' q S1 I1 R1 Y => ?_⟩)))
  · rw [q] at Po
    induction fl using Mine.Fl.casesOn with
    | next =>
      obtain rfl := V
      exact wpAny_execs_nil (Po.ok μ' _ l' H' _ s' rfl S1 I1 R1 rfl)
    | cont =>
      obtain rfl := V
      exact Po.ok μ' _ l' H' _ s' rfl S1 I1 R1 rfl
    | ret a =>
      obtain ⟨v, rfl, V⟩ := V
      exact Po.ok μ' _ l' H' _ s' rfl S1 I1 R1 ⟨v, rfl, V⟩
  · rw [q] at Po hb
    have Po : PostS C F μ s (match setLoc l' j (.int 22) with | some l => .ok .next (l.set i none) H' | none => .bad) Q E := Po
    have hb : (match setLoc l' j (.int 22) with | some l => SO.ok .next (l.set i none) H' | none => .bad) ≠ .bad := hb
    cases hset : setLoc l' j (.int 22) with
    | none => rw [hset] at hb; exact absurd rfl hb
    | some l2 =>
      rw [hset] at Po
      refine note_snd Sf Sf.frames ⟨S1, I1, R1⟩ Y fun L s₂ hL Y2 y2 => flight_snd (v := none) Y2 y2 fun s₃ Y3 y3 => ?_
      obtain ⟨hlt, rfl⟩ := setLoc_some hset
      exact catch_snd Sf X G hg hk hi hx hxd hj hy R.there Y3 y3 hlt fun s' Y' => Po.ok μ' .next _ H' .next s' rfl Y'.st Y'.inv Y'.fr rfl
end
end Mine
end
section
namespace Mine
open PySem PySem.W PySem.Calls PyProof.Rows
noncomputable def isNon : E → Bool
  | .non => true
  | _ => false
noncomputable def atName (nm : List Str) (a : Nat) (x : Str) : Bool := nm[a]? == some x
noncomputable def scOk (sc : Scope) (slots : List Str) (caps : List (Str × Nat)) (out : Scope) (osl : List Str) : Bool :=
  ((sc.names.all fun x => x.2 != .cell && (x.2 != .local || sc.names.lookup x.1 == some .local)) && (sc.kind == .function && decide (caps.map (·.1) ++ slots).Nodup)) &&
  ((sc.names.all fun x => x.2 != .free || out.names.lookup x.1 == some .cell) && caps.all fun p => (osl[p.2]? == some p.1 && out.names.lookup p.1 == some .cell) && ((relab sc out).names.lookup p.1 == some .cell && sc.names.contains (p.1, .free)))
noncomputable def nmL (sc : Scope) (slots : List Str) (x : Str) (i : Nat) : Bool := slots[i]? == some x && (sc.names.lookup x == some .local || sc.names.lookup x == some .cell)
noncomputable def dgX (sc : Scope) (sl : List Str) : E → Bool
  | .item (.loc x i _) (.cint _ _ _) _ => nmAt sc sl x i && !(x == ("__debug__" : Str))
  | _ => false
noncomputable def tgOk (sc : Scope) (sl : List Str) : T → Bool
  | .name x i _ => nmAt sc sl x i
  | _ => false
section
variable (nm : List Str) (gt : List (Str × AV))
mutual
noncomputable def okE (t : Bool) : E → Scope → List Str → Bool
  | .bad, _, _ => true
  | .cint _ _ _, _, _ => true
  | .cstr x _ _, _, _ => decide (x.cps.size ≤ 1000)
  | .cbool _ _ _, _, _ => true
  | .cnone _ _, _, _ => true
  | .non, _, _ => false
  | .loc x i _, sc, sl => nmL sc sl x i && !(x == ("__debug__" : Str))
  | .glob x g _, sc, _ => ((gt[g]?).map (·.1) == some x && sc.names.lookup x == some .globalImplicit) && !(x == ("__debug__" : Str))
  | .gbad _ _, _, _ => true
  | .tup es _ _, sc, sl => okEs false es sc sl && decide (es.length ≤ 1000)
  | .list es _, sc, sl => okEs false es sc sl && decide (es.length ≤ 1000)
  | .attr o x a _, sc, sl => okE false o sc sl && (noSuper o && atName nm a x)
  | .item o i _, sc, sl => okE false o sc sl && okE false i sc sl
  | .slice o lo hi z _ _, sc, sl => (okE false o sc sl && (isNon lo || okE false lo sc sl)) && ((isNon hi || okE false hi sc sl) && (isNon z || okE false z sc sl))
  | .bin x _ y _, sc, sl => okE false x sc sl && okE false y sc sl
  | .neg x _, sc, sl => okE false x sc sl
  | .not x _, sc, sl => okE t x sc sl
  | .bop _ es _, sc, sl => !es.isEmpty && okEs t es sc sl
  | .cmp x ops rs _, sc, sl => okE false x sc sl && (okEs false rs sc sl && ((ops.length == 1 && rs.length == 1) || (t && (ops.length == 2 && rs.length == 2))))
  | .ite c a b _, sc, sl => okE true c sc sl && (okE t a sc sl && okE t b sc sl)
  | .call f args _, sc, sl => isName f && (okE false f sc sl && okEs false args sc sl)
  | .meth o x m args ap p, sc, sl => ((noSuper o && decide (args.length < 30)) && ((ap.endLine == p.line) && atName nm m x)) && (okE false o sc sl && okEs false args sc sl)
  | .comp elt tg it ifs sc' sl' caps _, sc, sl => (okE false it sc sl && scOk sc' sl' caps sc sl) && (tgOk (relab sc' sc) (caps.map (·.1) ++ sl') tg && (okEs true ifs (relab sc' sc) (caps.map (·.1) ++ sl') && okE false elt (relab sc' sc) (caps.map (·.1) ++ sl')))
  | .dict ks vs _, _, _ => ks.isEmpty && vs.isEmpty
  | .dget ks vs _ x e ap p, sc, sl => ((!ks.isEmpty && ks.length == vs.length) && (decide (ks.length ≤ 15) && ks.all isLitS)) && ((vs.all isLitI && isLitI e) && (decide ((dgs ks vs).map (·.1)).Nodup && ((ap.endLine == p.line) && dgX sc sl x)))
noncomputable def okEs (t : Bool) : List E → Scope → List Str → Bool
  | [], _, _ => true
  | e :: r, sc, sl => okE t e sc sl && okEs t r sc sl
noncomputable def okT : T → Scope → List Str → Bool
  | .bad, _, _ => true
  | .name x i _, sc, sl => nmL sc sl x i
  | .attr o x a _, sc, sl => okE false o sc sl && atName nm a x
  | .item o i _, sc, sl => okE false o sc sl && okE false i sc sl
  | .tup ts _ _, sc, sl => okTs ts sc sl
noncomputable def okTs : List T → Scope → List Str → Bool
  | [], _, _ => true
  | t :: r, sc, sl => okT t sc sl && okTs r sc sl
end
end
section
variable {α β γ : Type} {C : Cx} {P : P0} {F : Fm} {call : Nat → List AV → AH → Out AV} {N : Nat} {μ : Mu} {H : AH} {s : Shared} {l : Loc} {d : Nat}
theorem and2 {a b : Bool} (h : (a && b) = true) : a = true ∧ b = true := Bool.and_eq_true_iff.mp h
theorem or1 {a b : Bool} (h : (a || b) = true) : a = true ∨ b = true := Bool.or_eq_true_iff.mp h
theorem scOk_ok (S : FS F d) {sc : Scope} {sl : List Str} {caps : List (Str × Nat)} (h : scOk sc sl caps F.env.scope F.slots = true) : ScOk F sc sl caps := by
  have h : (((sc.names.all fun x => x.2 != .cell && (x.2 != .local || sc.names.lookup x.1 == some .local)) && (sc.kind == .function && decide (caps.map (·.1) ++ sl).Nodup)) &&
    ((sc.names.all fun x => x.2 != .free || F.env.scope.names.lookup x.1 == some .cell) && caps.all fun p => (F.slots[p.2]? == some p.1 && F.env.scope.names.lookup p.1 == some .cell) && ((relab sc F.env.scope).names.lookup p.1 == some .cell && sc.names.contains (p.1, .free)))) = true := h
  obtain ⟨h1, h2⟩ := and2 h
  obtain ⟨h1, h3⟩ := and2 h1
  obtain ⟨h2, h4⟩ := and2 h2
  refine ⟨fun p hp q => ?_, fun x hx => bne_iff_ne.mp (and2 (List.all_eq_true.mp h1 x hx)).1, beq_iff_eq.mp (and2 h3).1, fun x hx q => ?_, of_decide_eq_true (and2 h3).2, fun p hp => ?_⟩
  · refine S.cel p.1 ?_
    have := List.all_eq_true.mp h2 p hp
    rw [q] at this
    exact beq_iff_eq.mp this
  · have := (and2 (List.all_eq_true.mp h1 x hx)).2
    rw [q] at this
    exact beq_iff_eq.mp this
  · have := List.all_eq_true.mp h4 p hp
    exact ⟨beq_iff_eq.mp (and2 (and2 this).1).1, beq_iff_eq.mp (and2 (and2 this).1).2, beq_iff_eq.mp (and2 (and2 this).2).1, List.contains_iff_mem.mp (and2 (and2 this).2).2⟩
theorem not1 {a : Bool} (h : (!a) = true) : a = false := by induction a using Bool.casesOn <;> first | rfl | exact absurd h Bool.false_ne_true
structure Ctx (C : Cx) (P : P0) (call : Nat → List AV → AH → Out AV) (d : Nat) : Prop where
  G : CGood C P
  N : ∃ mg mb, GName C mg mb
  hc : ∀ A fs, AOk d fs A → CallOk C fs A call
theorem nmL_ok {x : Str} {i : Nat} (h : nmL F.env.scope F.slots x i = true) : F.slots[i]? = some x ∧ (F.env.scope.names.lookup x = some .local ∨ F.env.scope.names.lookup x = some .cell) := by
  obtain ⟨a, b⟩ := and2 h
  exact ⟨beq_iff_eq.mp a, (or1 b).imp beq_iff_eq.mp beq_iff_eq.mp⟩
theorem nmC_ok (S : FS F d) {x : Str} {i : Nat} (h : nmL F.env.scope F.slots x i = true) : NmC F x i := by
  obtain ⟨a, b⟩ := nmL_ok h
  exact ⟨a, b.imp id fun q => ⟨q, S.cel x q⟩⟩
theorem tg_ok {t : T} (S : FS F d) (h : tgOk F.env.scope F.slots t = true) : TT C P F call N t := by
  induction t using Mine.T.casesOn <;> first | (exact absurd h Bool.false_ne_true; done) | skip
  exact tt_name S (nmAt_ok h).slot (nmAt_ok h).loc
inductive DgX_okR (sc : Scope) (sl : List Str) (x : E) : Prop where
  | mk (y : Str) (i : Nat) (p1 : Pos) (z : Int) (kz : Nat) (pz : Pos) (px : Pos) (zc1 : x = .item (.loc y i p1) (.cint z kz pz) px) (zc2 : (nmAt sc sl y i && !(y == ("__debug__" : Str))) = true)
theorem dgX_ok {sc : Scope} {sl : List Str} {x : E} (h : dgX sc sl x = true) : DgX_okR sc sl x := by
  rcases x with _ | _ | _ | _ | _ | _ | _ | _ | _ | _ | _ | _ | ⟨o, i, p⟩ | _ | _ | _ | _ | _ | _ | _ | _ | _ | _ | _ | _ <;> first | exact absurd h Bool.false_ne_true | skip
  rcases o with _ | _ | _ | _ | _ | _ | _ | _ | _ | _ | _ | _ | _ | _ | _ | _ | _ | _ | _ | _ | _ | _ | _ | _ | _ <;> first | exact absurd h Bool.false_ne_true | skip
  rcases i with _ | _ | _ | _ | _ | _ | _ | _ | _ | _ | _ | _ | _ | _ | _ | _ | _ | _ | _ | _ | _ | _ | _ | _ | _ <;> first | exact absurd h Bool.false_ne_true | skip
  exact ⟨_, _, _, _, _, _, _, rfl, h⟩
theorem dget_ok (Sf : FS F d) {mg mb : Str → Option Value} (hN : GName C mg mb) {ks vs : List E} {x e : E} {dp ap p : Pos} (h : (((!ks.isEmpty && ks.length == vs.length) && (decide (ks.length ≤ 15) && ks.all isLitS)) && ((vs.all isLitI && isLitI e) && (decide ((dgs ks vs).map (·.1)).Nodup && ((ap.endLine == p.line) && dgX F.env.scope F.slots x)))) = true) :
    SE C P F call N (.dget ks vs dp x e ap p) := by
  obtain ⟨a1, a2⟩ := and2 h
  obtain ⟨b1, b2⟩ := and2 a1
  obtain ⟨c1, c2⟩ := and2 a2
  obtain ⟨d1, d2⟩ := and2 c2
  obtain ⟨e1, e2⟩ := and2 d2
  have hne : ks ≠ [] := fun q => by rw [q] at b1; cases (and2 b1).1
  obtain ⟨y, i, p1, z, kz, pz, px, rfl, h7⟩ := dgX_ok e2
  exact se_dget Sf hN hne (beq_iff_eq.mp (and2 b1).2) (of_decide_eq_true (and2 b2).1) (and2 b2).2 (and2 c1).1 (and2 c1).2 (of_decide_eq_true d1) e1 (nmAt_ok (and2 h7).1).slot (nmAt_ok (and2 h7).1).loc (not1 (and2 h7).2)
theorem non_of {e : E} (h : isNon e = true) : e = .non := by
  rcases e with _ | _ | _ | _ | _ | _ | _ | _ | _ | _ | _ | _ | _ | _ | _ | _ | _ | _ | _ | _ | _ | _ | _ | _ | _ <;> first | rfl | exact absurd h Bool.false_ne_true
theorem sp_ok {e : E} {b : Bool} (h : (isNon e || b) = true) (k : b = true → SE C P F call N e) : SP C P F call N e := by
  by_cases q : e = .non
  · subst q; exact so_non
  · exact so_of q (k ((or1 h).resolve_left fun n => q (non_of n)))
noncomputable abbrev BothE (C : Cx) (P : P0) (F : Fm) (call : Nat → List AV → AH → Out AV) (N : Nat) (t : Bool) (e : E) : Prop := if t = true then ST C P F call N e else SE C P F call N e
theorem both {e : E} {t : Bool} (h : SE C P F call N e) (he : isTrue (py e) F.env (eval (py e) F.env) = (do let v ← eval (py e) F.env; standAt (py e).pos; holding [v] (truthy v))) : BothE C P F call N t e := by
  induction t using Bool.casesOn
  · exact h
  · exact st_of h he
theorem not_ok : ∀ {t : Bool} {x : E} {p : Pos}, BothE C P F call N t x → BothE C P F call N t (.not x p)
  | false, _, _, h => se_not h
  | true, _, _, h => st_not h
theorem bopx_ok : ∀ {t : Bool} {op : BoolOp} {es : List E} {p : Pos}, es.isEmpty = false → (∀ e ∈ es, BothE C P F call N t e) → BothE C P F call N t (.bop op es p)
  | false, _, _, _, _, h => se_bop h
  | true, _, _, _, q, h => st_bop (fun e => by rw [e] at q; injection q) h
theorem itex_ok : ∀ {t : Bool} {c a b : E} {p : Pos}, BothE C P F call N true c → BothE C P F call N t a → BothE C P F call N t b → BothE C P F call N t (.ite c a b p)
  | false, _, _, _, _, h, h1, h2 => se_ite h h1 h2
  | true, _, _, _, _, h, h1, h2 => st_ite h h1 h2
theorem len1_of {α : Type} {l : List α} (h : l.length = 1) : ∃ a, l = [a] := List.length_eq_one_iff.mp h
theorem len2_of {α : Type} {l : List α} (h : l.length = 2) : ∃ a b, l = [a, b] := by
  rcases l with _ | ⟨a, l⟩
  · injection h
  · obtain ⟨b, rfl⟩ := len1_of (Nat.succ.inj h)
    exact ⟨a, b, rfl⟩
theorem cmpx_ok (Sf : FS F d) {t : Bool} {x : E} {ops : List CmpOp} {rs : List E} {p : Pos} (hx : BothE C P F call N false x) (hr : ∀ e ∈ rs, BothE C P F call N false e) (h : ((ops.length == 1 && rs.length == 1) || (t && (ops.length == 2 && rs.length == 2))) = true) : BothE C P F call N t (.cmp x ops rs p) := by
  rcases or1 h with q | q
  · obtain ⟨op, rfl⟩ := len1_of (beq_iff_eq.mp (and2 q).1)
    obtain ⟨e, rfl⟩ := len1_of (beq_iff_eq.mp (and2 q).2)
    rcases t with _ | _
    · exact se_cmp Sf hx (hr e List.mem_cons_self)
    · exact st_cmp Sf hx (hr e List.mem_cons_self)
  · obtain ⟨op, op', rfl⟩ := len2_of (beq_iff_eq.mp (and2 (and2 q).2).1)
    obtain ⟨e, e', rfl⟩ := len2_of (beq_iff_eq.mp (and2 (and2 q).2).2)
    obtain rfl : t = true := (and2 q).1
    exact st_cmp2 Sf hx (hr e List.mem_cons_self) (hr e' (List.mem_cons_of_mem _ List.mem_cons_self))
theorem dictx_ok {t : Bool} {ks vs : List E} {p : Pos} (h : (ks.isEmpty && vs.isEmpty) = true) : BothE C P F call N t (.dict ks vs p) := by
  obtain rfl := List.isEmpty_iff.mp (and2 h).1
  obtain rfl := List.isEmpty_iff.mp (and2 h).2
  exact both se_dict0 rfl
mutual
theorem okE_ok (K : Ctx C P call d) : ∀ (t : Bool) (e : E) (F : Fm), FS F d → okE C.nm C.gt t e F.env.scope F.slots = true → BothE C P F call N t e
  | t, .bad, F, _, _ => both (se_bad rfl) rfl
  | t, .cint _ _ _, F, _, _ => both se_cint rfl
  | t, .cstr x _ _, F, _, h => both (se_cstr (of_decide_eq_true h)) rfl
  | t, .cbool _ _ _, F, _, _ => both se_cbool rfl
  | t, .cnone _ _, F, _, _ => both se_cnone rfl
  | t, .non, F, _, h => by exact absurd h Bool.false_ne_true
  | t, .loc x i _, F, Sf, h => both (se_loc Sf (nmL_ok (and2 h).1).1 (nmL_ok (and2 h).1).2 (not1 (and2 h).2)) rfl
  | t, .glob x g _, F, Sf, h => by
    obtain ⟨mg, mb, hN⟩ := K.N
    exact both (se_glob Sf hN (beq_iff_eq.mp (and2 (and2 h).1).1) (beq_iff_eq.mp (and2 (and2 h).1).2) (not1 (and2 h).2)) rfl
  | t, .gbad _ _, F, _, _ => both (se_bad rfl) rfl
  | t, .tup es _ _, F, Sf, h => both (se_tup (okEs_ok K es F Sf (and2 h).1) (of_decide_eq_true (and2 h).2)) rfl
  | t, .list es _, F, Sf, h => both (se_list (okEs_ok K es F Sf (and2 h).1) (of_decide_eq_true (and2 h).2)) rfl
  | t, .attr o x a _, F, Sf, h => both (se_attr K.G.toGood (okE_ok K false o F Sf (and2 h).1) (and2 (and2 h).2).1 (beq_iff_eq.mp (and2 (and2 h).2).2)) rfl
  | t, .item o i _, F, Sf, h => both (se_item (okE_ok K false o F Sf (and2 h).1) (okE_ok K false i F Sf (and2 h).2)) rfl
  | t, .slice o lo hi z _ _, F, Sf, h => both (se_slice (okE_ok K false o F Sf (and2 (and2 h).1).1) (sp_ok (and2 (and2 h).1).2 fun q => okE_ok K false lo F Sf q) (sp_ok (and2 (and2 h).2).1 fun q => okE_ok K false hi F Sf q) (sp_ok (and2 (and2 h).2).2 fun q => okE_ok K false z F Sf q)) rfl
  | t, .bin x _ y _, F, Sf, h => both (se_bin (okE_ok K false x F Sf (and2 h).1) (okE_ok K false y F Sf (and2 h).2)) rfl
  | t, .neg x _, F, Sf, h => both (se_neg (okE_ok K false x F Sf h)) rfl
  | t, .not x _, F, Sf, h => not_ok (okE_ok K t x F Sf h)
  | t, .bop _ es _, F, Sf, h => bopx_ok (not1 (and2 h).1) (okAll_ok K t es F Sf (and2 h).2)
  | t, .cmp x ops rs _, F, Sf, h => cmpx_ok Sf (okE_ok K false x F Sf (and2 h).1) (okAll_ok K false rs F Sf (and2 (and2 h).2).1) (and2 (and2 h).2).2
  | t, .ite c a b _, F, Sf, h => itex_ok (okE_ok K true c F Sf (and2 h).1) (okE_ok K t a F Sf (and2 (and2 h).2).1) (okE_ok K t b F Sf (and2 (and2 h).2).2)
  | t, .call f args _, F, Sf, h => both (se_call Sf K.G K.hc (and2 h).1 (okE_ok K false f F Sf (and2 (and2 h).2).1) (okEs_ok K args F Sf (and2 (and2 h).2).2)) rfl
  | t, .meth o x m args ap p, F, Sf, h => both (se_meth Sf K.G K.hc (and2 (and2 (and2 h).1).1).1 (of_decide_eq_true (and2 (and2 (and2 h).1).1).2) (and2 (and2 (and2 h).1).2).1 (beq_iff_eq.mp (and2 (and2 (and2 h).1).2).2) (okE_ok K false o F Sf (and2 (and2 h).2).1) (okEs_ok K args F Sf (and2 (and2 h).2).2)) rfl
  | t, .comp elt tg it ifs sc' sl' caps _, F, Sf, h => by
    obtain ⟨h1, h2⟩ := and2 h
    obtain ⟨h1, h3⟩ := and2 h1
    obtain ⟨h4, h5⟩ := and2 h2
    have W := scOk_ok Sf h3
    have S' := fun c => Sf.comp W c
    exact both (se_comp Sf W (okE_ok K false it F Sf h1) (fun c => tg_ok (S' c) h4) (fun c => okAll_ok K true ifs (Fk F sc' sl' caps c) (S' c) (and2 h5).1) fun c => okE_ok K false elt (Fk F sc' sl' caps c) (S' c) (and2 h5).2) rfl
  | t, .dget ks vs dp x e ap p, F, Sf, h => by
    obtain ⟨mg, mb, hN⟩ := K.N
    exact both (dget_ok Sf hN h) rfl
  | t, .dict ks vs _, F, Sf, h => dictx_ok h
theorem okAll_ok (K : Ctx C P call d) : ∀ (t : Bool) (es : List E) (F : Fm), FS F d → okEs C.nm C.gt t es F.env.scope F.slots = true → ∀ e ∈ es, BothE C P F call N t e
  | t, [], F, _, _, e, he => by exact absurd he List.not_mem_nil
  | t, x :: r, F, Sf, h, e, he => by
    have h1 := okE_ok K t x F Sf (and2 h).1
    have h2 := okAll_ok K t r F Sf (and2 h).2
    exact (List.mem_cons.mp he).elim (fun q => q ▸ h1) (h2 e)
theorem okEs_ok (K : Ctx C P call d) : ∀ (es : List E) (F : Fm), FS F d → okEs C.nm C.gt false es F.env.scope F.slots = true → SEs C P F call N es
  | [], F, _, _ => ses_nil
  | x :: r, F, Sf, h => ses_cons (okE_ok K false x F Sf (and2 h).1) (okEs_ok K r F Sf (and2 h).2)
theorem okT_ok (K : Ctx C P call d) : ∀ (t : T) (F : Fm), FT F d → okT C.nm C.gt t F.env.scope F.slots = true → TT C P F call N t
  | .bad, F, _, _ => fun μ H s l a v I R V hb => absurd rfl hb
  | .name x i _, F, Sf, h => tt_nameC Sf (nmC_ok Sf.toFS h)
  | .attr o x a _, F, Sf, h => tt_attr K.G (okE_ok K false o F Sf.toFS (and2 h).1) (beq_iff_eq.mp (and2 h).2)
  | .item o i _, F, Sf, h => tt_item (okE_ok K false o F Sf.toFS (and2 h).1) (okE_ok K false i F Sf.toFS (and2 h).2)
  | .tup ts _ _, F, Sf, h => tt_tup Sf.toFS (okTs_ok K ts F Sf h)
theorem okTs_ok (K : Ctx C P call d) : ∀ (ts : List T) (F : Fm), FT F d → okTs C.nm C.gt ts F.env.scope F.slots = true → TTs C P F call N ts
  | [], F, _, _ => tts_nil
  | t :: r, F, Sf, h => tts_cons Sf.toFS (okT_ok K t F Sf (and2 h).1) (okTs_ok K r F Sf (and2 h).2)
end
end
end Mine
end
section
namespace Mine
open PySem PySem.W PySem.Calls PyProof.Rows
noncomputable def isTup : E → Bool
  | .tup .. => true
  | _ => false
noncomputable def isTupT : T → Bool
  | .tup .. => true
  | _ => false
noncomputable def nmTs : List T → Scope → List Str → Bool
  | [], _, _ => true
  | .name x i _ :: r, sc, sl => nmAt sc sl x i && (!((tNames r).contains x) && nmTs r sc sl)
  | _ :: _, _, _ => false
noncomputable def swapOk (ts : List T) (es : List E) (sc : Scope) (sl : List Str) : Bool :=
  (lenOdd (pyTs ts) (pys es) || namesOdd (pyTs ts) sc || (pys es).all (foldedForSure 8)) ||
  (!(pys es).all (constantsAlone 8) && (nmTs ts sc sl && swNames (pyTs ts) sc == tNames ts))
section
variable (nm : List Str) (gt : List (Str × AV))
variable (xk : Nat)
noncomputable def isExc (x : Str) (v : AV) : Bool := match v with
  | .cls k => decide (k = xk) && x == ("SnobolError" : Str)
  | _ => false
noncomputable def exIx : Nat := (idx "SnobolError" (gt.map (·.1)) 0).getD 0
noncomputable def exNm (sc : Scope) : Bool := (gt[exIx gt]?).any (fun p => isExc xk p.1 p.2) && sc.names.lookup ("SnobolError" : Str) == some .globalImplicit
noncomputable def okAsg (t : T) (e : E) (sc : Scope) (sl : List Str) : Bool := match e with
  | .comp elt tg it ifs sc' sl' cp p => (match t with
    | .name x j xp => ((nmAt sc sl x j && xp.line == p.line) && !(sc'.names.any fun (n, k) => n == x && (k == .local || k == .cell))) && okE nm gt false (.comp elt tg it ifs sc' sl' cp p) sc sl
    | _ => false)
  | .tup es k' p' => (match t with
    | .tup ts k p => okE nm gt false (.tup es k' p') sc sl && (okTs nm gt ts sc sl && swapOk ts es sc sl)
    | t => okE nm gt false (.tup es k' p') sc sl && okT nm gt t sc sl)
  | e => (notComp e && !isTup e) && (okE nm gt false e sc sl && okT nm gt t sc sl)
mutual
noncomputable def okS : S → Scope → List Str → Bool
  | .bad _, _, _ => true
  | .expr e _, sc, sl => notComp e && okE nm gt false e sc sl
  | .asg t e _, sc, sl => okAsg nm gt t e sc sl
  | .augN x i _ _ e _, sc, sl => nmAt sc sl x i && okE nm gt false e sc sl
  | .augA o x a _ _ e _, sc, sl => atName nm a x && (okE nm gt false o sc sl && okE nm gt false e sc sl)
  | .ret e _, sc, sl => okE nm gt false e sc sl
  | .ite c a b _, sc, sl => okE nm gt true c sc sl && (okSs a sc sl && okSs b sc sl)
  | .while_ c b _, sc, sl => okE nm gt true c sc sl && okSs b sc sl
  | .for_ t it b _, sc, sl => okT nm gt t sc sl && (okE nm gt false it sc sl && okSs b sc sl)
  | .cont _, _, _ => true
  | .raise num _ _ _ np .., sc, sl => (num == 22 && exNm gt xk sc) && okE nm gt false (.glob "SnobolError" (exIx gt) np) sc sl
  | .try_ b x i y j .., sc, sl => (exNm gt xk sc && (nmAt sc sl x i && nmAt sc sl y j)) && (!(x == ("__debug__" : Str)) && okS b sc sl)
noncomputable def okSs : List S → Scope → List Str → Bool
  | [], _, _ => true
  | x :: r, sc, sl => okS x sc sl && okSs r sc sl
end
end
section
variable {α β γ : Type} {C : Cx} {P : P0} {F : Fm} {call : Nat → List AV → AH → Out AV} {N : Nat} {μ : Mu} {H : AH} {s : Shared} {l : Loc} {d : Nat}
theorem sw_plain {t : T} {e : E} (h : isTup e = false) : swappedStores [pyT t] (py e) F.env = pure none := by
  induction t using T.casesOn with
  | tup ts k p => rcases e with _ | _ | _ | _ | _ | _ | _ | _ | _ | _ | _ | _ | _ | _ | _ | _ | _ | _ | _ | _ | _ | _ | _ | _ | _ <;> first | rfl | exact absurd h.symm Bool.false_ne_true
  | _ => rfl
theorem nmTs_ok : ∀ {ts : List T}, nmTs ts F.env.scope F.slots = true → Nms F ts
  | [], _ => .nil
  | .name x i p :: r, h => .cons x i p r (nmAt_ok (and2 h).1) (fun q => by
      have := not1 (and2 (and2 h).2).1
      rw [List.contains_iff_mem.mpr q] at this
      injection this) (nmTs_ok (and2 (and2 h).2).2)
  | .bad :: _, h => by exact absurd h Bool.false_ne_true
  | .attr _ _ _ _ :: _, h => by exact absurd h Bool.false_ne_true
  | .item _ _ _ :: _, h => by exact absurd h Bool.false_ne_true
  | .tup _ _ _ :: _, h => by exact absurd h Bool.false_ne_true
theorem asg_tup (K : Ctx C P call d) (Sf : FT F d) {ts : List T} {es : List E} {k k' : Nat} {pt pe p : Pos} (h1 : okE C.nm C.gt false (.tup es k' pe) F.env.scope F.slots = true) (h2 : okTs C.nm C.gt ts F.env.scope F.slots = true) (h3 : swapOk ts es F.env.scope F.slots = true) :
    SS C P F call N (.asg (.tup ts k pt) (.tup es k' pe) p) := by
  have he := okE_ok (N := N) K false (.tup es k' pe) F Sf.toFS h1
  cases h4 : (lenOdd (pyTs ts) (pys es) || namesOdd (pyTs ts) F.env.scope || (pys es).all (foldedForSure 8)) with
  | true => exact ss_asg rfl (swap_none h4) he (tt_tup Sf.toFS (okTs_ok K ts F Sf h2))
  | false =>
    unfold swapOk at h3
    rw [h4, Bool.false_or] at h3
    obtain ⟨h5, h6⟩ := and2 h3
    obtain ⟨q1, q3⟩ := Bool.or_eq_false_iff.mp h4
    obtain ⟨q1, q2⟩ := Bool.or_eq_false_iff.mp q1
    have hs := swap_some (k := k) (k' := k') (p := pt) (p' := pe) Sf.toFS q1 q2 q3 (not1 h5)
    rw [beq_iff_eq.mp (and2 h6).2] at hs
    exact ss_swap Sf.toFS hs he (nmTs_ok (and2 h6).1)
theorem asg_comp (K : Ctx C P call d) (Sf : FT F d) {x : Str} {j : Nat} {xp p sp : Pos} {elt it : E} {tg : T} {ifs : List E} {sc : Scope} {slots : List Str} {caps : List (Str × Nat)} (h1 : nmAt F.env.scope F.slots x j = true) (h2 : (xp.line == p.line) = true)
    (h3 : (sc.names.any fun (n, k) => n == x && (k == .local || k == .cell)) = false) (h : okE C.nm C.gt false (.comp elt tg it ifs sc slots caps p) F.env.scope F.slots = true) : SS C P F call N (.asg (.name x j xp) (.comp elt tg it ifs sc slots caps p) sp) := by
  obtain ⟨g1, g2⟩ := and2 h
  obtain ⟨g1, g3⟩ := and2 g1
  obtain ⟨g4, g5⟩ := and2 g2
  have W := scOk_ok Sf.toFS g3
  have S' := fun c => Sf.toFS.comp W c
  exact ss_comp Sf.toFS (nmAt_ok h1).slot (nmAt_ok h1).loc ⟨beq_iff_eq.mp h2, h3⟩ W (okE_ok K false it F Sf.toFS g1) (fun c => tg_ok (S' c) g4) (fun c => okAll_ok K true ifs (Fk F sc slots caps c) (S' c) (and2 g5).1) fun c => okE_ok K false elt (Fk F sc slots caps c) (S' c) (and2 g5).2
theorem asg_plain (K : Ctx C P call d) (Sf : FT F d) {t : T} {e : E} {p : Pos} (h : ((notComp e && !isTup e) && (okE C.nm C.gt false e F.env.scope F.slots && okT C.nm C.gt t F.env.scope F.slots)) = true) : SS C P F call N (.asg t e p) :=
  ss_asg (and2 (and2 h).1).1 (sw_plain (not1 (and2 (and2 h).1).2)) (okE_ok K false e F Sf.toFS (and2 (and2 h).2).1) (okT_ok K t F Sf (and2 (and2 h).2).2)
theorem asg_tupv (K : Ctx C P call d) (Sf : FT F d) {t : T} {es : List E} {k : Nat} {pe p : Pos} (h : (okE C.nm C.gt false (.tup es k pe) F.env.scope F.slots && okT C.nm C.gt t F.env.scope F.slots) = true) (q : swappedStores [pyT t] (py (.tup es k pe)) F.env = pure none) : SS C P F call N (.asg t (.tup es k pe) p) :=
  ss_asg rfl q (okE_ok K false _ F Sf.toFS (and2 h).1) (okT_ok K _ F Sf (and2 h).2)
theorem okAsg_tup (K : Ctx C P call d) (Sf : FT F d) {t : T} {es : List E} {k' : Nat} {pe p : Pos} (h : okAsg C.nm C.gt t (.tup es k' pe) F.env.scope F.slots = true) : SS C P F call N (.asg t (.tup es k' pe) p) := by
  induction t using T.casesOn with
  | tup ts k pt =>
    have h : (okE C.nm C.gt false (.tup es k' pe) F.env.scope F.slots && (okTs C.nm C.gt ts F.env.scope F.slots && swapOk ts es F.env.scope F.slots)) = true := h
    exact asg_tup K Sf (and2 h).1 (and2 (and2 h).2).1 (and2 (and2 h).2).2
  | _ => exact asg_tupv K Sf h rfl
theorem okAsg_comp (K : Ctx C P call d) (Sf : FT F d) {t tg : T} {elt it : E} {ifs : List E} {sc' : Scope} {sl' : List Str} {cp : List (Str × Nat)} {pp p : Pos} (h : okAsg C.nm C.gt t (.comp elt tg it ifs sc' sl' cp pp) F.env.scope F.slots = true) : SS C P F call N (.asg t (.comp elt tg it ifs sc' sl' cp pp) p) := by
  induction t using T.casesOn with
  | name x j xp =>
    have h : (((nmAt F.env.scope F.slots x j && xp.line == pp.line) && !(sc'.names.any fun (n, k) => n == x && (k == .local || k == .cell))) && okE C.nm C.gt false (.comp elt tg it ifs sc' sl' cp pp) F.env.scope F.slots) = true := h
    exact asg_comp K Sf (and2 (and2 (and2 h).1).1).1 (and2 (and2 (and2 h).1).1).2 (not1 (and2 (and2 h).1).2) (and2 h).2
  | _ => exact ff h
theorem okAsg_ok (K : Ctx C P call d) (Sf : FT F d) {t : T} {e : E} {p : Pos} (h : okAsg C.nm C.gt t e F.env.scope F.slots = true) : SS C P F call N (.asg t e p) := by
  induction e using E.casesOn with
  | tup es k' pe => exact okAsg_tup K Sf h
  | comp elt tg it ifs sc' sl' cp pp => exact okAsg_comp K Sf h
  | _ => exact asg_plain K Sf h
set_option tactic.hygienic true
theorem exNm_ok {xk : Nat} {gt : List (Str × AV)} {sc : Scope} (h : exNm gt xk sc = true) : gt[exIx gt]? = some (("SnobolError" : Str), AV.cls xk) ∧ sc.names.lookup ("SnobolError" : Str) = some .globalImplicit := by
  obtain ⟨h1, h2⟩ := and2 h
  refine ⟨?_, beq_iff_eq.mp h2⟩
  cases q : gt[exIx gt]? with
  | none => rw [q] at h1; exact absurd h1 Bool.false_ne_true
  | some y =>
    obtain ⟨x, v⟩ := y
    rw [q] at h1
    have h4 : isExc xk x v = true := h1
    clear h1
    induction v using Mine.AV.casesOn <;> first | exact absurd h4 Bool.false_ne_true | skip
    rename_i k
    have h3 : (decide (k = xk) && x == ("SnobolError" : Str)) = true := h4
    rw [of_decide_eq_true (and2 h3).1, beq_iff_eq.mp (and2 h3).2]
set_option tactic.hygienic false
mutual
theorem okS_ok (K : Ctx C P call d) {D : ExD} {fI : Addr} (X : ExIni C.prog C.ex D C.base fI) (Sf : FT F d) : ∀ (t : S), okS C.nm C.gt C.exK t F.env.scope F.slots = true → SS C P F call N t
  | .bad _, _ => fun μ H s l I R hb => absurd rfl hb
  | .expr e _, h => ss_expr Sf.toFS (and2 h).1 (okE_ok K false e F Sf.toFS (and2 h).2)
  | .asg t e _, h => okAsg_ok K Sf h
  | .augN x i _ _ e _, h => ss_augN Sf.toFS (nmAt_ok (and2 h).1).slot (nmAt_ok (and2 h).1).loc (okE_ok K false e F Sf.toFS (and2 h).2)
  | .augA o x a _ _ e _, h => ss_augA K.G (beq_iff_eq.mp (and2 h).1) (okE_ok K false o F Sf.toFS (and2 (and2 h).2).1) (okE_ok K false e F Sf.toFS (and2 (and2 h).2).2)
  | .ret e _, h => ss_ret (okE_ok K false e F Sf.toFS h)
  | .ite c a b _, h => ss_ite (okE_ok K true c F Sf.toFS (and2 h).1) (okSs_ok K X Sf a (and2 (and2 h).2).1) (okSs_ok K X Sf b (and2 (and2 h).2).2)
  | .while_ c b _, h => ss_while Sf (okE_ok K true c F Sf.toFS (and2 h).1) (okSs_ok K X Sf b (and2 h).2)
  | .for_ t it b _, h => ss_for Sf (okT_ok K t F Sf (and2 h).1) (okE_ok K false it F Sf.toFS (and2 (and2 h).2).1) (okSs_ok K X Sf b (and2 (and2 h).2).2)
  | .cont _, _ => ss_cont
  | .raise num k1 k2 told np cp p1 p2 p, h => by
    obtain ⟨h1, h2⟩ := and2 h
    obtain ⟨h1, h3⟩ := and2 h1
    rw [beq_iff_eq.mp h1]
    exact ss_raise Sf X (exNm_ok h3).1 (okE_ok K false (.glob "SnobolError" (exIx C.gt) np) F Sf.toFS h2)
  | .try_ b x i y j np xp ap sp sq hp p, h => by
    obtain ⟨h1, h2⟩ := and2 h
    obtain ⟨h1, h3⟩ := and2 h1
    obtain ⟨mg, mb, hN⟩ := K.N
    exact ss_try Sf X hN (exNm_ok h1).1 (exNm_ok h1).2 (nmAt_ok (and2 h3).1).slot (nmAt_ok (and2 h3).1).loc (not1 (and2 h2).1) (nmAt_ok (and2 h3).2).slot (nmAt_ok (and2 h3).2).loc (okS_ok K X Sf b (and2 h2).2)
theorem okSs_ok (K : Ctx C P call d) {D : ExD} {fI : Addr} (X : ExIni C.prog C.ex D C.base fI) (Sf : FT F d) : ∀ (ts : List S), okSs C.nm C.gt C.exK ts F.env.scope F.slots = true → SSs C P F call N ts
  | [], _ => sss_nil
  | t :: r, h => sss_cons (okS_ok K X Sf t (and2 h).1) (okSs_ok K X Sf r (and2 h).2)
end
end
end Mine
end
section
namespace Mine
open PySem PySem.W PySem.Calls PyProof.Rows
structure FnOk (C : Cx) (P : P0) (k : Nat) (o : Obj) (fd : FuncData) (ps more : List Str) (b : List S) : Prop where
  at_ : C.K.lookup (C.fnA k) = some o
  dat : o.data = .func fd
  src : fd.body = .stmts (pySs b)
  code : codeIn C.K fd.code fd.qualname = true
  clo : fd.closure = []
  glob : fd.globals = mainGlobals
  blt : fd.builtins = builtinsNs
  bind : ∀ vs : List Value, vs.length = ps.length → bindArgs fd ⟨vs, []⟩ = pure (ps.zip vs)
  body : P.body k = some (ps.length, more.length, stSs C.gt b)
  ok : okSs C.nm C.gt C.exK b fd.scope (ps ++ more) = true
  kind : fd.scope.kind = .function
  co : fd.scope.isCoroutine = false
  gen : fd.scope.isGenerator = false
  nm : (fd.scope.names.map (·.1)).Nodup
  par : ∀ x ∈ ps, fd.scope.names.lookup x = some .local
  nodup : (ps ++ more).Nodup
inductive FnAt (C : Cx) (P : P0) (k : Nat) : Prop where
  | mk (o : Obj) (fd : FuncData) (ps more : List Str) (b : List S) (W : FnOk C P k o fd ps more b)
noncomputable def FnsOk (C : Cx) (P : P0) : Prop := ∀ k, (P.body k).isSome = true → FnAt C P k
theorem bindL_skip {kd : Str → Option NameKind} {x : Str} : ∀ (z : List (Str × Value)) (m : Str → Option Value), (∀ p ∈ z, p.1 ≠ x) → bindL kd z m x = m x
  | [], _, _ => rfl
  | (n, v) :: r, m, h => by
    unfold bindL
    rw [bindL_skip r _ fun p hp => h p (List.mem_cons_of_mem _ hp)]
    split
    · show (if x = n then some v else m x) = m x
      rw [if_neg (Ne.symm (h _ List.mem_cons_self))]
    · rfl
theorem bindL_get {kd : Str → Option NameKind} {x : Str} {v : Value} : ∀ {ps : List Str} {vs : List Value} {i : Nat} (m : Str → Option Value), (∀ y ∈ ps, kd y = some .local) → ps.Nodup → ps[i]? = some x → vs[i]? = some v → bindL kd (ps.zip vs) m x = some v
  | [], _, _, _, _, _, h, _ => by injection h
  | _ :: _, [], _, _, _, _, _, h => by injection h
  | p :: ps, w :: vs, 0, m, hk, hn, h1, h2 => by
    cases  h1; cases  h2
    rw [List.zip_cons_cons]
    unfold bindL
    have hx : ∀ q ∈ ps.zip vs, q.1 ≠ x := fun q hq e => (List.nodup_cons.mp hn).1 (by rw [← e]; exact (List.of_mem_zip (a := q.1) (b := q.2) hq).1)
    rw [bindL_skip _ _ hx, if_pos (hk _ List.mem_cons_self)]
    exact if_pos rfl
  | p :: ps, w :: vs, i + 1, m, hk, hn, h1, h2 => by
    rw [List.zip_cons_cons]
    unfold bindL
    exact bindL_get _ (fun y hy => hk y (List.mem_cons_of_mem _ hy)) (List.nodup_cons.mp hn).2 h1 h2
theorem cells_key {x : Str} : ∀ (names : List (Str × NameKind)) (n : Nat) (acc : List (Str × Addr)), ((x, NameKind.cell) ∈ names ∨ ∃ c, (x, c) ∈ acc) → ∃ c, (x, c) ∈ cellsFrom n names acc
  | [], _, acc, h => h.elim (fun h => by exact absurd h List.not_mem_nil) id
  | (y, k) :: r, n, acc, h => by
    unfold cellsFrom
    rcases h with h | ⟨c, h⟩
    · rcases List.mem_cons.mp h with h | h
      · (injection h with j1 j2; subst j1 j2)
        rw [if_pos (by rfl)]
        exact cells_key r _ _ (.inr ⟨_, List.mem_cons_self⟩)
      · split <;> exact cells_key r _ _ (.inl h)
    · split
      · exact cells_key r _ _ (.inr ⟨c, List.mem_cons_of_mem _ h⟩)
      · exact cells_key r _ _ (.inr ⟨c, h⟩)
theorem cells_nodup : ∀ (names : List (Str × NameKind)) (n : Nat) (acc : List (Str × Addr)), (names.map (·.1) ++ acc.map (·.1)).Nodup → ((cellsFrom n names acc).map (·.1)).Nodup
  | [], _, acc, h => by simpa [cellsFrom] using h
  | (y, k) :: r, n, acc, h => by
    rw [List.map_cons, List.cons_append] at h
    unfold cellsFrom
    split
    · refine cells_nodup r _ _ ?_
      rw [List.map_cons]
      exact (List.perm_middle.nodup_iff).mpr h
    · exact cells_nodup r _ _ (List.nodup_cons.mp h).2
theorem lookup_nodup {α : Type} : ∀ {l : List (Str × α)}, (l.map (·.1)).Nodup → ∀ p ∈ l, l.lookup p.1 = some p.2
  | (y, d) :: r, hn, p, hp => by
    rw [List.map_cons] at hn
    obtain ⟨h1, h2⟩ := List.nodup_cons.mp hn
    rw [List.lookup_cons]
    rcases List.mem_cons.mp hp with rfl | hp
    · rw [beq_self_eq_true]
    · have : (p.1 == y) = false := beq_eq_false_iff_ne.mpr fun q => h1 (List.mem_map.mpr ⟨p, hp, q⟩)
      rw [this]
      exact lookup_nodup h2 p hp
section
variable {C : Cx} {P : P0} {N : Nat}
theorem run_eq {call : Nat → List AV → AH → Out AV} {k np ns : Nat} {b : List S0} {args : List AV} {H : AH} (h : P.body k = some (np, ns, b)) : runFn P call N k args H = if args.length = np then
      match evSs P call N b (args.map some ++ List.replicate ns none) H with
      | .ok (.ret v) _ H => .ok v H
      | .ok .next _ H => .ok .none H
      | .ok _ _ _ => .bad
      | .exc _ H => .exc H
      | .bad => .bad
    else .bad := by
  unfold runFn
  rw [h]
  all_goals rfl
noncomputable def fmOf (A : Around) (fs : List Env) (en : Env) (sl : List Str) : Fm := ⟨en, sl, en :: fs, A.deeper en, en.locals :: en.cells.map (·.2)⟩
theorem call_ft {A : Around} {d : Nat} {fs : List Env} {en : Env} {sl : List Str} (hA : AOk (d + 1) fs A) (hk : en.scope.kind = .function) (eg : en.globals = mainGlobals) (eb : en.builtins = builtinsNs) (hsl : sl.Nodup)
    (hc : ∀ x, en.scope.names.lookup x = some .cell → ∃ c, en.cells.lookup x = some c) (hap : en.cells.Pairwise fun x y => x.2 ≠ y.2) : FT (fmOf A fs en sl) d := by
  refine ⟨⟨hA.handled, PySem.Around.frames_deeper hA.frames, ?_, ?_, hk, eg, eb, hsl, List.mem_cons_self, fun a h => ?_, hc⟩, ⟨fs, rfl⟩, fun p hp => List.mem_cons_of_mem _ (List.mem_map_of_mem hp), hap⟩
  · show A.depth + 1 + 4 * d + 2 < 990
    have := hA.depth
    lia
  · show A.units + 3 + 16 * d + 8 < 9000
    have := hA.units
    lia
  · rcases List.mem_cons.mp h with h | h
    · exact .inl h
    · obtain ⟨p, hp, e⟩ := List.mem_map.mp h
      exact .inr ⟨p, hp, e.symm⟩
theorem call_frs {μ : Mu} {H : AH} {s : Shared} {h₀ : Heap} {tk : Nat} {fs : List Env} {en : Env} {m : Str → Option Value} (I : Inv C μ H s.heap) (hfs : Frs C μ s.heap fs) (S1 : Step NoX μ s μ { s with heap := h₀, toks := tk }) (hkind : en.scope.kind = .function) (ef : en.frame = some en.locals) (hL : s.heap.get? en.locals = none) (hns : h₀.Ns en.locals m) : Frs C μ h₀ (en :: fs) := by
  have F0 := hfs.step S1 fun _ _ => id
  obtain ⟨o, es', ep, eo, hd, _⟩ := hns
  refine ⟨⟨(by rw [hkind]; intro q; injection q), ⟨en.locals, o, ef, base_none I hL, eo, fun vs q => by rw [hd] at q; injection q⟩, F0.fun_⟩, fun L hL' => ?_⟩
  rw [List.filterMap_cons, ef] at hL'
  rcases List.mem_cons.mp hL' with rfl | hL'
  · exact ⟨I.free hL, o, es', ep, eo, hd⟩
  · exact F0.each L hL'
theorem call_fr {μ : Mu} {H : AH} {s : Shared} {h₀ : Heap} {tk : Nat} {A : Around} {fs : List Env} {en : Env} {ps more : List Str} {args : List AV} {vs : List Value} (I : Inv C μ H s.heap) (V : VRs C μ s.heap args vs) (S1 : Step NoX μ s μ { s with heap := h₀, toks := tk }) (F1 : Frs C μ h₀ (en :: fs))
    (hL : s.heap.get? en.locals = none) (hnone : ∀ p ∈ en.cells, s.heap.get? p.2 = none ∧ p.2 ≠ en.locals ∧ ∃ v, h₀.IsCell p.2 v) (hloc : ∀ y ∈ ps, en.kindOf y = some .local) (hnd : ps.Nodup) (hlen : args.length = ps.length)
    (hns : h₀.Ns en.locals (bindL en.kindOf (ps.zip vs) fun _ => none)) : FR C (fmOf A fs en (ps ++ more)) μ (args.map some ++ List.replicate more.length none) h₀ := by
  refine ⟨⟨_, hns, fun i x v hi hl => ?_⟩, I.free hL, base_none I hL, (by rw [List.length_append, List.length_map, List.length_replicate, hlen]; exact List.length_append.symm), fun p hp => ?_, F1⟩
  · rcases Nat.lt_or_ge i args.length with q | q
    · rw [List.getElem?_append_left (by rw [List.length_map]; exact q), List.getElem?_map] at hl
      have hi : (ps ++ more)[i]? = some x := hi
      rw [List.getElem?_append_left (hlen ▸ q)] at hi
      obtain ⟨a, ha, hv⟩ := Option.map_eq_some_iff.mp hl
      (injection hv with j1; subst j1)
      obtain ⟨rv, e, Vv⟩ := V.get ha
      refine ⟨rv, ?_, Vv.step0 S1⟩
      unfold At
      rw [show (fmOf A fs en (ps ++ more)).env.kindOf x = some .local from hloc x (List.mem_of_getElem? hi)]
      exact bindL_get _ hloc hnd hi e
    · rw [List.getElem?_append_right (by rw [List.length_map]; exact q), List.getElem?_replicate] at hl
      split at hl <;> (first | (injection hl; done) | (injection hl with j1; injection j1; done))
  · obtain ⟨h1, h2, h3⟩ := hnone p hp
    exact ⟨I.free h1, base_none I h1, h2, h3⟩
structure EnOk (C : Cx) (s : Shared) (fd : FuncData) (en : Env) : Prop where
  el : en.locals = s.heap.objs.size
  ef : en.frame = some en.locals
  es : en.scope = fd.scope
  ec : en.cells = cellsFrom (s.heap.objs.size + 1) fd.scope.names []
  eg : en.globals = mainGlobals
  eb : en.builtins = builtinsNs
theorem calls_ok (G : CGood C P) (hN : ∃ mg mb, GName C mg mb) (hlim : C.base.NoLimit) {D : ExD} {fI : Addr} (X : ExIni C.prog C.ex D C.base fI) (hF : FnsOk C P) : ∀ d A fs, AOk d fs A → CallOk C fs A (callD P N d)
  | 0, A, fs, _ => fun k args vs μ H s _ _ _ hb => absurd rfl hb
  | d + 1, A, fs, hA => fun k args vs μ H s hfs I V => by
    have ih := calls_ok G hN hlim X hF d
    rw [show callD P N (d + 1) k args H = runFn P (callD P N d) N k args H from rfl]
    cases hbody : P.body k with
    | none => exact fun hb => absurd (by unfold runFn; rw [hbody]) hb
    | some bd =>
      obtain ⟨o, fd, ps, more, b, W⟩ := hF k (by rw [hbody]; rfl)
      rw [run_eq W.body]
      intro hb Q E Po
      show codeAny (model C.prog C.w) A (.call (.ref (C.fnA k)) ⟨vs, []⟩) _ s
      by_cases hlen : args.length = ps.length
      · rw [if_pos hlen] at Po hb
        have hX := I.inK G.toGood
        refine codeAny_call_cells (body := pySs b) (binds := ps.zip vs) (Nat.lt_trans (Nat.lt_of_le_of_lt (Nat.le_add_right _ _) hA.depth) (by decide)) (hX _ _ W.at_) W.dat (hlim.keeps I.stays) (codeRec_of hX W.code) W.src
          (W.bind vs (by rw [← hlen, V.len])) W.clo (fun y hy => .inl (W.par _ (List.of_mem_zip (a := y.1) (b := y.2) hy).1)) (fun s₁ hc => ?_) W.co W.gen W.kind
        have en_ok : EnOk C s fd (callEnvC fd s.heap.objs.size (C.fnA k)) := ⟨rfl, rfl, rfl, rfl, W.glob, W.blt⟩
        generalize callEnvC fd s.heap.objs.size (C.fnA k) = en at hc en_ok ⊢
        obtain ⟨el, ef, es, ec, eg, eb⟩ := en_ok
        obtain ⟨⟨⟨h₀, tk, rfl⟩, hns, hk, hfr⟩, hcell, hapart, habove⟩ := hc
        have hk : ∀ b o, s.heap.get? b = some o → h₀.get? b = some o := hk
        have S1 : Step NoX μ s μ { s with heap := h₀, toks := tk } := Step.keep μ hk _
        have hLn' : s.heap.get? en.locals = none := by rw [el]; exact size_none s.heap
        have hkind : en.scope.kind = .function := by rw [es]; exact W.kind
        have hnone : ∀ p ∈ en.cells, s.heap.get? p.2 = none := fun p hp => by
          cases q : s.heap.get? p.2 with
          | none => rfl
          | some o =>
            have h2 := habove p.1 p.2 hp
            rw [el] at h2
            exact absurd (Nat.lt_trans h2 (Heap.lt_size q)) (Nat.lt_irrefl _)
        have hlk : ∀ p ∈ en.cells, en.cells.lookup p.1 = some p.2 := by
          rw [ec]
          exact lookup_nodup (cells_nodup _ _ _ (by simpa using W.nm))
        have Sf : FT (fmOf A fs en (ps ++ more)) d := call_ft hA hkind eg eb W.nodup (fun x h => by
          rw [es] at h
          obtain ⟨c, hc⟩ := cells_key fd.scope.names (s.heap.objs.size + 1) [] (.inl (mem_of_lookup h))
          obtain ⟨c', h', _⟩ := key_lookup hc
          exact ⟨c', by rw [ec]; exact h'⟩) hapart
        have R1 : FR C (fmOf A fs en (ps ++ more)) μ (args.map some ++ List.replicate more.length none) h₀ :=
          call_fr I V S1 (call_frs I hfs S1 hkind ef hLn' hns) hLn' (fun p hp => ⟨hnone p hp, fun q => absurd (habove p.1 p.2 hp) (by rw [q]; exact Nat.lt_irrefl _), _, hcell p.1 p.2 (hlk p hp)⟩) (fun y hy => by
            show en.scope.names.lookup y = _; rw [es]; exact W.par y hy) (List.nodup_append.mp W.nodup).1 hlen hns
        have hLX : ∀ a, LX (fmOf A fs en (ps ++ more)) a → NoX a ∨ s.heap.get? a = none := fun a q => .inr (by
          rcases List.mem_cons.mp q with rfl | q
          · exact hLn'
          · obtain ⟨p, hp, rfl⟩ := List.mem_map.mp q
            exact hnone p hp)
        have hok : okSs C.nm C.gt C.exK b (fmOf A fs en (ps ++ more)).env.scope (fmOf A fs en (ps ++ more)).slots = true := by
          show okSs C.nm C.gt C.exK b en.scope (ps ++ more) = true; rw [es]; exact W.ok
        have hk' := hk
        clear hns hk hfr hcell hapart habove hnone hlk el ef es ec eg eb W hX
        refine okSs_ok (P := P) (call := callD P N d) (N := N) (F := fmOf A fs en (ps ++ more)) ⟨G, hN, ih⟩ X Sf b hok μ H _ _ (I.keep hk') R1 (fun q => hb (by rw [q])) _ _ ⟨fun μ' fl l' H' f s' e S2 I2 R2 V2 => ?_, fun μ' l' H' e s' q S2 I2 R2 Y => ?_⟩
        · rw [e] at Po hb
          rcases fl with _ | _ | a
          · obtain rfl := V2
            exact Po.ok μ' .none H' .none s' rfl (S1.trans S2 hLX) I2 (by simp only [VRel, VR])
          · exact absurd rfl hb
          · obtain ⟨v, rfl, V2⟩ := V2
            exact Po.ok μ' a H' v s' rfl (S1.trans S2 hLX) I2 V2
        · rw [q] at Po
          refine leave_snd Sf ⟨S2, I2, R2⟩ Y fun s'' Y2 y2 => ?_
          exact Po.exc μ' H' e s'' rfl (S1.trans Y2.st hLX) Y2.inv (y2.older S1.older)
      · rw [if_neg hlen] at hb; exact absurd rfl hb
end
end Mine
end
section
namespace Mine
open PySem
noncomputable def w0c : E0 := .cmp (.call (.val (.bi .len)) [.loc 3]) [.Gt] [.val (.int 0)]
noncomputable def w0 : List S0 := [.asg (.name 4) (.meth (.loc 3) 1 []), .ite (.cmp (.item (.loc 4) (.val (.int 0))) [.Eq] [.loc 1]) [.expr (.meth (.loc 3) 2 [.list [.item (.loc 4) (.val (.int 2)), .item (.loc 4) (.val (.int 1))]])] [.expr (.meth (.loc 2) 0 [.loc 4])]]
noncomputable def b0 : List S0 := [.asg (.tup [.name 2, .name 3]) (.tup [.list [], .list [.loc 0]]), .while_ w0c w0, .ret (.loc 2)]
noncomputable def b1 : List S0 := [.ret (.bop .And [.cmp (.item (.loc 0) (.val (.int 0))) [.Eq] [.val (.str [99, 104, 97, 114, 115])], .call (.val (.bi .isi)) [.item (.loc 0) (.val (.int 1)), .val (.bi .str)]])]
noncomputable def f2t : T0 := .name 2
noncomputable def f2 : List S0 := [.ite (.call (.val (.fn 1)) [.loc 2]) [.ite (.cmp (.item (.loc 2) (.val (.int 1))) [.Eq] [.val (.str [])]) [.cont] [], .ite (.bop .And [.cmp (.call (.val (.bi .len)) [.loc 1]) [.Gt] [.val (.int 0)], .call (.val (.fn 1)) [.item (.loc 1) (.bin (.call (.val (.bi .len)) [.loc 1]) .Sub (.val (.int 1)))]]) [.asg (.name 2) (.tup [.val (.str [99, 104, 97, 114, 115]), .bin (.item (.meth (.loc 1) 1 []) (.val (.int 1))) .Add (.item (.loc 2) (.val (.int 1)))])] []] [], .expr (.meth (.loc 1) 0 [.loc 2])]
noncomputable def b2 : List S0 := [.asg (.name 1) (.list []), .for_ f2t (.loc 0) f2, .ret (.loc 1)]
noncomputable def b3 : List S0 := [.asg (.attr (.loc 0) 9) (.list [])]
noncomputable def b4 : List S0 := [.expr (.meth (.attr (.loc 0) 9) 0 [.loc 1]), .ret (.bin (.call (.val (.bi .len)) [.attr (.loc 0) 9]) .Sub (.val (.int 1)))]
noncomputable def w5c : E0 := .cmp (.call (.val (.bi .len)) [.loc 2]) [.Gt] [.val (.int 0)]
noncomputable def w5 : List S0 := [.asg (.tup [.name 3, .name 4]) (.meth (.loc 2) 1 []), .ite (.cmp (.loc 3) [.Eq] [.val (.str [112, 117, 116])]) [.expr (.meth (.loc 2) 2 [.slice (.meth (.loc 0) 29 [.loc 4]) (.val (.none)) (.val (.none)) (.neg (.val (.int 1)))])] [.ite (.cmp (.loc 3) [.Eq] [.val (.str [101, 109, 105, 116])]) [.expr (.meth (.loc 0) 27 [.loc 4])] [.expr (.meth (.loc 0) 32 [.loc 3, .loc 4])]]]
noncomputable def b5 : List S0 := [.asg (.name 2) (.list [.tup [.val (.str [112, 117, 116]), .loc 1]]), .while_ w5c w5]
noncomputable def c6 : E0 := .tup [.val (.str [112, 117, 116]), .loc 1]
noncomputable def c6t : T0 := .name 1
noncomputable def b6 : List S0 := [.asg (.name 2) (.item (.loc 1) (.val (.int 0))), .ite (.cmp (.loc 2) [.Eq] [.val (.str [99, 97, 116])]) [.ret (.comp c6 c6t (.call (.val (.fn 2)) [.call (.val (.fn 0)) [.loc 1, .val (.str [99, 97, 116])]]) []  2 [])] [], .ite (.cmp (.loc 2) [.Eq] [.val (.str [97, 108, 116])]) [.ret (.meth (.loc 0) 30 [.call (.val (.fn 0)) [.loc 1, .val (.str [97, 108, 116])]])] [], .ite (.cmp (.loc 2) [.Eq] [.val (.str [97, 114, 98, 110, 111])]) [.ret (.meth (.loc 0) 31 [.item (.loc 1) (.val (.int 1))])] [], .ite (.bop .Or [.cmp (.loc 2) [.Eq] [.val (.str [108, 97, 116, 101, 114])], .cmp (.loc 2) [.Eq] [.val (.str [110, 111, 119])]]) [.expr (.meth (.loc 0) 27 [.tup [.val (.str [109, 97, 114, 107])]]), .ret (.list [.tup [.val (.str [112, 117, 116]), .item (.loc 1) (.val (.int 1))], .tup [.val (.str [101, 109, 105, 116]), .tup [.ite (.cmp (.loc 2) [.Eq] [.val (.str [108, 97, 116, 101, 114])]) (.val (.str [110, 97, 109, 101])) (.val (.str [115, 101, 116])), .item (.loc 1) (.val (.int 2))]]])] [], .ite (.cmp (.loc 2) [.In] [.val (.tup [.str [99, 104, 97, 114, 115], .str [108, 101, 110], .str [112, 111, 115], .str [114, 112, 111, 115], .str [116, 97, 98], .str [114, 116, 97, 98], .str [97, 110, 121], .str [110, 111, 116, 97, 110, 121], .str [115, 112, 97, 110], .str [98, 114, 101, 97, 107], .str [114, 101, 109]])]) [.expr (.meth (.loc 0) 27 [.tup [.val (.str [111, 110, 101]), .loc 2, .ite (.cmp (.call (.val (.bi .len)) [.loc 1]) [.Gt] [.val (.int 1)]) (.item (.loc 1) (.val (.int 1))) (.val (.none))]])] [.ite (.bop .Or [.cmp (.loc 2) [.Eq] [.val (.str [97, 114, 98])], .cmp (.loc 2) [.Eq] [.val (.str [98, 97, 108])]]) [.expr (.meth (.loc 0) 27 [.tup [.val (.str [119, 97, 121, 115]), .loc 2]])] [.expr (.meth (.loc 0) 27 [.ite (.cmp (.loc 2) [.In] [.val (.tup [.str [102, 101, 110, 99, 101], .str [102, 97, 105, 108], .str [97, 98, 111, 114, 116], .str [115, 117, 99, 99, 101, 101, 100]])]) (.tup [.loc 2]) (.tup [.ite (.cmp (.loc 2) [.Eq] [.val (.str [99, 117, 114, 115, 111, 114])]) (.val (.str [112, 108, 97, 99, 101])) (.val (.str [97, 115, 107])), .item (.loc 1) (.val (.int 1))])])]], .ret (.list [])]
noncomputable def f7t : T0 := .name 4
noncomputable def f7 : List S0 := [.expr (.meth (.loc 2) 2 [.list [.tup [.val (.str [111, 112, 101, 110]), .loc 3], .tup [.val (.str [112, 117, 116]), .loc 4], .tup [.val (.str [115, 104, 117, 116]), .loc 3]]])]
noncomputable def b7 : List S0 := [.asg (.tup [.name 2, .name 3]) (.tup [.list [], .list [.neg (.val (.int 1)), .list []]]), .for_ f7t (.slice (.loc 1) (.val (.none)) (.bin (.call (.val (.bi .len)) [.loc 1]) .Sub (.val (.int 1))) (.val (.none))) f7, .ret (.bin (.loc 2) .Add (.list [.tup [.val (.str [112, 117, 116]), .item (.loc 1) (.bin (.call (.val (.bi .len)) [.loc 1]) .Sub (.val (.int 1)))], .tup [.val (.str [109, 101, 101, 116]), .loc 3]]))]
noncomputable def b8 : List S0 := [.asg (.name 2) (.meth (.loc 0) 27 [.val (.none)]), .asg (.name 3) (.meth (.loc 0) 27 [.val (.none)]), .asg (.item (.attr (.loc 0) 9) (.loc 2)) (.tup [.val (.str [115, 112, 108, 105, 116]), .call (.val (.bi .len)) [.attr (.loc 0) 9]]), .expr (.meth (.loc 0) 27 [.tup [.val (.str [109, 97, 114, 107])]]), .ret (.list [.tup [.val (.str [112, 117, 116]), .loc 1], .tup [.val (.str [101, 109, 105, 116]), .tup [.val (.str [103, 97, 105, 110])]], .tup [.val (.str [101, 109, 105, 116]), .tup [.val (.str [106, 117, 109, 112]), .loc 2]], .tup [.val (.str [109, 101, 101, 116]), .list [.loc 2, .list [.loc 3]]]])]
noncomputable def f9t : T0 := .name 3
noncomputable def f9 : List S0 := [.asg (.item (.attr (.loc 0) 9) (.loc 3)) (.tup [.val (.str [106, 117, 109, 112]), .call (.val (.bi .len)) [.attr (.loc 0) 9]])]
noncomputable def b9 : List S0 := [.ite (.cmp (.loc 1) [.Eq] [.val (.str [111, 112, 101, 110])]) [.asg (.item (.loc 2) (.val (.int 0))) (.meth (.loc 0) 27 [.val (.none)])] [.ite (.cmp (.loc 1) [.Eq] [.val (.str [115, 104, 117, 116])]) [.expr (.meth (.item (.loc 2) (.val (.int 1))) 0 [.meth (.loc 0) 27 [.val (.none)]]), .asg (.item (.attr (.loc 0) 9) (.item (.loc 2) (.val (.int 0)))) (.tup [.val (.str [115, 112, 108, 105, 116]), .call (.val (.bi .len)) [.attr (.loc 0) 9]])] [.for_ f9t (.item (.loc 2) (.val (.int 1))) f9]]]
noncomputable def w10c : E0 := .cmp (.item (.item (.loc 0) (.loc 3)) (.val (.int 0))) [.Eq] [.val (.str [106, 117, 109, 112])]
noncomputable def w10 : List S0 := [.asg (.name 3) (.item (.item (.loc 0) (.loc 3)) (.val (.int 1)))]
noncomputable def f102t : T0 := .name 2
noncomputable def f102 : List S0 := [.ite (.cmp (.item (.loc 2) (.val (.int 0))) [.In] [.tup [.val (.str [106, 117, 109, 112]), .val (.str [115, 112, 108, 105, 116])]]) [.asg (.name 3) (.item (.loc 2) (.val (.int 1))), .while_ w10c w10, .asg (.name 2) (.tup [.item (.loc 2) (.val (.int 0)), .loc 3])] [], .expr (.meth (.loc 1) 0 [.loc 2])]
noncomputable def b10 : List S0 := [.asg (.name 1) (.list []), .for_ f102t (.loc 0) f102, .ret (.loc 1)]
noncomputable def b11 : List S0 := [.asg (.name 1) (.call (.val (.cls 0)) []), .expr (.meth (.loc 1) 28 [.loc 0]), .expr (.meth (.loc 1) 27 [.tup [.val (.str [100, 111, 110, 101])]]), .ret (.call (.val (.fn 10)) [.attr (.loc 1) 9])]
noncomputable def b12 : List S0 := [.asg (.attr (.loc 0) 24) (.loc 1), .asg (.attr (.loc 0) 25) (.loc 2), .asg (.attr (.loc 0) 26) (.loc 3)]
noncomputable def b13 : List S0 := [.asg (.attr (.loc 0) 9) (.loc 1), .asg (.attr (.loc 0) 10) (.loc 2), .asg (.attr (.loc 0) 11) (.loc 3), .asg (.attr (.loc 0) 12) (.loc 4), .asg (.attr (.loc 0) 13) (.loc 5), .asg (.attr (.loc 0) 14) (.loc 6)]
noncomputable def b14 : List S0 := [.ret (.call (.val (.cls 2)) [.attr (.loc 0) 9, .loc 1, .attr (.loc 0) 11, .attr (.loc 0) 12, .attr (.loc 0) 13, .attr (.loc 0) 14])]
noncomputable def b15 : List S0 := [.asg (.attr (.loc 0) 15) (.loc 1), .asg (.attr (.loc 0) 16) (.loc 2), .asg (.attr (.loc 0) 17) (.list [])]
noncomputable def w16c : E0 := .cmp (.loc 3) [.IsNot] [.val (.none)]
noncomputable def w16 : List S0 := [.expr (.meth (.attr (.loc 0) 16) 43 []), .asg (.name 4) (.item (.attr (.loc 3) 9) (.attr (.loc 3) 10)), .ite (.bop .And [.cmp (.item (.loc 4) (.val (.int 0))) [.Eq] [.val (.str [100, 111, 110, 101])], .cmp (.attr (.loc 3) 14) [.Is] [.val (.none)]]) [.ret (.tup [.val (.int 0), .loc 3])] [], .ite (.cmp (.item (.loc 4) (.val (.int 0))) [.Eq] [.val (.str [97, 98, 111, 114, 116])]) [.ret (.tup [.val (.int 2), .val (.none)])] [], .ite (.not (.meth (.loc 0) 36 [.loc 4, .loc 3])) [.asg (.name 3) (.meth (.loc 0) 35 []), .ite (.bop .And [.cmp (.loc 3) [.IsNot] [.val (.none)], .cmp (.attr (.loc 3) 9) [.Is] [.val (.none)]]) [.ret (.tup [.val (.int 2), .val (.none)])] []] []]
noncomputable def b16 : List S0 := [.asg (.name 3) (.call (.val (.cls 2)) [.loc 1, .val (.int 0), .loc 2, .val (.none), .val (.none), .val (.none)]), .while_ w16c w16, .ret (.tup [.val (.int 1), .val (.none)])]
noncomputable def b17 : List S0 := [.ret (.ite (.cmp (.call (.val (.bi .len)) [.attr (.loc 0) 17]) [.Gt] [.val (.int 0)]) (.meth (.attr (.loc 0) 17) 1 []) (.val (.none)))]
noncomputable def b18 : List S0 := [.asg (.name 3) (.item (.loc 1) (.val (.int 0))), .ite (.cmp (.loc 3) [.Eq] [.val (.str [111, 110, 101])]) [.ret (.meth (.loc 0) 37 [.loc 1, .loc 2])] [], .ite (.cmp (.loc 3) [.Eq] [.val (.str [115, 112, 108, 105, 116])]) [.expr (.meth (.attr (.loc 0) 17) 0 [.meth (.loc 2) 33 [.item (.loc 1) (.val (.int 1))]])] [.ite (.cmp (.loc 3) [.Eq] [.val (.str [106, 117, 109, 112])]) [.asg (.attr (.loc 2) 10) (.item (.loc 1) (.val (.int 1))), .ret (.val (.bool true))] [.ite (.cmp (.loc 3) [.Eq] [.val (.str [109, 97, 114, 107])]) [.asg (.attr (.loc 2) 13) (.tup [.attr (.loc 2) 13, .attr (.loc 2) 11])] [.ite (.cmp (.loc 3) [.In] [.tup [.val (.str [110, 97, 109, 101]), .val (.str [115, 101, 116]), .val (.str [103, 97, 105, 110])]]) [.ite (.not (.meth (.loc 0) 38 [.loc 1, .loc 2])) [.ret (.val (.bool false))] []] [.ite (.cmp (.loc 3) [.Eq] [.val (.str [112, 108, 97, 99, 101])]) [.ite (.not (.meth (.attr (.loc 0) 16) 42 [.item (.loc 1) (.val (.int 1)), .attr (.loc 2) 11])) [.ret (.val (.bool false))] []] [.ret (.meth (.loc 0) 39 [.loc 1, .loc 2])]]]]], .augA (.loc 2) 10 .Add (.val (.int 1)), .ret (.val (.bool true))]
noncomputable def b19 : List S0 := [.asg (.name 3) (.item (.loc 1) (.val (.int 2))), .ite (.call (.val (.bi .isi)) [.loc 3, .val (.bi .tuple)]) [.asg (.name 4) (.call (.bad) [.tup [.item (.loc 1) (.val (.int 1)), .loc 3], .attr (.loc 0) 16]), .ite (.cmp (.loc 4) [.Is] [.val (.none)]) [.ret (.val (.bool false))] [], .asg (.name 3) (.item (.loc 4) (.val (.int 1)))] [], .asg (.name 5) (.call (.val (.fn 36)) [.tup [.item (.loc 1) (.val (.int 1)), .loc 3], .attr (.loc 0) 15, .attr (.loc 2) 11]), .ite (.cmp (.loc 5) [.Is] [.val (.none)]) [.ret (.val (.bool false))] [], .asg (.attr (.loc 2) 11) (.loc 5), .augA (.loc 2) 10 .Add (.val (.int 1)), .ret (.val (.bool true))]
noncomputable def b20 : List S0 := [.asg (.tup [.name 3, .name 4]) (.attr (.loc 2) 13), .asg (.attr (.loc 2) 13) (.loc 3), .asg (.name 5) (.slice (.attr (.loc 0) 15) (.loc 4) (.attr (.loc 2) 11) (.val (.none))), .ite (.cmp (.item (.loc 1) (.val (.int 0))) [.Eq] [.val (.str [103, 97, 105, 110])]) [.ret (.cmp (.attr (.loc 2) 11) [.Gt] [.loc 4])] [], .ite (.cmp (.item (.loc 1) (.val (.int 0))) [.Eq] [.val (.str [115, 101, 116])]) [.ret (.meth (.attr (.loc 0) 16) 42 [.item (.loc 1) (.val (.int 1)), .loc 5])] [], .asg (.attr (.loc 2) 12) (.tup [.attr (.loc 2) 12, .tup [.item (.loc 1) (.val (.int 1)), .loc 5]]), .ret (.val (.bool true))]
noncomputable def b21 : List S0 := [.asg (.name 3) (.item (.loc 1) (.val (.int 0))), .ite (.cmp (.loc 3) [.Eq] [.val (.str [102, 97, 105, 108])]) [.ret (.val (.bool false))] [], .ite (.cmp (.loc 3) [.Eq] [.val (.str [119, 97, 121, 115])]) [.ret (.meth (.loc 0) 40 [.loc 2, .call (.val (.fn 37)) [.item (.loc 1) (.val (.int 1)), .attr (.loc 0) 15, .attr (.loc 2) 11, .val (.none)]])] [], .ite (.cmp (.loc 3) [.Eq] [.val (.str [97, 115, 107])]) [.ret (.meth (.loc 0) 41 [.item (.loc 1) (.val (.int 1)), .loc 2])] [], .ite (.cmp (.loc 3) [.Eq] [.val (.str [100, 111, 110, 101])]) [.asg (.tup [.attr (.loc 2) 14, .tup [.attr (.loc 2) 9, .attr (.loc 2) 10]]) (.attr (.loc 2) 14), .ret (.val (.bool true))] [], .ite (.cmp (.loc 3) [.Eq] [.val (.str [102, 101, 110, 99, 101])]) [.expr (.meth (.attr (.loc 0) 17) 0 [.call (.val (.cls 2)) [.val (.none), .val (.int 0), .val (.int 0), .val (.none), .val (.none), .val (.none)]])] [.ite (.cmp (.loc 3) [.Eq] [.val (.str [115, 117, 99, 99, 101, 101, 100])]) [.expr (.meth (.attr (.loc 0) 17) 0 [.meth (.loc 2) 33 [.attr (.loc 2) 10]])] []], .augA (.loc 2) 10 .Add (.val (.int 1)), .ret (.val (.bool true))]
noncomputable def f22t : T0 := .name 3
noncomputable def f22 : List S0 := [.asg (.name 4) (.meth (.loc 1) 33 [.attr (.loc 1) 10]), .asg (.attr (.loc 4) 11) (.loc 3), .expr (.meth (.attr (.loc 0) 17) 0 [.loc 4])]
noncomputable def b22 : List S0 := [.ite (.cmp (.call (.val (.bi .len)) [.loc 2]) [.Eq] [.val (.int 0)]) [.ret (.val (.bool false))] [], .augA (.loc 1) 10 .Add (.val (.int 1)), .for_ f22t (.slice (.loc 2) (.val (.none)) (.val (.int 0)) (.neg (.val (.int 1)))) f22, .asg (.attr (.loc 1) 11) (.item (.loc 2) (.val (.int 0))), .ret (.val (.bool true))]
noncomputable def w23c : E0 := .cmp (.loc 0) [.IsNot] [.val (.none)]
noncomputable def w23 : List S0 := [.asg (.tup [.name 0, .name 2]) (.loc 0), .expr (.meth (.loc 1) 0 [.loc 2])]
noncomputable def b23 : List S0 := [.asg (.name 1) (.list []), .while_ w23c w23, .expr (.meth (.loc 1) 4 []), .ret (.loc 1)]
noncomputable def f24t : T0 := .name 4
noncomputable def f24 : List S0 := [.asg (.tup [.name 5, .name 6]) (.meth (.call (.val (.cls 3)) [.loc 1, .loc 3]) 34 [.loc 0, .loc 4]), .ite (.cmp (.loc 5) [.Eq] [.val (.int 0)]) [.ret (.tup [.loc 4, .attr (.loc 6) 11, .call (.val (.fn 23)) [.attr (.loc 6) 12]])] [], .ite (.cmp (.loc 5) [.Eq] [.val (.int 2)]) [.ret (.val (.none))] []]
noncomputable def b24 : List S0 := [.for_ f24t (.call (.val (.bi .range)) [.ite (.loc 2) (.val (.int 1)) (.bin (.call (.val (.bi .len)) [.loc 1]) .Add (.val (.int 1)))]) f24, .ret (.val (.none))]
noncomputable def b25 : List S0 := [.asg (.attr (.loc 0) 18) (.loc 1), .asg (.attr (.loc 0) 19) (.loc 2), .asg (.attr (.loc 0) 20) (.loc 3), .asg (.attr (.loc 0) 21) (.val (.int 64)), .asg (.attr (.loc 0) 22) (.val (.int 0)), .asg (.attr (.loc 0) 23) (.list [])]
noncomputable def b26 : List S0 := [.ite (.cmp (.attr (.loc 1) 26) [.In] [.attr (.loc 0) 20]) [.ret (.val (.bool false))] [], .asg (.item (.attr (.loc 0) 18) (.attr (.loc 1) 26)) (.loc 2), .expr (.meth (.attr (.loc 0) 23) 0 [.tup [.attr (.loc 1) 26, .loc 2]]), .ret (.val (.bool true))]
noncomputable def b27 : List S0 := [.augA (.loc 0) 22 .Add (.val (.int 1)), .ite (.cmp (.attr (.loc 0) 22) [.Gt] [.attr (.loc 0) 19]) [.raise] []]
noncomputable def b28 : List S0 := [.asg (.name 3) (.bin (.loc 1) .Add (.call (.val (.bi .len)) [.loc 2])), .ret (.ite (.cmp (.slice (.loc 0) (.loc 1) (.loc 3) (.val (.none))) [.Eq] [.loc 2]) (.loc 3) (.val (.none)))]
noncomputable def b29 : List S0 := [.ret (.ite (.cmp (.bin (.loc 1) .Add (.loc 2)) [.LtE] [.call (.val (.bi .len)) [.loc 0]]) (.bin (.loc 1) .Add (.loc 2)) (.val (.none)))]
noncomputable def b30 : List S0 := [.ret (.ite (.cmp (.bin (.call (.val (.bi .len)) [.loc 0]) .Sub (.loc 1)) [.Eq] [.loc 2]) (.loc 1) (.val (.none)))]
noncomputable def b31 : List S0 := [.ret (.ite (.bop .And [.cmp (.loc 1) [.Lt] [.call (.val (.bi .len)) [.loc 0]], .cmp (.item (.loc 0) (.loc 1)) [.In] [.loc 2]]) (.bin (.loc 1) .Add (.val (.int 1))) (.val (.none)))]
noncomputable def b32 : List S0 := [.ret (.call (.val (.bi .list)) [.call (.val (.bi .range)) [.loc 1, .bin (.call (.val (.bi .len)) [.loc 0]) .Add (.val (.int 1))]])]
noncomputable def w33c : E0 := .cmp (.loc 1) [.Lt] [.call (.val (.bi .len)) [.loc 0]]
noncomputable def w33 : List S0 := [.ite (.cmp (.item (.loc 0) (.loc 1)) [.Eq] [.val (.str [40])]) [.augN 2 .Add (.val (.int 1))] [.ite (.cmp (.item (.loc 0) (.loc 1)) [.Eq] [.val (.str [41])]) [.augN 2 .Sub (.val (.int 1))] []], .augN 1 .Add (.val (.int 1)), .ite (.cmp (.loc 2) [.Lt] [.val (.int 0)]) [.ret (.val (.none))] [], .ite (.cmp (.loc 2) [.Eq] [.val (.int 0)]) [.ret (.loc 1)] []]
noncomputable def b33 : List S0 := [.asg (.name 2) (.val (.int 0)), .while_ w33c w33, .ret (.val (.none))]
noncomputable def w34c : E0 := .cmp (.loc 3) [.IsNot] [.val (.none)]
noncomputable def w34 : List S0 := [.expr (.meth (.loc 2) 0 [.loc 3]), .asg (.name 3) (.call (.val (.fn 33)) [.loc 0, .loc 3])]
noncomputable def b34 : List S0 := [.asg (.tup [.name 2, .name 3]) (.tup [.list [], .call (.val (.fn 33)) [.loc 0, .loc 1]]), .while_ w34c w34, .ret (.loc 2)]
noncomputable def b35 : List S0 := [.ite (.cmp (.loc 0) [.Eq] [.val (.str [99, 104, 97, 114, 115])]) [.ret (.call (.val (.fn 28)) [.loc 1, .loc 2, .loc 3])] [], .ite (.cmp (.loc 0) [.Eq] [.val (.str [108, 101, 110])]) [.ret (.call (.val (.fn 29)) [.loc 1, .loc 2, .loc 3])] [], .ite (.cmp (.loc 0) [.Eq] [.val (.str [112, 111, 115])]) [.ret (.call (.bad) [.loc 2, .loc 3])] [], .ite (.cmp (.loc 0) [.Eq] [.val (.str [114, 112, 111, 115])]) [.ret (.call (.val (.fn 30)) [.loc 1, .loc 2, .loc 3])] [], .ite (.cmp (.loc 0) [.Eq] [.val (.str [116, 97, 98])]) [.ret (.call (.bad) [.loc 1, .loc 2, .loc 3])] [], .ite (.cmp (.loc 0) [.Eq] [.val (.str [114, 116, 97, 98])]) [.ret (.call (.bad) [.loc 1, .loc 2, .loc 3])] [], .ite (.cmp (.loc 0) [.Eq] [.val (.str [97, 110, 121])]) [.ret (.call (.val (.fn 31)) [.loc 1, .loc 2, .loc 3])] [], .ite (.cmp (.loc 0) [.Eq] [.val (.str [110, 111, 116, 97, 110, 121])]) [.ret (.call (.bad) [.loc 1, .loc 2, .loc 3])] [], .ite (.cmp (.loc 0) [.Eq] [.val (.str [115, 112, 97, 110])]) [.ret (.call (.bad) [.loc 1, .loc 2, .loc 3])] [], .ret (.call (.bad) [.loc 1, .loc 2, .loc 3])]
noncomputable def b36 : List S0 := [.ret (.ite (.cmp (.item (.loc 0) (.val (.int 0))) [.Eq] [.val (.str [114, 101, 109])]) (.call (.bad) [.loc 1]) (.call (.val (.fn 35)) [.item (.loc 0) (.val (.int 0)), .loc 1, .loc 2, .item (.loc 0) (.val (.int 1))]))]
noncomputable def b37 : List S0 := [.ite (.cmp (.loc 0) [.Eq] [.val (.str [97, 114, 98])]) [.ret (.call (.val (.fn 32)) [.loc 1, .loc 2])] [], .ite (.cmp (.loc 0) [.Eq] [.val (.str [98, 97, 108])]) [.ret (.call (.val (.fn 34)) [.loc 1, .loc 2])] [], .ite (.cmp (.loc 0) [.Eq] [.val (.str [114, 101, 109])]) [.ret (.list [.call (.bad) [.loc 1]])] [], .asg (.name 4) (.call (.val (.fn 35)) [.loc 0, .loc 1, .loc 2, .loc 3]), .ret (.ite (.cmp (.loc 4) [.Is] [.val (.none)]) (.list []) (.list [.loc 4]))]
noncomputable def c38 : E0 := .item (.val (.str [97, 98])) (.call (.val (.fn 39)) [.loc 0, .val (.int 2)])
noncomputable def c38t : T0 := .name 2
noncomputable def c382 : E0 := .call (.val (.bi .abs)) [.call (.val (.bi .int)) [.loc 1]]
noncomputable def c382t : T0 := .name 1
noncomputable def b38 : List S0 := [.asg (.name 1) (.list [.val (.int 3), .val (.int 0), .val (.int 0), .val (.int 1), .val (.int 5), .val (.int 8), .val (.int 7), .val (.int 2), .val (.int 0), .val (.int 6), .val (.int 0), .val (.int 2), .val (.int 9), .val (.int 1), .val (.int 1), .val (.int 0), .val (.int 0), .val (.int 0), .val (.int 0), .val (.int 0), .val (.int 0), .val (.int 0), .val (.int 0), .val (.int 0), .val (.int 0), .val (.int 0)]), .asg (.name 2) (.bin (.comp c382 c382t (.slice (.loc 0) (.val (.none)) (.val (.int 26)) (.val (.none))) []  2 []) .Add (.slice (.loc 1) (.call (.val (.bi .len)) [.slice (.loc 0) (.val (.none)) (.val (.int 26)) (.val (.none))]) (.val (.none)) (.val (.none)))), .asg (.name 3) (.meth (.val (.str [])) 5 [.comp c38 c38t (.call (.val (.bi .range)) [.call (.val (.fn 39)) [.loc 2, .val (.int 4)]]) []  2 [2]]), .asg (.name 4) (.call (.val (.fn 40)) [.loc 2, .val (.int 3)]), .asg (.name 5) (.call (.val (.fn 11)) [.tup [.val (.str [99, 97, 116]), .loc 4, .item (.list [.tup [.val (.str [114, 112, 111, 115]), .val (.int 0)], .tup [.val (.str [102, 97, 105, 108])], .tup [.val (.str [99, 104, 97, 114, 115]), .val (.str [])]]) (.call (.val (.fn 39)) [.loc 2, .val (.int 3)])]]), .asg (.tup [.name 6, .name 7]) (.tup [.call (.val (.cls 4)) [.dict [] [], .val (.int 90), .list []], .call (.val (.cls 4)) [.dict [] [], .val (.int 90), .list []]]), .try_ (.asg (.name 8) (.call (.val (.fn 45)) [.call (.val (.cls 3)) [.loc 3, .loc 6], .call (.val (.cls 2)) [.loc 5, .val (.int 0), .val (.int 0), .val (.none), .val (.none), .val (.none)], .call (.val (.fn 41)) [.loc 5], .loc 6])) 9 8, .try_ (.asg (.name 10) (.call (.val (.fn 24)) [.loc 5, .loc 3, .val (.bool true), .loc 7])) 9 10, .ret (.bop .And [.cmp (.loc 8) [.Eq] [.loc 10], .cmp (.attr (.loc 6) 23) [.Eq] [.attr (.loc 7) 23], .cmp (.attr (.loc 6) 22) [.Eq] [.attr (.loc 7) 22]])]
noncomputable def b39 : List S0 := [.ret (.ite (.cmp (.call (.val (.bi .len)) [.loc 0]) [.Gt] [.val (.int 0)]) (.bin (.meth (.loc 0) 1 [.val (.int 0)]) .Mod (.loc 1)) (.val (.int 0)))]
noncomputable def b40 : List S0 := [.asg (.name 2) (.call (.val (.fn 39)) [.loc 0, .ite (.cmp (.loc 1) [.Gt] [.val (.int 0)]) (.val (.int 10)) (.val (.int 5))]), .ite (.cmp (.loc 2) [.Eq] [.val (.int 0)]) [.ret (.tup [.val (.str [99, 104, 97, 114, 115]), .item (.list [.val (.str [97]), .val (.str [98]), .val (.str [97, 98]), .val (.str [])]) (.call (.val (.fn 39)) [.loc 0, .val (.int 4)])])] [], .ite (.cmp (.loc 2) [.Eq] [.val (.int 1)]) [.ret (.tup [.val (.str [108, 101, 110]), .call (.val (.fn 39)) [.loc 0, .val (.int 3)]])] [], .ite (.cmp (.loc 2) [.Eq] [.val (.int 2)]) [.ret (.tup [.val (.str [97, 110, 121]), .item (.list [.val (.str [97]), .val (.str [97, 98])]) (.call (.val (.fn 39)) [.loc 0, .val (.int 2)])])] [], .ite (.cmp (.loc 2) [.Eq] [.val (.int 3)]) [.ret (.item (.list [.tup [.val (.str [97, 114, 98])], .tup [.val (.str [98, 97, 108])], .tup [.val (.str [102, 101, 110, 99, 101])], .tup [.val (.str [97, 98, 111, 114, 116])]]) (.call (.val (.fn 39)) [.loc 0, .val (.int 4)]))] [], .ite (.cmp (.loc 2) [.Eq] [.val (.int 4)]) [.ret (.tup [.val (.str [99, 117, 114, 115, 111, 114]), .call (.val (.cls 1)) [.val (.str [118, 97, 114]), .val (.none), .val (.str [67])]])] [], .ite (.cmp (.loc 2) [.Lt] [.val (.int 7)]) [.ret (.tup [.item (.list [.val (.str [99, 97, 116]), .val (.str [97, 108, 116])]) (.bin (.loc 2) .Sub (.val (.int 5))), .call (.val (.fn 40)) [.loc 0, .bin (.loc 1) .Sub (.val (.int 1))], .call (.val (.fn 40)) [.loc 0, .bin (.loc 1) .Sub (.val (.int 1))]])] [], .ite (.cmp (.loc 2) [.Eq] [.val (.int 7)]) [.ret (.tup [.val (.str [97, 114, 98, 110, 111]), .call (.val (.fn 40)) [.loc 0, .bin (.loc 1) .Sub (.val (.int 1))]])] [], .ret (.tup [.item (.list [.val (.str [108, 97, 116, 101, 114]), .val (.str [110, 111, 119])]) (.bin (.loc 2) .Sub (.val (.int 8))), .call (.val (.fn 40)) [.loc 0, .bin (.loc 1) .Sub (.val (.int 1))], .call (.val (.cls 1)) [.val (.str [118, 97, 114]), .val (.none), .item (.val (.str [88, 89])) (.bin (.loc 2) .Sub (.val (.int 8)))]])]
noncomputable def f41t : T0 := .name 3
noncomputable def f41 : List S0 := [.expr (.meth (.loc 1) 0 [.loc 2]), .augN 2 .Add (.dget [([109, 97, 114, 107], 1), ([110, 97, 109, 101], (-1)), ([115, 101, 116], (-1)), ([103, 97, 105, 110], (-1))] (.item (.loc 3) (.val (.int 0))) (0))]
noncomputable def b41 : List S0 := [.asg (.tup [.name 1, .name 2]) (.tup [.list [], .val (.int 0)]), .for_ f41t (.loc 0) f41, .ret (.loc 1)]
noncomputable def w42c : E0 := .cmp (.loc 0) [.IsNot] [.val (.none)]
noncomputable def w42 : List S0 := [.asg (.tup [.name 0, .name 2]) (.loc 0), .expr (.meth (.loc 1) 3 [.val (.int 0), .loc 2])]
noncomputable def b42 : List S0 := [.asg (.name 1) (.list []), .while_ w42c w42, .ret (.loc 1)]
noncomputable def b43 : List S0 := [.ret (.ite (.cmp (.attr (.loc 0) 9) [.Is] [.val (.none)]) (.val (.none)) (.tup [.attr (.loc 0) 10, .attr (.loc 0) 11, .call (.val (.fn 42)) [.attr (.loc 0) 12], .call (.val (.fn 42)) [.attr (.loc 0) 13]]))]
noncomputable def c44 : E0 := .loc 1
noncomputable def c44t : T0 := .name 1
noncomputable def f442t : T0 := .tup [.name 4, .name 5, .name 6, .name 7]
noncomputable def f442 : List S0 := [.ite (.bop .Or [.cmp (.call (.val (.bi .len)) [.loc 7]) [.NotEq] [.item (.loc 1) (.loc 4)], .cmp (.bin (.loc 7) .Add (.list [.loc 5])) [.NotEq] [.call (.val (.bi .sorted)) [.bin (.loc 7) .Add (.list [.loc 5])]], .not (.cmp (.val (.int 0)) [.LtE, .LtE] [.loc 5, .loc 2])]) [.ret (.val (.bool false))] [], .ite (.cmp (.slice (.loc 6) (.val (.none)) (.call (.val (.bi .len)) [.loc 3]) (.val (.none))) [.NotEq] [.loc 3]) [.ret (.val (.bool false))] [], .asg (.name 3) (.loc 6)]
noncomputable def b44 : List S0 := [.asg (.name 3) (.list []), .for_ f442t (.comp c44 c44t (.loc 0) [.cmp (.loc 1) [.IsNot] [.val (.none)]]  2 []) f442, .ret (.val (.bool true))]
noncomputable def c45 : E0 := .call (.val (.fn 43)) [.loc 1]
noncomputable def c45t : T0 := .name 1
noncomputable def c452 : E0 := .call (.val (.fn 43)) [.loc 1]
noncomputable def c452t : T0 := .name 1
noncomputable def c453 : E0 := .call (.val (.fn 43)) [.loc 1]
noncomputable def c453t : T0 := .name 1
noncomputable def w454c : E0 := .cmp (.loc 1) [.IsNot] [.val (.none)]
noncomputable def w454 : List S0 := [.asg (.name 4) (.comp c453 c453t (.attr (.loc 0) 17) []  2 []), .ite (.not (.call (.val (.fn 44)) [.bin (.loc 4) .Add (.list [.call (.val (.fn 43)) [.loc 1]]), .loc 2, .call (.val (.bi .len)) [.attr (.loc 0) 15]])) [.ret (.val (.str [98, 101, 110, 116]))] [], .expr (.meth (.loc 3) 43 []), .asg (.name 5) (.item (.attr (.loc 1) 9) (.attr (.loc 1) 10)), .ite (.cmp (.item (.loc 5) (.val (.int 0))) [.Eq] [.val (.str [100, 111, 110, 101])]) [.ret (.tup [.val (.int 0), .attr (.loc 1) 11, .call (.val (.fn 42)) [.attr (.loc 1) 12]])] [], .ite (.cmp (.item (.loc 5) (.val (.int 0))) [.Eq] [.val (.str [97, 98, 111, 114, 116])]) [.ret (.val (.none))] [], .asg (.name 6) (.meth (.loc 0) 36 [.loc 5, .loc 1]), .asg (.name 7) (.comp c452 c452t (.attr (.loc 0) 17) []  2 []), .ite (.bop .Or [.cmp (.slice (.loc 7) (.val (.none)) (.call (.val (.bi .len)) [.loc 4]) (.val (.none))) [.NotEq] [.loc 4], .bop .And [.not (.loc 6), .cmp (.loc 7) [.NotEq] [.loc 4]]]) [.ret (.val (.str [98, 101, 110, 116]))] [], .ite (.not (.loc 6)) [.asg (.name 1) (.meth (.loc 0) 35 []), .ite (.cmp (.comp c45 c45t (.bin (.attr (.loc 0) 17) .Add (.ite (.cmp (.loc 1) [.Is] [.val (.none)]) (.list []) (.list [.loc 1]))) []  2 []) [.NotEq] [.loc 4]) [.ret (.val (.str [98, 101, 110, 116]))] [], .ite (.bop .And [.cmp (.loc 1) [.IsNot] [.val (.none)], .cmp (.attr (.loc 1) 9) [.Is] [.val (.none)]]) [.ret (.val (.none))] []] []]
noncomputable def b45 : List S0 := [.while_ w454c w454, .ret (.val (.none))]
noncomputable def tab2 : List (Nat × Nat × List S0) := [(2, 3, b0), (1, 0, b1), (1, 2, b2), (1, 0, b3), (2, 0, b4), (2, 3, b5), (2, 1, b6), (2, 3, b7), (2, 2, b8), (3, 1, b9), (1, 3, b10), (1, 1, b11), (4, 0, b12), (7, 0, b13), (2, 0, b14), (3, 0, b15), (3, 2, b16), (1, 0, b17), (3, 1, b18), (3, 3, b19), (3, 3, b20), (3, 1, b21), (3, 2, b22), (1, 2, b23), (4, 3, b24), (4, 0, b25), (3, 0, b26), (1, 0, b27), (3, 1, b28), (3, 0, b29), (3, 0, b30), (3, 0, b31), (2, 0, b32), (2, 1, b33), (2, 2, b34), (4, 0, b35), (3, 0, b36), (4, 1, b37), (1, 10, b38), (2, 0, b39), (2, 1, b40), (1, 3, b41), (1, 2, b42), (1, 0, b43), (3, 5, b44), (4, 4, b45)]
noncomputable def fldL : List (Nat × Nat) := [(0, 9), (1, 24), (1, 25), (1, 26), (2, 9), (2, 10), (2, 11), (2, 12), (2, 13), (2, 14), (3, 15), (3, 16), (3, 17), (4, 18), (4, 19), (4, 20), (4, 21), (4, 22), (4, 23)]
noncomputable def initL : List Nat := [3, 12, 13, 15, 25]
noncomputable def methL : List (Nat × Nat × Nat) := [(0, 27, 4), (0, 28, 5), (0, 29, 6), (0, 30, 7), (0, 31, 8), (0, 32, 9), (2, 33, 14), (3, 34, 16), (3, 35, 17), (3, 36, 18), (3, 37, 19), (3, 38, 20), (3, 39, 21), (3, 40, 22), (4, 42, 26), (4, 43, 27)]
noncomputable def fldOf (c a : Nat) : Bool := fldL.any fun p => p.1 == c && p.2 == a
noncomputable def initOf (c : Nat) : Option Nat := initL[c]?
noncomputable def methOf (c m : Nat) : Option Nat := (methL.find? fun p => p.1 == c && p.2.1 == m).map (·.2.2)
noncomputable def P2 : P0 := ⟨fun k => tab2[k]?, initOf, methOf, fldOf⟩
end Mine
end
section
namespace Mine
open PySem
noncomputable def NN : Nat := 100000
noncomputable abbrev K2 (d : Nat) : Nat → List AV → AH → Out AV := callD P2 NN d
abbrev Ev (d : Nat) (l : Loc) (H : AH) (e : E0) (v : AV) (H' : AH) : Prop := evE P2 (K2 d) NN e l H = .ok v H'
abbrev Evs (d : Nat) (l : Loc) (H : AH) (es : List E0) (vs : List AV) (H' : AH) : Prop := evEs P2 (K2 d) NN es l H = .ok vs H'
structure Es (d : Nat) (l : Loc) (H : AH) (ss : List S0) (R : SO) : Prop where
  eq : evSs P2 (K2 d) NN ss l H = R
structure Cl (d f : Nat) (args : List AV) (H : AH) (v : AV) (H' : AH) : Prop where
  eq : callD P2 NN d f args H = .ok v H'
noncomputable def SO.fin : SO → Out AV
  | .ok (.ret v) _ H => .ok v H
  | .ok .next _ H => .ok .none H
  | .ok .cont _ _ => .bad
  | .exc _ H => .exc H
  | .bad => .bad
section
variable {H : AH} {i j : Nat} {x y : AObj}
theorem gA {z : List AObj} (h : H[i]? = some x) : (H ++ z)[i]? = some x := by
  rw [List.getElem?_append_left (List.getElem?_eq_some_iff.mp h).1]; exact h
theorem gN (h : i ≠ j) (q : H[i]? = some x) : (H.set j y)[i]? = some x := by
  rw [List.getElem?_set_ne (Ne.symm h)]; exact q
theorem gS (h : H[i]? = some x) : (H.set i y)[i]? = some y := by
  rw [List.getElem?_set_self (List.getElem?_eq_some_iff.mp h).1]
theorem neO (h : H[i]? = some x) (g : H[j]? = some y) (e : x ≠ y) : i ≠ j := fun q => e (Option.some.inj (h.symm.trans ((congrArg (H[·]?) q).trans g)))
theorem gE : (H ++ [x])[H.length]? = some x := by simp
end
section
variable {d : Nat} {l l' : Loc} {H H1 H2 H3 H4 : AH} {e o : E0} {es r : List E0} {v u x : AV} {vs : List AV} {i a c k m : Nat} {fs : List (Nat × AV)} {xs : List AV} {op : CmpOp} {b : Bool}
theorem call_mk {k np ns : Nat} {bd : List S0} {args : List AV} (hb : tab2[k]? = some (np, ns, bd)) (hl : args.length = np) {R : SO} (h : Es d (args.map some ++ List.replicate ns none) H bd R) : callD P2 NN (d + 1) k args H = R.fin := by
  show runFn P2 (callD P2 NN d) NN k args H = R.fin
  unfold runFn
  rw [show P2.body k = some (np, ns, bd) from hb]
  dsimp only
  rw [if_pos hl, h.eq]
  induction R using Mine.SO.casesOn with
  | ok f l H => induction f using Mine.Fl.casesOn <;> rfl
  | exc => rfl
  | bad => rfl
theorem cl_mk {np ns : Nat} {bd : List S0} {args : List AV} {R : SO} (hb : tab2[k]? = some (np, ns, bd)) (hl : args.length = np) (h : Es d (args.map some ++ List.replicate ns none) H bd R) (hf : R.fin = .ok v H1) : Cl (d + 1) k args H v H1 :=
  ⟨(call_mk hb hl h).trans hf⟩
theorem cl_exc {np ns : Nat} {bd : List S0} {args : List AV} {R : SO} (hb : tab2[k]? = some (np, ns, bd)) (hl : args.length = np) (h : Es d (args.map some ++ List.replicate ns none) H bd R) (hf : R.fin = .exc H1) : callD P2 NN (d + 1) k args H = .exc H1 :=
  (call_mk hb hl h).trans hf
/- expressions -/
theorem e_cons (h : Ev d l H e v H1) (g : Evs d l H1 r vs H2) : Evs d l H (e :: r) (v :: vs) H2 := by
  show (evE P2 (K2 d) NN e l H).bind _ = _
  rw [h]; show (evEs P2 (K2 d) NN r l H1).bind _ = _
  rw [g]; rfl
theorem e_tup (h : Evs d l H es vs H1) : Ev d l H (.tup es) (.tup vs) H1 := by
  show (evEs P2 (K2 d) NN es l H).bind _ = _
  rw [h]; rfl
theorem e_list (h : Evs d l H es vs H1) : Ev d l H (.list es) (.ref H1.length) (H1 ++ [.list vs]) := by
  show (evEs P2 (K2 d) NN es l H).bind _ = _
  rw [h]; rfl
theorem e_attr (h : Ev d l H e (.ref i) H1) (g : H1[i]? = some (.inst c fs)) (q : (if fldOf c a then lookL a fs else none) = some v) : Ev d l H (.attr e a) v H1 := by
  show (evE P2 (K2 d) NN e l H).bind _ = _
  rw [h]
  show (match attrV fldOf H1 (.ref i) a with | some r => Out.ok r H1 | none => .bad) = _
  rw [show attrV fldOf H1 (.ref i) a = some v by simp only [attrV, g]; exact q]
theorem e_item (h : Ev d l H e v H1) (g : Ev d l H1 o u H2) (q : itemV H2 v u = some x) : Ev d l H (.item e o) x H2 := by
  show (evE P2 (K2 d) NN e l H).bind _ = _
  rw [h]; show (evE P2 (K2 d) NN o l H1).bind _ = _
  rw [g]; show (match itemV H2 v u with | some r => Out.ok r H2 | none => .bad) = _
  rw [q]
theorem itemL (g : H[i]? = some (.list xs)) (q : xs[k]? = some v) : itemV H (.ref i) (.int k) = some v := by
  have e : natOf (.int (k : Int)) = some k := by simp [natOf]
  simp only [itemV, e, itemN, g]; exact q
theorem e_bin {op : Operator} (h : Ev d l H e v H1) (g : Ev d l H1 o u H2) (q : binV H2 op v u = .ok x H3) : Ev d l H (.bin e op o) x H3 := by
  show (evE P2 (K2 d) NN e l H).bind _ = _
  rw [h]; show (evE P2 (K2 d) NN o l H1).bind _ = _
  rw [g]; exact q
theorem e_cmp (h : Ev d l H e v H1) (g : Ev d l H1 o u H2) (q : cmpV H2 op v u = some b) : Ev d l H (.cmp e [op] [o]) (.bool b) H2 := by
  show (evE P2 (K2 d) NN e l H).bind _ = _
  rw [h]; show (evE P2 (K2 d) NN o l H1).bind _ = _
  rw [g]; show (match cmpV H2 op v u with | some r => Out.ok (AV.bool r) H2 | none => .bad) = _
  rw [q]
theorem e_notT (h : Ev d l H e (.bool true) H1) : Ev d l H (.not e) (.bool false) H1 := by
  show (evE P2 (K2 d) NN e l H).bind _ = _
  rw [h]; rfl
theorem e_notF (h : Ev d l H e (.bool false) H1) : Ev d l H (.not e) (.bool true) H1 := by
  show (evE P2 (K2 d) NN e l H).bind _ = _
  rw [h]; rfl
theorem e_neg {i : Int} (h : Ev d l H e (.int i) H1) : Ev d l H (.neg e) (.int (-i)) H1 := by
  show (evE P2 (K2 d) NN e l H).bind _ = _
  rw [h]; rfl
theorem e_dget {ks : List (List Nat × Int)} {k : List Nat} {z : Int} (h : Ev d l H e (.str k) H1) : Ev d l H (.dget ks e z) (.int (dgetL ks k z)) H1 := by
  show (evE P2 (K2 d) NN e l H).bind _ = _
  rw [h]; rfl
theorem e_one {op : BoolOp} (h : Ev d l H e v H1) : Ev d l H (.bop op [e]) v H1 := h
theorem e_andT (h : Ev d l H e (.bool true) H1) (g : Ev d l H1 (.bop .And (o :: r)) v H2) : Ev d l H (.bop .And (e :: o :: r)) v H2 := by
  show (evE P2 (K2 d) NN e l H).bind _ = _
  rw [h]; exact g
theorem e_andF (h : Ev d l H e (.bool false) H1) : Ev d l H (.bop .And (e :: o :: r)) (.bool false) H1 := by
  show (evE P2 (K2 d) NN e l H).bind _ = _
  rw [h]; rfl
theorem e_orF (h : Ev d l H e (.bool false) H1) (g : Ev d l H1 (.bop .Or (o :: r)) v H2) : Ev d l H (.bop .Or (e :: o :: r)) v H2 := by
  show (evE P2 (K2 d) NN e l H).bind _ = _
  rw [h]; exact g
theorem e_orT (h : Ev d l H e (.bool true) H1) : Ev d l H (.bop .Or (e :: o :: r)) (.bool true) H1 := by
  show (evE P2 (K2 d) NN e l H).bind _ = _
  rw [h]; rfl
theorem e_ifT {e1 e2 : E0} (h : Ev d l H e (.bool true) H1) (g : Ev d l H1 e1 v H2) : Ev d l H (.ite e e1 e2) v H2 := by
  show (evE P2 (K2 d) NN e l H).bind _ = _
  rw [h]; exact g
theorem e_ifF {e1 e2 : E0} (h : Ev d l H e (.bool false) H1) (g : Ev d l H1 e2 v H2) : Ev d l H (.ite e e1 e2) v H2 := by
  show (evE P2 (K2 d) NN e l H).bind _ = _
  rw [h]; exact g
theorem e_slice {e1 e2 e3 : E0} {v1 v2 v3 : AV} {H5 : AH} (h : Ev d l H e v H1) (h1 : Ev d l H1 e1 v1 H2) (h2 : Ev d l H2 e2 v2 H3) (h3 : Ev d l H3 e3 v3 H4) (q : sliceV H4 v v1 v2 v3 = .ok x H5) : Ev d l H (.slice e e1 e2 e3) x H5 := by
  show (evE P2 (K2 d) NN e l H).bind _ = _
  rw [h]; show (evE P2 (K2 d) NN e1 l H1).bind _ = _
  rw [h1]; show (evE P2 (K2 d) NN e2 l H2).bind _ = _
  rw [h2]; show (evE P2 (K2 d) NN e3 l H3).bind _ = _
  rw [h3]; exact q
theorem isFn_of {f : Nat} {args : List AV} (h : Cl d f args H v H1) : isFn P2 (.fn f) = true := by
  show (P2.body f).isSome = true
  have h := h.eq
  induction d using Nat.casesAuxOn with
  | zero => injection h
  | succ d =>
    change runFn P2 _ NN f args H = _ at h
    unfold runFn at h
    cases q : P2.body f with
    | none => rw [q] at h; injection h
    | some => rfl
theorem e_fn {f : Nat} (h : Evs d l H es vs H1) (g : Cl d f vs H1 v H2) : Ev d l H (.call (.val (.fn f)) es) v H2 := by
  show (if isFn P2 (.fn f) = true then (evEs P2 (K2 d) NN es l H).bind _ else _) = _
  rw [if_pos (isFn_of g), h]; exact g.eq
theorem e_cls {c k : Nat} (q : initOf c = some k) (h : Evs d l H es vs H1) (g : Cl d k (.ref H1.length :: vs) (H1 ++ [.inst c []]) .none H2) : Ev d l H (.call (.val (.cls c)) es) (.ref H1.length) H2 := by
  show (if isFn P2 (.cls c) = true then (evEs P2 (K2 d) NN es l H).bind _ else _) = _
  rw [if_pos (show isFn P2 (.cls c) = true from (by show (initOf c).isSome = true; rw [q]; rfl)), h]
  show (match P2.init c with | some k => (K2 d k (AV.ref H1.length :: vs) (H1 ++ [AObj.inst c []])).bind _ | none => Out.bad) = _
  rw [show P2.init c = some k from q]
  show Out.bind (callD P2 NN d k _ _) _ = _
  rw [g.eq]; rfl
theorem e_bi {b : Bi} (h : Evs d l H es vs H1) (g : biV H1 b vs = .ok v H2) : Ev d l H (.call (.val (.bi b)) es) v H2 := by
  show (evEs P2 (K2 d) NN es l H).bind _ = _
  rw [h]; exact g
theorem e_meth {f : Nat} (h : Ev d l H o (.ref i) H1) (g : H1[i]? = some (.inst c fs)) (q : (match lookL m fs, methOf c m with | none, some k => some (Hd.fn k) | _, _ => none) = some (.fn f)) (ha : Evs d l H1 es vs H2) (hc : Cl d f (.ref i :: vs) H2 v H3) : Ev d l H (.meth o m es) v H3 := by
  show (evE P2 (K2 d) NN o l H).bind _ = _
  rw [h]
  show (match headV P2 H1 (.ref i) m with | some hd => (evEs P2 (K2 d) NN es l H1).bind _ | none => .bad) = _
  rw [show headV P2 H1 (.ref i) m = some (.fn f) by simp only [headV, g]; exact q]
  show (evEs P2 (K2 d) NN es l H1).bind _ = _
  rw [ha]; exact hc.eq
theorem e_methX {f : Nat} (h : Ev d l H o (.ref i) H1) (g : H1[i]? = some (.inst c fs)) (q : (match lookL m fs, methOf c m with | none, some k => some (Hd.fn k) | _, _ => none) = some (.fn f)) (ha : Evs d l H1 es vs H2) (hc : callD P2 NN d f (.ref i :: vs) H2 = .exc H3) : evE P2 (K2 d) NN (.meth o m es) l H = .exc H3 := by
  show (evE P2 (K2 d) NN o l H).bind _ = _
  rw [h]
  show (match headV P2 H1 (.ref i) m with | some hd => (evEs P2 (K2 d) NN es l H1).bind _ | none => .bad) = _
  rw [show headV P2 H1 (.ref i) m = some (.fn f) by simp only [headV, g]; exact q]
  show (evEs P2 (K2 d) NN es l H1).bind _ = _
  rw [ha]; exact hc
theorem e_fnX {f : Nat} (h : Evs d l H es vs H1) (hb : (P2.body f).isSome = true) (g : callD P2 NN d f vs H1 = .exc H2) : evE P2 (K2 d) NN (.call (.val (.fn f)) es) l H = .exc H2 := by
  show (if isFn P2 (.fn f) = true then (evEs P2 (K2 d) NN es l H).bind _ else _) = _
  rw [if_pos (show isFn P2 (.fn f) = true from hb), h]; exact g
theorem e_sm {sp : List Nat} (h : Ev d l H o (.str sp) H1) (ha : Evs d l H1 es [u] H2) (q : joinV H2 sp u = .ok v H3) : Ev d l H (.meth o 5 es) v H3 := by
  show (evE P2 (K2 d) NN o l H).bind _ = _
  rw [h]
  show (evEs P2 (K2 d) NN es l H1).bind _ = _
  rw [ha]; exact q
theorem e_lm (h : Ev d l H o (.ref i) H1) (g : H1[i]? = some (.list xs)) (hm : decide (m < 5) = true) (ha : Evs d l H1 es vs H2) {ys : List AV} (g2 : H2[i]? = some (.list ys)) (q : liV H2 i ys m vs = .ok v H3) : Ev d l H (.meth o m es) v H3 := by
  show (evE P2 (K2 d) NN o l H).bind _ = _
  rw [h]
  show (match headV P2 H1 (.ref i) m with | some hd => (evEs P2 (K2 d) NN es l H1).bind _ | none => .bad) = _
  rw [show headV P2 H1 (.ref i) m = some .bim by simp only [headV, g]; exact if_pos (of_decide_eq_true hm)]
  show (evEs P2 (K2 d) NN es l H1).bind _ = _
  rw [ha]
  show bimV H2 (.ref i) m vs = _
  simp only [bimV, g2]; exact q
theorem lenL (g : H[i]? = some (.list xs)) : biV H .len [.ref i] = .ok (.int xs.length) H := by
  show (match H[i]? with | some (.list l) => Out.ok (AV.int l.length) H | _ => .bad) = _
  rw [g]
theorem li_app (h : xs.length < big) : liV H i xs 0 [v] = .ok .none (H.set i (.list (xs ++ [v]))) := if_pos h
theorem e_app (h : Ev d l H o (.ref i) H1) (g : H1[i]? = some (.list xs)) (ha : Ev d l H1 e v H2) {ys : List AV} (g2 : H2[i]? = some (.list ys)) (q : ys.length < big) : Ev d l H (.meth o 0 [e]) .none (H2.set i (.list (ys ++ [v]))) :=
  e_lm h g rfl (e_cons ha rfl) g2 (li_app q)
theorem e_le2 {o2 : E0} {x y z : Int} (h : Ev d l H e (.int x) H1) (g : Ev d l H1 o (.int y) H2) (k : Ev d l H2 o2 (.int z) H3) (h1 : x ≤ y) (h2 : y ≤ z) : Ev d l H (.cmp e [.LtE, .LtE] [o, o2]) (.bool true) H3 := by
  show (evE P2 (K2 d) NN e l H).bind _ = _
  rw [h]; show (evE P2 (K2 d) NN o l H1).bind _ = _
  rw [g]; show (match some (decide (x ≤ y)) with | some true => (evE P2 (K2 d) NN o2 l H2).bind _ | some false => _ | none => _) = _
  rw [decide_eq_true h1]
  show (evE P2 (K2 d) NN o2 l H2).bind _ = _
  rw [k]; show (match some (decide (y ≤ z)) with | some x => Out.ok (AV.bool x) H3 | none => .bad) = _
  rw [decide_eq_true h2]
noncomputable abbrev cpD (d : Nat) (elt : E0) (tg : T0) (ifs : List E0) (n : Nat) (it : It) (l : Loc) (H : AH) (acc : List AV) : Out (List AV) := compGo (tgV tg) (fun l H => evIfs P2 (K2 d) NN ifs l H) (fun l H => evE P2 (K2 d) NN elt l H) n it l H acc
theorem e_comp {elt : E0} {tg : T0} {ifs : List E0} {n : Nat} {cap : List Nat} {it : It} (h : Ev d l H e v H1) (q : iterOf H1 v = some it) (k : cpD d elt tg ifs NN it (cap.map (fun j => (l[j]?).getD none) ++ List.replicate n none) H1 [] = .ok xs H2) : Ev d l H (.comp elt tg e ifs n cap) (.ref H2.length) (H2 ++ [.list xs]) := by
  show (evE P2 (K2 d) NN e l H).bind _ = _
  rw [h]
  show (match iterOf H1 v with | some i => (cpD d elt tg ifs NN i _ H1 []).bind _ | none => .bad) = _
  rw [q]
  show (cpD d elt tg ifs NN it _ H1 []).bind _ = _
  rw [k]; rfl
theorem cg_n {elt : E0} {tg : T0} {ifs : List E0} {n : Nat} {it : It} {acc : List AV} (h : stepIt H it = some none) : cpD d elt tg ifs (n + 1) it l H acc = .ok acc H := by
  show (match stepIt H it with | none => Out.bad | some none => .ok acc H | some (some (v, it')) => _) = _
  rw [h]
theorem cg_c {elt : E0} {tg : T0} {n : Nat} {it it' : It} {acc : List AV} {R : Out (List AV)} (h : stepIt H it = some (some (v, it'))) (q : tgV tg v l = some l') (g : Ev d l' H elt x H1) (b : acc.length < big) (k : cpD d elt tg [] n it' l' H1 (acc ++ [x]) = R) : cpD d elt tg [] (n + 1) it l H acc = R := by
  show (match stepIt H it with | none => Out.bad | some none => .ok acc H | some (some (v, it')) => _) = _
  rw [h]
  show (match tgV tg v l with | none => Out.bad | some l' => _) = _
  rw [q]
  show (match evE P2 (K2 d) NN elt l' H with | .ok x H2 => if acc.length < big then cpD d elt tg [] n it' l' H2 (acc ++ [x]) else .bad | _ => .bad) = _
  rw [g]
  show (if acc.length < big then _ else _) = _
  rw [if_pos b]; exact k
theorem cg_i {elt c : E0} {tg : T0} {n : Nat} {it it' : It} {acc : List AV} {R : Out (List AV)} (h : stepIt H it = some (some (v, it'))) (q : tgV tg v l = some l') (gi : Ev d l' H c (.bool b) H1) (g : b = true → Ev d l' H1 elt x H1) (z : acc.length < big) (k : cpD d elt tg [c] n it' l' H1 (if b then acc ++ [x] else acc) = R) : cpD d elt tg [c] (n + 1) it l H acc = R := by
  show (match stepIt H it with | none => Out.bad | some none => .ok acc H | some (some (v, it')) => _) = _
  rw [h]
  show (match tgV tg v l with | none => Out.bad | some l' => _) = _
  rw [q]
  show (match (evE P2 (K2 d) NN c l' H).bind _ with | .ok (AV.bool true) H1 => _ | .ok (.bool false) H1 => _ | _ => Out.bad) = _
  rw [gi]
  induction b using Bool.casesOn with
  | true =>
    show (match evE P2 (K2 d) NN elt l' H1 with | .ok x H2 => if acc.length < big then cpD d elt tg [c] n it' l' H2 (acc ++ [x]) else .bad | _ => .bad) = _
    rw [g rfl]
    show (if acc.length < big then _ else _) = _
    rw [if_pos z]; exact k
  | false => exact k
/- statements -/
noncomputable abbrev whD (d : Nat) (c : E0) (b : List S0) (n : Nat) (l : Loc) (H : AH) : SO := whileGo (fun l H => evE P2 (K2 d) NN c l H) (fun l H => evSs P2 (K2 d) NN b l H) n l H
noncomputable abbrev foD (d : Nat) (t : T0) (b : List S0) (n : Nat) (i : It) (l : Loc) (H : AH) : SO := forGo (tgV t) (fun l H => evSs P2 (K2 d) NN b l H) n i l H
variable {s : S0} {ss b1 b2 : List S0} {R R' : SO} {t : T0}
theorem Es.app {ss : List S0} : ∀ {b1 : List S0} {l : Loc} {H : AH}, evSs P2 (K2 d) NN (b1 ++ ss) l H = (evSs P2 (K2 d) NN b1 l H).andThen fun l H => evSs P2 (K2 d) NN ss l H
  | [], _, _ => rfl
  | s :: b1, l, H => by
    show (evS P2 (K2 d) NN s l H).andThen _ = ((evS P2 (K2 d) NN s l H).andThen _).andThen _
    cases evS P2 (K2 d) NN s l H with
    | bad => rfl
    | exc => rfl
    | ok f l H => induction f using Mine.Fl.casesOn with
      | next => exact Es.app (b1 := b1)
      | cont => rfl
      | ret v => rfl
theorem s_asg (h : Ev d l H e v H1) (q : setLoc l i v = some l') (g : Es d l' H1 ss R) : Es d l H (.asg (.name i) e :: ss) R := by
  refine ⟨?_⟩
  show (Out.thenS (evE P2 (K2 d) NN e l H) l _).andThen _ = _
  rw [h]
  show ((Out.so (match setLoc l i v with | some l => Out.ok l H1 | none => .bad) l)).andThen _ = _
  rw [q]; exact g.eq
theorem s_tup {ts : List T0} (h : Ev d l H e (.tup vs) H1) (q : asTs P2 (K2 d) NN ts vs l H1 = .ok l' H2) (n : ts.length = vs.length) (g : Es d l' H2 ss R) : Es d l H (.asg (.tup ts) e :: ss) R := by
  refine ⟨?_⟩
  show (Out.thenS (evE P2 (K2 d) NN e l H) l _).andThen _ = _
  rw [h]
  show ((Out.so (if ts.length = vs.length then asTs P2 (K2 d) NN ts vs l H1 else .bad) l)).andThen _ = _
  rw [if_pos n, q]; exact g.eq
theorem s_put (h : Ev d l H e v H1) (ho : Ev d l H1 o (.ref i) H2) (g : H2[i]? = some (.inst c fs)) (q : fldOf c a = true) (k : Es d l (H2.set i (.inst c (setL a v fs))) ss R) : Es d l H (.asg (.attr o a) e :: ss) R := by
  refine ⟨?_⟩
  show (Out.thenS (evE P2 (K2 d) NN e l H) l _).andThen _ = _
  rw [h]
  show ((Out.so ((evE P2 (K2 d) NN o l H1).nx _) l)).andThen _ = _
  rw [ho]
  show ((Out.so (match putA fldOf H2 (.ref i) a v with | some H => Out.ok l H | none => .bad) l)).andThen _ = _
  rw [show putA fldOf H2 (.ref i) a v = some (H2.set i (.inst c (setL a v fs))) by simp only [putA, g, q, if_true]]
  exact k.eq
theorem setEnd {y z : AObj} : (H ++ [y]).set H.length z = H ++ [z] := by rw [List.set_append_right _ _ (Nat.le_refl _)]; simp
theorem s_putE (h : Ev d l (H ++ [.inst c fs]) e v (H ++ [.inst c fs])) (ho : Ev d l (H ++ [.inst c fs]) o (.ref H.length) (H ++ [.inst c fs])) (q : fldOf c a = true) (k : Es d l (H ++ [.inst c (setL a v fs)]) ss R) : Es d l (H ++ [.inst c fs]) (.asg (.attr o a) e :: ss) R :=
  s_put h ho gE q (setEnd.symm ▸ k)
theorem s_exprX (h : evE P2 (K2 d) NN e l H = .exc H1) : Es d l H (.expr e :: ss) (.exc l H1) := by
  refine ⟨?_⟩
  show (Out.thenS (evE P2 (K2 d) NN e l H) l _).andThen _ = _
  rw [h]; rfl
theorem s_asgX (h : evE P2 (K2 d) NN e l H = .exc H1) : Es d l H (.asg t e :: ss) (.exc l H1) := by
  refine ⟨?_⟩
  show (Out.thenS (evE P2 (K2 d) NN e l H) l _).andThen _ = _
  rw [h]; rfl
theorem s_forX {it : It} (h : Ev d l H e v H1) (q : iterOf H1 v = some it) (k : foD d t b1 NN it l H1 = R) (r : R.andThen (fun l H => evSs P2 (K2 d) NN ss l H) = R') : Es d l H (.for_ t e b1 :: ss) R' := by
  refine ⟨?_⟩
  show (Out.thenS (evE P2 (K2 d) NN e l H) l _).andThen _ = _
  rw [h]
  show (match iterOf H1 v with | some i => foD d t b1 NN i l H1 | none => SO.bad).andThen _ = _
  rw [q]
  show (foD d t b1 NN it l H1).andThen _ = _
  rw [k]; exact r
theorem fo_r {n : Nat} {it it' : It} {l1 : Loc} (h : stepIt H it = some (some (v, it'))) (q : tgV t v l = some l1) (g : Es d l1 H b1 R) (r : R.loop (foD d t b1 n it') = R') : foD d t b1 (n + 1) it l H = R' := by
  show (match stepIt H it with | none => SO.bad | some none => SO.ok .next l H | some (some (v, it')) => _) = _
  rw [h]
  show (match tgV t v l with | none => SO.bad | some l1 => (evSs P2 (K2 d) NN b1 l1 H).loop _) = _
  rw [q]
  show (evSs P2 (K2 d) NN b1 l1 H).loop _ = _
  rw [g.eq]; exact r
theorem s_tryN {s : S0} {j : Nat} (h : Es d l H [s] (.ok .next l' H1)) (g : Es d l' H1 ss R) : Es d l H (.try_ s i j :: ss) R := by
  refine ⟨?_⟩
  have h := h.eq
  change (evS P2 (K2 d) NN s l H).andThen _ = _ at h
  show ((evS P2 (K2 d) NN s l H).tried i j).andThen _ = _
  cases q : evS P2 (K2 d) NN s l H with
  | bad => rw [q] at h; injection h
  | exc => rw [q] at h; injection h
  | ok f l2 H2 =>
    rw [q] at h
    induction f using Mine.Fl.casesOn with
    | next => cases  h; exact g.eq
    | cont => cases  h
    | ret => cases  h
theorem s_tryX {s : S0} {j : Nat} {l2 : Loc} (h : Es d l H [s] (.exc l' H1)) (q : setLoc l' j (.int 22) = some l2) (g : Es d (l2.set i none) H1 ss R) : Es d l H (.try_ s i j :: ss) R := by
  refine ⟨?_⟩
  have h := h.eq
  change (evS P2 (K2 d) NN s l H).andThen _ = _ at h
  show ((evS P2 (K2 d) NN s l H).tried i j).andThen _ = _
  cases q2 : evS P2 (K2 d) NN s l H with
  | bad => rw [q2] at h; injection h
  | exc l3 H3 =>
    rw [q2] at h
    cases  h
    show (match setLoc l' j (.int 22) with | some l => SO.ok .next (l.set i none) H1 | none => .bad).andThen _ = _
    rw [q]; exact g.eq
  | ok f l3 H3 =>
    rw [q2] at h
    induction f using Mine.Fl.casesOn with
    | next => injection h
    | cont => injection h
    | ret => injection h
theorem s_raise : Es d l H (.raise :: ss) (.exc l H) := ⟨rfl⟩
theorem s_nil : Es d l H [] (.ok .next l H) := ⟨rfl⟩
theorem e_nil : Evs d l H [] [] H := rfl
theorem e_val : Ev d l H (.val v) v H := rfl
theorem e_loc (q : l[i]? = some (some v)) : Ev d l H (.loc i) v H := by
  show (match l[i]? with | some (some v) => Out.ok v H | _ => .bad) = _
  rw [q]
theorem s_puti {e2 : E0} (h : Ev d l H e v H1) (ho : Ev d l H1 o u H2) (hk : Ev d l H2 e2 x H3) (q : putI H3 u x v = some H4) (k : Es d l H4 ss R) : Es d l H (.asg (.item o e2) e :: ss) R := by
  refine ⟨?_⟩
  show (Out.thenS (evE P2 (K2 d) NN e l H) l _).andThen _ = _
  rw [h]
  show ((Out.so ((evE P2 (K2 d) NN o l H1).nx _) l)).andThen _ = _
  rw [ho]
  show ((Out.so ((evE P2 (K2 d) NN e2 l H2).nx _) l)).andThen _ = _
  rw [hk]
  show ((Out.so (match putI H3 u x v with | some H => Out.ok l H | none => .bad) l)).andThen _ = _
  rw [q]; exact k.eq
theorem s_expr (h : Ev d l H e v H1) (q : plainV v = true) (g : Es d l H1 ss R) : Es d l H (.expr e :: ss) R := by
  refine ⟨?_⟩
  show (Out.thenS (evE P2 (K2 d) NN e l H) l _).andThen _ = _
  rw [h]; show (if plainV v = true then SO.ok .next l H1 else .bad).andThen _ = _
  rw [if_pos q]; exact g.eq
theorem s_ret (h : Ev d l H e v H1) : Es d l H (.ret e :: ss) (.ok (.ret v) l H1) := by
  refine ⟨?_⟩
  show (Out.thenS (evE P2 (K2 d) NN e l H) l _).andThen _ = _
  rw [h]; rfl
theorem s_ifT (h : Ev d l H e (.bool true) H1) (g : Es d l H1 (b1 ++ ss) R) : Es d l H (.ite e b1 b2 :: ss) R := by
  refine ⟨?_⟩
  show (Out.thenS (evE P2 (K2 d) NN e l H) l _).andThen _ = _
  rw [h]; exact Es.app.symm.trans g.eq
theorem s_ifF (h : Ev d l H e (.bool false) H1) (g : Es d l H1 (b2 ++ ss) R) : Es d l H (.ite e b1 b2 :: ss) R := by
  refine ⟨?_⟩
  show (Out.thenS (evE P2 (K2 d) NN e l H) l _).andThen _ = _
  rw [h]; exact Es.app.symm.trans g.eq
theorem s_aug {op : Operator} {old : AV} (h : l[i]? = some (some old)) (g : Ev d l H e v H1) (q : augV H1 op old v = .ok u H2) (n : setLoc l i u = some l') (k : Es d l' H2 ss R) : Es d l H (.augN i op e :: ss) R := by
  refine ⟨?_⟩
  show (match l[i]? with | some (some old) => _ | _ => SO.bad).andThen _ = _
  rw [h]
  show (Out.thenS (evE P2 (K2 d) NN e l H) l _).andThen _ = _
  rw [g]
  show (Out.thenS (augV H1 op old v) l _).andThen _ = _
  rw [q]
  show (match setLoc l i u with | some l => SO.ok .next l H2 | none => .bad).andThen _ = _
  rw [n]; exact k.eq
theorem s_augA {j : Int} (ho : Ev d l H o (.ref i) H1) (g : H1[i]? = some (.inst c fs)) (q : (if fldOf c a then lookL a fs else none) = some (.int j)) (k : Es d l (H1.set i (.inst c (setL a (.int (j + 1)) fs))) ss R) : Es d l H (.augA o a .Add (.val (.int 1)) :: ss) R := by
  refine ⟨?_⟩
  show (Out.thenS (evE P2 (K2 d) NN o l H) l _).andThen _ = _
  rw [ho]
  show (match attrV fldOf H1 (.ref i) a with | some old => _ | none => SO.bad).andThen _ = _
  rw [show attrV fldOf H1 (.ref i) a = some (.int j) by simp only [attrV, g]; exact q]
  show (match putA fldOf H1 (.ref i) a (.int (j + 1)) with | some H => SO.ok .next l H | none => .bad).andThen _ = _
  have hf : fldOf c a = true := by
    cases z : fldOf c a with
    | true => rfl
    | false => rw [z] at q; injection q
  rw [show putA fldOf H1 (.ref i) a (.int (j + 1)) = some (H1.set i (.inst c (setL a (.int (j + 1)) fs))) by simp only [putA, g, hf, if_true]]
  exact k.eq
theorem s_while (h : whD d e b1 NN l H = .ok .next l' H1) (g : Es d l' H1 ss R) : Es d l H (.while_ e b1 :: ss) R := by
  refine ⟨?_⟩
  show (whD d e b1 NN l H).andThen _ = _
  rw [h]; exact g.eq
theorem s_whileR (h : whD d e b1 NN l H = .ok (.ret v) l' H1) : Es d l H (.while_ e b1 :: ss) (.ok (.ret v) l' H1) := by
  refine ⟨?_⟩
  show (whD d e b1 NN l H).andThen _ = _
  rw [h]; rfl
theorem s_for {it : It} (h : Ev d l H e v H1) (q : iterOf H1 v = some it) (k : foD d t b1 NN it l H1 = .ok .next l' H2) (g : Es d l' H2 ss R) : Es d l H (.for_ t e b1 :: ss) R := by
  refine ⟨?_⟩
  show (Out.thenS (evE P2 (K2 d) NN e l H) l _).andThen _ = _
  rw [h]
  show (match iterOf H1 v with | some i => foD d t b1 NN i l H1 | none => SO.bad).andThen _ = _
  rw [q]
  show (foD d t b1 NN it l H1).andThen _ = _
  rw [k]; exact g.eq
theorem wh_f {n : Nat} (h : Ev d l H e (.bool false) H1) : whD d e b1 (n + 1) l H = .ok .next l H1 := by
  show (match evE P2 (K2 d) NN e l H with | .ok (.bool true) H1 => _ | .ok (.bool false) H1 => SO.ok .next l H1 | .exc H1 => _ | _ => SO.bad) = _
  rw [h]
theorem wh_t {n : Nat} (h : Ev d l H e (.bool true) H1) (g : Es d l H1 b1 (.ok .next l' H2)) (k : whD d e b1 n l' H2 = R) : whD d e b1 (n + 1) l H = R := by
  show (match evE P2 (K2 d) NN e l H with | .ok (.bool true) H1 => _ | .ok (.bool false) H1 => SO.ok .next l H1 | .exc H1 => _ | _ => SO.bad) = _
  rw [h]
  show (evSs P2 (K2 d) NN b1 l H1).loop _ = _
  rw [g.eq]; exact k
theorem wh_r {n : Nat} (h : Ev d l H e (.bool true) H1) (g : Es d l H1 b1 (.ok (.ret v) l' H2)) : whD d e b1 (n + 1) l H = .ok (.ret v) l' H2 := by
  show (match evE P2 (K2 d) NN e l H with | .ok (.bool true) H1 => _ | .ok (.bool false) H1 => SO.ok .next l H1 | .exc H1 => _ | _ => SO.bad) = _
  rw [h]
  show (evSs P2 (K2 d) NN b1 l H1).loop _ = _
  rw [g.eq]; rfl
theorem wh_x {n : Nat} (h : Ev d l H e (.bool true) H1) (g : Es d l H1 b1 (.exc l' H2)) : whD d e b1 (n + 1) l H = .exc l' H2 := by
  show (match evE P2 (K2 d) NN e l H with | .ok (.bool true) H1 => _ | .ok (.bool false) H1 => SO.ok .next l H1 | .exc H1 => _ | _ => SO.bad) = _
  rw [h]
  show (evSs P2 (K2 d) NN b1 l H1).loop _ = _
  rw [g.eq]; rfl
theorem fo_n {n : Nat} {it : It} (h : stepIt H it = some none) : foD d t b1 (n + 1) it l H = .ok .next l H := by
  show (match stepIt H it with | none => SO.bad | some none => SO.ok .next l H | some (some (v, it')) => _) = _
  rw [h]
theorem fo_c {n : Nat} {it it' : It} {l1 : Loc} (h : stepIt H it = some (some (v, it'))) (q : tgV t v l = some l1) (g : Es d l1 H b1 (.ok .next l' H1)) (k : foD d t b1 n it' l' H1 = R) : foD d t b1 (n + 1) it l H = R := by
  show (match stepIt H it with | none => SO.bad | some none => SO.ok .next l H | some (some (v, it')) => _) = _
  rw [h]
  show (match tgV t v l with | none => SO.bad | some l1 => (evSs P2 (K2 d) NN b1 l1 H).loop _) = _
  rw [q]
  show (evSs P2 (K2 d) NN b1 l1 H).loop _ = _
  rw [g.eq]; exact k
theorem s_cont : Es d l H (.cont :: ss) (.ok .cont l H) := ⟨rfl⟩
theorem fo_k {n : Nat} {it it' : It} {l1 : Loc} (h : stepIt H it = some (some (v, it'))) (q : tgV t v l = some l1) (g : Es d l1 H b1 (.ok .cont l' H1)) (k : foD d t b1 n it' l' H1 = R) : foD d t b1 (n + 1) it l H = R :=
  fo_r h q g k
theorem it_n {k : Nat} (h : H[i]? = some (.list xs)) (q : xs[k]? = none) : stepIt H (.list i k) = some none := by
  simp only [stepIt, h, q]; rfl
theorem it_c {k : Nat} (h : H[i]? = some (.list xs)) (q : xs[k]? = some v) : stepIt H (.list i k) = some (some (v, .list i (k + 1))) := by
  simp only [stepIt, h, q]; rfl
theorem it_of (h : H[i]? = some (.list xs)) : iterOf H (.ref i) = some (.list i 0) := by
  simp only [iterOf, h]
end
structure Has (H : AH) (Γ : List (Nat × AObj)) : Prop where
  nd : (Γ.map (·.1)).Nodup
  at_ : ∀ p ∈ Γ, H[p.1]? = some p.2
section
variable {H : AH} {Γ Δ : List (Nat × AObj)} {i j : Nat} {x y : AObj}
theorem Has.lt (h : Has H Γ) {p : Nat × AObj} (m : p ∈ Γ) : p.1 < H.length := (List.getElem?_eq_some_iff.mp (h.at_ p m)).1
theorem Has.app (h : Has H Γ) : Has (H ++ [x]) ((H.length, x) :: Γ) :=
  ⟨List.nodup_cons.mpr ⟨fun m => by obtain ⟨p, hp, e⟩ := List.mem_map.mp m; have := h.lt hp; rw [e] at this; exact absurd this (Nat.lt_irrefl _), h.nd⟩,
   fun p m => by rcases List.mem_cons.mp m with rfl | m; exact gE; exact gA (h.at_ p m)⟩
theorem Has.perm (h : Has H Γ) (q : Γ.Perm Δ) : Has H Δ := ⟨(q.map (·.1)).nodup_iff.mp h.nd, fun p m => h.at_ p (q.mem_iff.mpr m)⟩
theorem Has.sub (h : Has H Γ) (q : Δ.Sublist Γ) : Has H Δ := ⟨(q.map (·.1)).nodup h.nd, fun p m => h.at_ p (q.subset m)⟩
theorem Has.tl (h : Has H ((i, x) :: Γ)) : Has H Γ := h.sub (.cons _ (.refl _))
theorem Has.hd (h : Has H ((i, x) :: Γ)) : H[i]? = some x := h.at_ _ (.head _)
theorem Has.set (h : Has H (Γ ++ (i, x) :: Δ)) : Has (H.set i y) (Γ ++ (i, y) :: Δ) := by
  have e : ∀ z, (Γ ++ (i, z) :: Δ).map (·.1) = Γ.map (·.1) ++ i :: Δ.map (·.1) := fun z => by simp
  have nd := h.nd
  rw [e] at nd
  refine ⟨by rw [e]; exact nd, fun p m => ?_⟩
  have hi := h.at_ (i, x) (by simp)
  have n := List.nodup_cons.mp (List.perm_middle.nodup_iff.mp nd)
  rcases List.mem_append.mp m with m | m
  · exact gN (fun q => n.1 (q ▸ List.mem_append_left _ (List.mem_map_of_mem m))) (h.at_ p (List.mem_append_left _ m))
  · rcases List.mem_cons.mp m with rfl | m
    · exact gS hi
    · exact gN (fun q => n.1 (q ▸ List.mem_append_right _ (List.mem_map_of_mem m))) (h.at_ p (List.mem_append_right _ (.tail _ m)))
theorem Has.ne (h : Has H Γ) {p q : Nat × AObj} (hp : p ∈ Γ) (hq : q ∈ Γ) (e : p.2 ≠ q.2) : p.1 ≠ q.1 := fun z => e (Option.some.inj ((h.at_ p hp).symm.trans ((congrArg (H[·]?) z).trans (h.at_ q hq))))
end
end Mine
end
section
namespace Mine
open PySem
noncomputable abbrev vI (n : Nat) : AV := .int n
noncomputable def cutS (s : List Nat) (a b : Nat) : List Nat := (s.take b).drop a
noncomputable def optI : Option Nat → AV
  | none => .none
  | some n => .int n
theorem c_lt {H : AH} {x y : Int} (h : x < y) : cmpV H .Lt (.int x) (.int y) = some true := congrArg some (decide_eq_true h)
theorem c_nlt {H : AH} {x y : Int} (h : ¬ x < y) : cmpV H .Lt (.int x) (.int y) = some false := congrArg some (decide_eq_false h)
theorem c_le {H : AH} {x y : Int} (h : x ≤ y) : cmpV H .LtE (.int x) (.int y) = some true := congrArg some (decide_eq_true h)
theorem c_nle {H : AH} {x y : Int} (h : ¬ x ≤ y) : cmpV H .LtE (.int x) (.int y) = some false := congrArg some (decide_eq_false h)
theorem c_gt {H : AH} {x y : Int} (h : y < x) : cmpV H .Gt (.int x) (.int y) = some true := congrArg some (decide_eq_true h)
theorem c_ngt {H : AH} {x y : Int} (h : ¬ y < x) : cmpV H .Gt (.int x) (.int y) = some false := congrArg some (decide_eq_false h)
theorem c_eqi {H : AH} {x y : Int} (h : x = y) : cmpV H .Eq (.int x) (.int y) = some true := congrArg some (decide_eq_true h)
theorem c_nei {H : AH} {x y : Int} (h : ¬ x = y) : cmpV H .Eq (.int x) (.int y) = some false := congrArg some (decide_eq_false h)
theorem c_eqs {H : AH} {x y : List Nat} (h : x = y) : cmpV H .Eq (.str x) (.str y) = some true := congrArg some (decide_eq_true h)
theorem c_nes {H : AH} {x y : List Nat} (h : ¬ x = y) : cmpV H .Eq (.str x) (.str y) = some false := congrArg some (decide_eq_false h)
theorem iA {a b : Nat} : ((a : Int) + (b : Int)) = ((a + b : Nat) : Int) := rfl
theorem natOf_nat (a : Nat) : natOf (.int (a : Int)) = some a := by simp [natOf]
theorem slS {H : AH} {s : List Nat} {a b : Nat} : sliceV H (.str s) (.int a) (.int b) .none = .ok (.str (cutS s a b)) H := by
  have e : ∀ k : Nat, partN (.int (k : Int)) = some (some k) := fun k => by simp [partN]
  simp only [sliceV, skOf, e, stK, Option.bind_some, if_true, SK.of]; rfl
noncomputable def charsEnd (s t : List Nat) (a : Nat) : Option Nat := if cutS s a (a + t.length) = t then some (a + t.length) else none
noncomputable def lenEnd (s : List Nat) (k a : Nat) : Option Nat := if a + k ≤ s.length then some (a + k) else none
noncomputable def rposEnd (s : List Nat) (k a : Nat) : Option Nat := if s.length = a + k then some a else none
noncomputable def anyEnd (s t : List Nat) (a : Nat) : Option Nat := match s[a]? with
  | none => none
  | some c => if inS t [c] = true then some (a + 1) else none
section
variable {d : Nat} {H : AH} {s t : List Nat} {a k : Nat}
theorem sp28 : Cl (d + 1) 28 [.str s, .int a, .str t] H (optI (charsEnd s t a)) H := by
  unfold charsEnd
  by_cases h : cutS s a (a + t.length) = t
  · rw [if_pos h]
    apply cl_mk rfl rfl
    · unfold b28; repeat (first | (with_reducible (first | apply e_nil | apply e_loc | apply e_cons | apply e_bin | apply e_bi)) | apply s_asg | apply s_ret | exact rfl)
      apply e_ifT
      · repeat (first | (with_reducible (first | apply e_val | apply e_loc | apply e_slice | apply e_cmp)) | exact rfl)
        exact c_eqs h
      repeat (first | (with_reducible apply e_loc) | exact rfl)
    · exact rfl
  · rw [if_neg h]
    apply cl_mk rfl rfl
    · unfold b28; repeat (first | (with_reducible (first | apply e_nil | apply e_loc | apply e_cons | apply e_bin | apply e_bi)) | apply s_asg | apply s_ret | exact rfl)
      apply e_ifF
      · repeat (first | (with_reducible (first | apply e_val | apply e_loc | apply e_slice | apply e_cmp)) | exact rfl)
        exact c_nes h
      repeat (with_reducible apply e_val)
    · exact rfl
theorem sp29 : Cl (d + 1) 29 [.str s, .int a, .int k] H (optI (lenEnd s k a)) H := by
  unfold lenEnd
  by_cases h : a + k ≤ s.length
  · rw [if_pos h]
    apply cl_mk rfl rfl
    · unfold b29; repeat (apply s_ret)
      apply e_ifT
      · repeat (first | (with_reducible (first | apply e_nil | apply e_loc | apply e_cons | apply e_bin | apply e_cmp | apply e_bi)) | exact rfl)
        exact c_le (by lia)
      repeat (first | (with_reducible (first | apply e_loc | apply e_bin)) | exact rfl)
    · exact rfl
  · rw [if_neg h]
    apply cl_mk rfl rfl
    · unfold b29; repeat (apply s_ret)
      apply e_ifF
      · repeat (first | (with_reducible (first | apply e_nil | apply e_loc | apply e_cons | apply e_bin | apply e_cmp | apply e_bi)) | exact rfl)
        exact c_nle (by lia)
      repeat (with_reducible apply e_val)
    · exact rfl
theorem sp30 : Cl (d + 1) 30 [.str s, .int a, .int k] H (optI (rposEnd s k a)) H := by
  unfold rposEnd
  by_cases h : s.length = a + k
  · rw [if_pos h]
    apply cl_mk rfl rfl
    · unfold b30; repeat (apply s_ret)
      apply e_ifT
      · repeat (first | (with_reducible (first | apply e_nil | apply e_loc | apply e_cons | apply e_bin | apply e_cmp | apply e_bi)) | exact rfl)
        exact c_eqi (by lia)
      repeat (first | (with_reducible apply e_loc) | exact rfl)
    · exact rfl
  · rw [if_neg h]
    apply cl_mk rfl rfl
    · unfold b30; repeat (apply s_ret)
      apply e_ifF
      · repeat (first | (with_reducible (first | apply e_nil | apply e_loc | apply e_cons | apply e_bin | apply e_cmp | apply e_bi)) | exact rfl)
        exact c_nei (by lia)
      repeat (with_reducible apply e_val)
    · exact rfl
theorem itemS {c : Nat} (h : s[a]? = some c) : itemV H (.str s) (.int a) = some (.str [c]) := by
  simp only [itemV, natOf_nat, itemN, h, Option.bind_some, Option.map_some]
theorem sp31 : Cl (d + 1) 31 [.str s, .int a, .str t] H (optI (anyEnd s t a)) H := by
  unfold anyEnd
  cases h : s[a]? with
  | none =>
    apply cl_mk rfl rfl
    · unfold b31; repeat (apply s_ret)
      apply e_ifF
      · apply e_andF
        repeat (first | (with_reducible (first | apply e_nil | apply e_loc | apply e_cons | apply e_cmp | apply e_bi)) | exact rfl)
        exact c_nlt (by have := List.getElem?_eq_none_iff.mp h; lia)
      repeat (with_reducible apply e_val)
    · exact rfl
  | some c =>
    have hl : (a : Int) < (s.length : Int) := by have := (List.getElem?_eq_some_iff.mp h).1; lia
    dsimp only
    by_cases q : inS t [c] = true
    · rw [if_pos q]
      apply cl_mk rfl rfl
      · unfold b31; repeat (apply s_ret)
        apply e_ifT
        · apply e_andT
          · repeat (first | (with_reducible (first | apply e_nil | apply e_loc | apply e_cons | apply e_cmp | apply e_bi)) | exact rfl)
            exact c_lt hl
          repeat (first | (with_reducible (first | apply e_loc | apply e_item | apply e_cmp | apply e_one)) | exact rfl)
          · exact itemS h
          · repeat (first | (with_reducible apply e_loc) | exact rfl)
          · exact congrArg some q
        repeat (first | (with_reducible (first | apply e_val | apply e_loc | apply e_bin)) | exact rfl)
      · exact rfl
    · rw [if_neg q]
      apply cl_mk rfl rfl
      · unfold b31; repeat (apply s_ret)
        apply e_ifF
        · apply e_andT
          · repeat (first | (with_reducible (first | apply e_nil | apply e_loc | apply e_cons | apply e_cmp | apply e_bi)) | exact rfl)
            exact c_lt hl
          repeat (first | (with_reducible (first | apply e_loc | apply e_item | apply e_cmp | apply e_one)) | exact rfl)
          · exact itemS h
          · repeat (first | (with_reducible apply e_loc) | exact rfl)
          · exact congrArg some (Bool.eq_false_iff.mpr q)
        repeat (with_reducible apply e_val)
      · exact rfl
end
end Mine
end
section
namespace Mine
open PySem
abbrev kOne : List Nat := [111, 110, 101]
abbrev kWays : List Nat := [119, 97, 121, 115]
abbrev kSplit : List Nat := [115, 112, 108, 105, 116]
abbrev kJump : List Nat := [106, 117, 109, 112]
abbrev kMark : List Nat := [109, 97, 114, 107]
abbrev kName : List Nat := [110, 97, 109, 101]
abbrev kSet : List Nat := [115, 101, 116]
abbrev kGain : List Nat := [103, 97, 105, 110]
abbrev kPlace : List Nat := [112, 108, 97, 99, 101]
abbrev kFence : List Nat := [102, 101, 110, 99, 101]
abbrev kFail : List Nat := [102, 97, 105, 108]
abbrev kAbort : List Nat := [97, 98, 111, 114, 116]
abbrev kDone : List Nat := [100, 111, 110, 101]
abbrev kChars : List Nat := [99, 104, 97, 114, 115]
abbrev kLen : List Nat := [108, 101, 110]
abbrev kAny : List Nat := [97, 110, 121]
abbrev kRpos : List Nat := [114, 112, 111, 115]
abbrev kArb : List Nat := [97, 114, 98]
abbrev kBal : List Nat := [98, 97, 108]
inductive On where
  | chars (t : List Nat)
  | len (k : Nat)
  | any (t : List Nat)
  | rpos (k : Nat)
noncomputable def On.kind : On → List Nat
  | .chars _ => kChars
  | .len _ => kLen
  | .any _ => kAny
  | .rpos _ => kRpos
noncomputable def On.told : On → AV
  | .chars t => .str t
  | .len k => .int k
  | .any t => .str t
  | .rpos k => .int k
noncomputable def On.ends (s : List Nat) (a : Nat) : On → Option Nat
  | .chars t => charsEnd s t a
  | .len k => lenEnd s k a
  | .any t => anyEnd s t a
  | .rpos k => rposEnd s k a
noncomputable abbrev wyEnds (s : List Nat) (b : Bool) (a : Nat) : List Nat := if b then List.range' a (s.length + 1 - a) else List.range' (a + 1) (s.length - a)
section
variable {d : Nat} {H : AH} {s t : List Nat} {a k : Nat}
theorem sp35 (o : On) : Cl (d + 2) 35 [.str o.kind, .str s, .int a, o.told] H (optI (o.ends s a)) H := by
  induction o using Mine.On.casesOn with
  | chars t =>
    apply cl_mk rfl rfl
    · unfold b35; repeat (first | (with_reducible (first | apply e_nil | apply e_loc | apply e_cons | apply e_fn)) | apply s_ret | exact rfl | (apply s_ifT; (· repeat (first | (with_reducible (first | apply e_val | apply e_loc | apply e_cmp)) | exact rfl))))
      exact sp28
    · exact rfl
  | len k =>
    apply cl_mk rfl rfl
    · unfold b35; repeat (first | (with_reducible (first | apply e_nil | apply e_loc | apply e_cons | apply e_fn)) | apply s_ret | exact rfl | (apply s_ifF; (· repeat (first | (with_reducible (first | apply e_val | apply e_loc | apply e_cmp)) | exact rfl))) | (apply s_ifT; (· repeat (first | (with_reducible (first | apply e_val | apply e_loc | apply e_cmp)) | exact rfl))))
      exact sp29
    · exact rfl
  | any t =>
    apply cl_mk rfl rfl
    · unfold b35; repeat (first | (with_reducible (first | apply e_nil | apply e_loc | apply e_cons | apply e_fn)) | apply s_ret | exact rfl | (apply s_ifF; (· repeat (first | (with_reducible (first | apply e_val | apply e_loc | apply e_cmp)) | exact rfl))) | (apply s_ifT; (· repeat (first | (with_reducible (first | apply e_val | apply e_loc | apply e_cmp)) | exact rfl))))
      exact sp31
    · exact rfl
  | rpos k =>
    apply cl_mk rfl rfl
    · unfold b35; repeat (first | (with_reducible (first | apply e_nil | apply e_loc | apply e_cons | apply e_fn)) | apply s_ret | exact rfl | (apply s_ifF; (· repeat (first | (with_reducible (first | apply e_val | apply e_loc | apply e_cmp)) | exact rfl))) | (apply s_ifT; (· repeat (first | (with_reducible (first | apply e_val | apply e_loc | apply e_cmp)) | exact rfl))))
      exact sp30
    · exact rfl
theorem sp36 (o : On) : Cl (d + 3) 36 [.tup [.str o.kind, o.told], .str s, .int a] H (optI (o.ends s a)) H := by
  have h : ∀ H : AH, cmpV H .Eq (.str o.kind) (.str [114, 101, 109]) = some false := fun H => by induction o using Mine.On.casesOn <;> exact rfl
  apply cl_mk rfl rfl
  · unfold b36; repeat (apply s_ret)
    apply e_ifF
    · repeat (first | (with_reducible (first | apply e_val | apply e_loc | apply e_item | apply e_cmp)) | exact rfl)
      exact h _
    repeat (first | (with_reducible (first | apply e_nil | apply e_val | apply e_loc | apply e_cons | apply e_item | apply e_fn)) | exact rfl)
    exact sp35 o
  · exact rfl
theorem rngN {x y : Nat} (hx : x ≤ 1000000) (hy : y ≤ 1000000) : biV H .range [.int x, .int y] = .ok (.rng x y) H := by
  show (if (0 : Int) ≤ x ∧ (x : Int) ≤ 1000000 ∧ (0 : Int) ≤ y ∧ (y : Int) ≤ 1000000 then Out.ok (AV.rng x y) H else .bad) = _
  rw [if_pos ⟨by lia, by lia, by lia, by lia⟩]
theorem listN {x y : Nat} (n : Nat) (e : y = x + n) (hy : y ≤ 1000000) : biV H .list [.rng x y] = .ok (.ref H.length) (H ++ [.list ((List.range' x n).map vI)]) := by
  show (if (x : Int) ≤ (y : Int) ∧ (y : Int) ≤ 1000000 ∧ (0 : Int) ≤ x then Out.ok (AV.ref H.length) (H ++ [.list _]) else .bad) = _
  rw [if_pos ⟨by lia, by lia, by lia⟩, show ((y : Int) - x).toNat = n by lia, List.range'_eq_map_range, List.map_map]
  congr 3
theorem sp32 (ha : a ≤ s.length) (hs : s.length ≤ 1000) : Cl (d + 1) 32 [.str s, .int a] H (.ref H.length) (H ++ [.list ((wyEnds s true a).map vI)]) := by
  apply cl_mk rfl rfl
  · unfold b32; repeat (first | (with_reducible (first | apply e_nil | apply e_val | apply e_loc | apply e_cons | apply e_bin | apply e_bi)) | apply s_ret | exact rfl)
    · exact rngN (y := s.length + 1) (by lia) (by lia)
    · repeat (with_reducible apply e_nil)
    · exact listN (s.length + 1 - a) (by lia) (by lia)
  · exact rfl
theorem cN {c e : Nat} (h : c ≠ e) : cmpV H .Eq (.str [c]) (.str [e]) = some false := c_nes (fun q => h (List.head_eq_of_cons_eq q))
theorem sp33 (hc : ∀ c ∈ s, c ≠ 40 ∧ c ≠ 41) : Cl (d + 1) 33 [.str s, .int a] H (optI (if a < s.length then some (a + 1) else none)) H := by
  by_cases h : a < s.length
  · rw [if_pos h]
    have hi : s[a]? = some s[a] := List.getElem?_eq_getElem h
    obtain ⟨n1, n2⟩ := hc _ (List.getElem_mem h)
    apply cl_mk rfl rfl
    · unfold b33; repeat (first | (with_reducible apply e_val) | apply s_asg | exact rfl)
      apply s_whileR
      apply wh_r
      · unfold w33c; repeat (first | (with_reducible (first | apply e_nil | apply e_loc | apply e_cons | apply e_cmp | apply e_bi)) | exact rfl)
        exact c_lt (by lia)
      unfold w33
      apply s_ifF
      · repeat (first | (with_reducible (first | apply e_loc | apply e_item | apply e_cmp)) | exact rfl)
        · exact itemS hi
        · repeat (with_reducible apply e_val)
        · exact cN n1
      apply s_ifF
      · repeat (first | (with_reducible (first | apply e_loc | apply e_item | apply e_cmp)) | exact rfl)
        · exact itemS hi
        · repeat (with_reducible apply e_val)
        · exact cN n2
      repeat (first | (with_reducible (first | apply e_val | apply e_loc)) | apply s_ret | apply s_aug | exact rfl | (apply s_ifF; (· repeat (first | (with_reducible (first | apply e_val | apply e_loc | apply e_cmp)) | exact rfl))) | (apply s_ifT; (· repeat (first | (with_reducible (first | apply e_val | apply e_loc | apply e_cmp)) | exact rfl))))
    · exact rfl
  · rw [if_neg h]
    apply cl_mk rfl rfl
    · unfold b33; repeat (first | (with_reducible apply e_val) | apply s_asg | exact rfl)
      apply s_while
      · apply wh_f
        unfold w33c; repeat (first | (with_reducible (first | apply e_nil | apply e_loc | apply e_cons | apply e_cmp | apply e_bi)) | exact rfl)
        exact c_nlt (by lia)
      repeat (first | (with_reducible apply e_val) | apply s_ret)
    · exact rfl
theorem sp_w34 (x0 : AV) (hc : ∀ c ∈ s, c ≠ 40 ∧ c ≠ 41) (hs : s.length ≤ 1000) : ∀ (n a m : Nat) (acc : List AV) (x : AV), s.length - a = n → acc.length + n < 5000 → n + 1 < m → x = optI (if a < s.length then some (a + 1) else none) →
    whD (d + 1) w34c w34 m [some (.str s), some x0, some (.ref H.length), some x] (H ++ [.list acc]) = .ok .next [some (.str s), some x0, some (.ref H.length), some .none] (H ++ [.list (acc ++ (List.range' (a + 1) n).map vI)])
  | 0, a, m + 1, acc, x, hn, _, hm, hx => by
    rw [if_neg (by lia)] at hx
    subst hx
    rw [List.range'_zero, List.map_nil, List.append_nil]
    apply wh_f
    unfold w34c; repeat (first | (with_reducible (first | apply e_val | apply e_loc | apply e_cmp)) | exact rfl)
  | n + 1, a, m + 1, acc, x, hn, hz, hm, hx => by
    rw [if_pos (by lia)] at hx
    subst hx
    have ih := sp_w34 x0 hc hs n (a + 1) m (acc ++ [vI (a + 1)]) _ (by lia) (by simp; lia) (by lia) rfl
    rw [List.append_assoc] at ih
    have hb : acc.length < big := by have : big = 16777216 := rfl; lia
    apply wh_t
    · unfold w34c; repeat (first | (with_reducible (first | apply e_val | apply e_loc | apply e_cmp)) | exact rfl)
    · unfold w34; repeat (first | assumption | (with_reducible (first | apply e_nil | apply e_loc | apply e_cons | apply e_app | apply e_fn | exact gE)) | apply s_asg | apply s_expr | exact rfl)
      · rw [setEnd]; exact sp33 hc
      repeat (first | apply s_nil | exact rfl)
    · exact ih
theorem sp34 (ha : a ≤ s.length) (hc : ∀ c ∈ s, c ≠ 40 ∧ c ≠ 41) (hs : s.length ≤ 1000) : Cl (d + 2) 34 [.str s, .int a] H (.ref H.length) (H ++ [.list ((wyEnds s false a).map vI)]) := by
  have h := sp_w34 (d := d) (H := H) (.int a) hc hs (s.length - a) a NN [] _ rfl (by simp; lia) (by unfold NN; lia) rfl
  apply cl_mk rfl rfl
  · unfold b34
    apply s_tup
    · repeat (first | (with_reducible (first | apply e_nil | apply e_loc | apply e_cons | apply e_tup | apply e_list | apply e_fn)) | exact rfl)
      exact sp33 hc
      repeat (with_reducible apply e_nil)
    · exact rfl
    · exact rfl
    repeat (first | assumption | (with_reducible (first | apply e_nil | apply e_val | apply e_loc | apply e_cons | apply e_tup | apply e_list | apply e_attr | apply e_item | apply e_slice | apply e_bin | apply e_cmp | apply e_notT | apply e_notF | apply e_neg | apply e_dget | apply e_one | apply e_app | apply e_fn | apply e_cls | apply e_meth | apply e_bi | first | exact slS | apply lenL | assumption | exact gE | apply gS | apply gA | (refine gN ?_ ?_; first | assumption | (apply Ne.symm; assumption)))) | apply s_asg | apply s_putE | apply s_put | apply s_expr | apply s_ret | apply s_aug | apply s_augA | apply s_nil | apply s_cont | exact rfl)
    apply s_while
    · exact h
    repeat (first | (with_reducible apply e_loc) | apply s_ret | exact rfl)
  · exact rfl
theorem sp37 (b : Bool) (ha : a ≤ s.length) (hc : ∀ c ∈ s, c ≠ 40 ∧ c ≠ 41) (hs : s.length ≤ 1000) : Cl (d + 3) 37 [.str (if b then kArb else kBal), .str s, .int a, .none] H (.ref H.length) (H ++ [.list ((wyEnds s b a).map vI)]) := by
  induction b using Bool.casesOn with
  | true =>
    apply cl_mk rfl rfl
    · unfold b37; repeat (first | (with_reducible (first | apply e_nil | apply e_loc | apply e_cons | apply e_fn)) | apply s_ret | exact rfl | (apply s_ifT; (· repeat (first | (with_reducible (first | apply e_val | apply e_loc | apply e_cmp)) | exact rfl))))
      exact sp32 ha hs
    · exact rfl
  | false =>
    apply cl_mk rfl rfl
    · unfold b37; repeat (first | (with_reducible (first | apply e_nil | apply e_loc | apply e_cons | apply e_fn)) | apply s_ret | exact rfl | (apply s_ifF; (· repeat (first | (with_reducible (first | apply e_val | apply e_loc | apply e_cmp)) | exact rfl))) | (apply s_ifT; (· repeat (first | (with_reducible (first | apply e_val | apply e_loc | apply e_cmp)) | exact rfl))))
      exact sp34 ha hc hs
    · exact rfl
end
end Mine
end
section
namespace Mine
open PySem
structure Wy where
  pc : Nat
  at_ : Nat
  nm : List AV
  ks : List Nat
noncomputable def nest : List AV → AV
  | [] => .none
  | r :: rs => .tup [nest rs, r]
noncomputable abbrev wyF (o p a n m c : AV) : AObj := .inst 2 [(9, o), (10, p), (11, a), (12, n), (13, m), (14, c)]
noncomputable abbrev wyObj (io : Nat) (w : Wy) : AObj := wyF (.ref io) (vI w.pc) (vI w.at_) (nest w.nm) (nest (w.ks.map vI)) .none
noncomputable abbrev mtObj (s : List Nat) (iho ih : Nat) : AObj := .inst 3 [(15, .str s), (16, .ref iho), (17, .ref ih)]
noncomputable abbrev hoObj (iv ir il st : Nat) : AObj := .inst 4 [(18, .ref iv), (19, .int 90), (20, .ref ir), (21, .int 64), (22, vI st), (23, .ref il)]
noncomputable abbrev nrObj (key : List Nat) : AObj := .inst 1 [(24, .str [118, 97, 114]), (25, .none), (26, .str key)]
inductive Od where
  | one (o : On)
  | ways (b : Bool)
  | split (k : Nat)
  | jump (k : Nat)
  | mark
  | name (r : Nat)
  | set (r : Nat) (key : List Nat)
  | gain
  | place (r : Nat) (key : List Nat)
  | fence
  | fail
  | abort
  | done
noncomputable def encO : Od → AV
  | .one o => .tup [.str kOne, .str o.kind, o.told]
  | .ways b => .tup [.str kWays, .str (if b then kArb else kBal)]
  | .split k => .tup [.str kSplit, vI k]
  | .jump k => .tup [.str kJump, vI k]
  | .mark => .tup [.str kMark]
  | .name r => .tup [.str kName, .ref r]
  | .set r _ => .tup [.str kSet, .ref r]
  | .gain => .tup [.str kGain]
  | .place r _ => .tup [.str kPlace, .ref r]
  | .fence => .tup [.str kFence]
  | .fail => .tup [.str kFail]
  | .abort => .tup [.str kAbort]
  | .done => .tup [.str kDone]
section
variable {d : Nat} {H : AH} {im iw ih iho io iv ir il st : Nat} {s key : List Nat} {w : Wy} {hs lg : List AV} {n r k : Nat}
theorem sp13 {o p a n m c : AV} : Cl (d + 1) 13 [.ref H.length, o, p, a, n, m, c] (H ++ [.inst 2 []]) .none (H ++ [wyF o p a n m c]) := by
  apply cl_mk rfl rfl
  · unfold b13; repeat (first | (with_reducible apply e_loc) | apply s_putE | apply s_nil | exact rfl)
  · exact rfl
theorem sp14 {p o q a n m c : AV} (hw : H[iw]? = some (wyF o q a n m c)) : Cl (d + 2) 14 [.ref iw, p] H (.ref H.length) (H ++ [wyF o p a n m c]) := by
  apply cl_mk rfl rfl
  · unfold b14; repeat (first | assumption | (with_reducible (first | apply e_nil | apply e_loc | apply e_cons | apply e_attr | apply e_cls)) | apply s_ret | exact rfl)
    exact sp13
  · exact rfl
theorem dn_split (hm : H[im]? = some (mtObj s iho ih)) (hh : H[ih]? = some (.list hs)) (hw : H[iw]? = some (wyObj io w)) (hl : hs.length < big) (n1 : ih ≠ iw) :
    Cl (d + 3) 18 [.ref im, encO (.split k), .ref iw] H (.bool true) (((H ++ [wyObj io { w with pc := k }]).set ih (.list (hs ++ [.ref H.length]))).set iw (wyObj io { w with pc := w.pc + 1 })) := by
  apply cl_mk rfl rfl
  · unfold b18; repeat (first | assumption | (with_reducible (first | apply e_nil | apply e_val | apply e_loc | apply e_cons | apply e_attr | apply e_item | apply e_app | apply e_meth)) | apply s_asg | apply s_expr | exact rfl | (apply s_ifF; (· repeat (first | (with_reducible (first | apply e_val | apply e_loc | apply e_cmp)) | exact rfl))) | (apply s_ifT; (· repeat (first | (with_reducible (first | apply e_val | apply e_loc | apply e_cmp)) | exact rfl))))
    · exact sp14 hw
    repeat (first | assumption | (with_reducible (first | apply e_val | apply e_loc | apply gA | (refine gN ?_ ?_; first | assumption | (apply Ne.symm; assumption)))) | apply s_ret | apply s_augA | exact rfl)
  · exact rfl
theorem dn_jump (hw : H[iw]? = some (wyObj io w)) : Cl (d + 1) 18 [.ref im, encO (.jump k), .ref iw] H (.bool true) (H.set iw (wyObj io { w with pc := k })) := by
  apply cl_mk rfl rfl
  · unfold b18; repeat (first | assumption | (with_reducible (first | apply e_val | apply e_loc | apply e_item)) | apply s_asg | apply s_put | apply s_ret | exact rfl | (apply s_ifF; (· repeat (first | (with_reducible (first | apply e_val | apply e_loc | apply e_cmp)) | exact rfl))) | (apply s_ifT; (· repeat (first | (with_reducible (first | apply e_val | apply e_loc | apply e_cmp)) | exact rfl))))
  · exact rfl
theorem dn_mark (hw : H[iw]? = some (wyObj io w)) : Cl (d + 1) 18 [.ref im, encO .mark, .ref iw] H (.bool true) (H.set iw (wyObj io { w with ks := w.at_ :: w.ks, pc := w.pc + 1 })) := by
  apply cl_mk rfl rfl
  · unfold b18; repeat (first | assumption | (with_reducible (first | apply e_nil | apply e_val | apply e_loc | apply e_cons | apply e_tup | apply e_attr | apply e_item | apply gS)) | apply s_asg | apply s_put | apply s_ret | apply s_augA | exact rfl | (apply s_ifF; (· repeat (first | (with_reducible (first | apply e_val | apply e_loc | apply e_cmp)) | exact rfl))) | (apply s_ifT; (· repeat (first | (with_reducible (first | apply e_val | apply e_loc | apply e_cmp)) | exact rfl))))
  · rw [List.set_set]; exact rfl
theorem dn_fail (hm : H[im]? = some (mtObj s iho ih)) : Cl (d + 2) 18 [.ref im, encO .fail, .ref iw] H (.bool false) H := by
  apply cl_mk rfl rfl
  · unfold b18; repeat (first | assumption | (with_reducible (first | apply e_nil | apply e_val | apply e_loc | apply e_cons | apply e_item | apply e_meth)) | apply s_asg | apply s_ret | exact rfl | (apply s_ifF; (· repeat (first | (with_reducible (first | apply e_nil | apply e_val | apply e_loc | apply e_cons | apply e_tup | apply e_cmp)) | exact rfl))))
    apply cl_mk rfl rfl
    · unfold b21; repeat (first | (with_reducible (first | apply e_val | apply e_loc | apply e_item)) | apply s_asg | apply s_ret | exact rfl | (apply s_ifT; (· repeat (first | (with_reducible (first | apply e_val | apply e_loc | apply e_cmp)) | exact rfl))))
    · exact rfl
  · exact rfl
/- assign -/
theorem sp26 {v : AV} (hho : H[iho]? = some (hoObj iv ir il st)) (hv : H[iv]? = some (.dict n)) (hr : H[ir]? = some (.list [])) (hl : H[il]? = some (.list lg)) (hk : H[r]? = some (nrObj key)) (b1 : n < big) (b2 : lg.length < big) :
    Cl (d + 1) 26 [.ref iho, .ref r, v] H (.bool true) ((H.set iv (.dict (n + 1))).set il (.list (lg ++ [.tup [.str key, v]]))) := by
  have n1 : iho ≠ iv := neO hho hv (by first | (intro h; injection h; done) | (intro k h; injection h; done) | exact nofun)
  have n2 : r ≠ iv := neO hk hv (by first | (intro h; injection h; done) | (intro k h; injection h; done) | exact nofun)
  have n3 : il ≠ iv := neO hl hv (by first | (intro h; injection h; done) | (intro k h; injection h; done) | exact nofun)
  have q : putI H (.ref iv) (.str key) v = some (H.set iv (.dict (n + 1))) := by simp only [putI, hv, b1, if_true]
  have q2 : cmpV H .In (.str key) (.ref ir) = some false := by simp only [cmpV, inL, hr]; rfl
  apply cl_mk rfl rfl
  · unfold b26
    apply s_ifF
    · repeat (first | assumption | (with_reducible (first | apply e_loc | apply e_attr | apply e_cmp)) | exact rfl)
    apply s_puti
    · repeat (first | (with_reducible apply e_loc) | exact rfl)
    · repeat (first | assumption | (with_reducible (first | apply e_loc | apply e_attr)) | exact rfl)
    · repeat (first | assumption | (with_reducible (first | apply e_loc | apply e_attr)) | exact rfl)
    · exact q
    repeat (first | assumption | (with_reducible (first | apply e_nil | apply e_val | apply e_loc | apply e_cons | apply e_tup | apply e_attr | apply e_app | (refine gN ?_ ?_; first | assumption | (apply Ne.symm; assumption)))) | apply s_expr | apply s_ret | exact rfl)
  · exact rfl
theorem sp20n {p a b : Nat} {nm : List AV} {ks : List Nat} (hm : H[im]? = some (mtObj s iho ih)) (hw : H[iw]? = some (wyObj io ⟨p, a, nm, b :: ks⟩)) :
    Cl (d + 1) 20 [.ref im, encO (.name r), .ref iw] H (.bool true) (H.set iw (wyObj io ⟨p, a, .tup [.ref r, .str (cutS s b a)] :: nm, ks⟩)) := by
  have n1 : im ≠ iw := neO hm hw (by first | (intro h; injection h; done) | (intro k h; injection h; done) | exact nofun)
  apply cl_mk rfl rfl
  · unfold b20
    apply s_tup
    · repeat (first | assumption | (with_reducible (first | apply e_loc | apply e_attr)) | exact rfl)
    · exact rfl
    · exact rfl
    repeat (first | assumption | (with_reducible (first | apply e_nil | apply e_val | apply e_loc | apply e_cons | apply e_tup | apply e_attr | apply e_item | apply e_slice | exact slS | apply gS | (refine gN ?_ ?_; first | assumption | (apply Ne.symm; assumption)))) | apply s_asg | apply s_put | apply s_ret | exact rfl | (apply s_ifF; (· repeat (first | (with_reducible (first | apply e_val | apply e_loc | apply e_item | apply e_cmp)) | exact rfl))))
  · rw [List.set_set]; exact rfl
theorem sp20g {p a b : Nat} {nm : List AV} {ks : List Nat} (hm : H[im]? = some (mtObj s iho ih)) (hw : H[iw]? = some (wyObj io ⟨p, a, nm, b :: ks⟩)) :
    Cl (d + 1) 20 [.ref im, encO .gain, .ref iw] H (.bool (decide ((b : Int) < a))) (H.set iw (wyObj io ⟨p, a, nm, ks⟩)) := by
  have n1 : im ≠ iw := neO hm hw (by first | (intro h; injection h; done) | (intro k h; injection h; done) | exact nofun)
  apply cl_mk rfl rfl
  · unfold b20
    apply s_tup
    · repeat (first | assumption | (with_reducible (first | apply e_loc | apply e_attr)) | exact rfl)
    · exact rfl
    · exact rfl
    repeat (first | assumption | (with_reducible (first | apply e_val | apply e_loc | apply e_attr | apply e_slice | apply e_cmp | exact slS | apply gS | (refine gN ?_ ?_; first | assumption | (apply Ne.symm; assumption)))) | apply s_asg | apply s_put | apply s_ret | exact rfl | (apply s_ifT; (· repeat (first | (with_reducible (first | apply e_val | apply e_loc | apply e_item | apply e_cmp)) | exact rfl))))
  · exact rfl
theorem sp20s {p a b : Nat} {nm : List AV} {ks : List Nat} (hm : H[im]? = some (mtObj s iho ih)) (hw : H[iw]? = some (wyObj io ⟨p, a, nm, b :: ks⟩)) (hho : H[iho]? = some (hoObj iv ir il st)) (hv : H[iv]? = some (.dict n)) (hr : H[ir]? = some (.list [])) (hl : H[il]? = some (.list lg)) (hk : H[r]? = some (nrObj key)) (b1 : n < big) (b2 : lg.length < big) :
    Cl (d + 2) 20 [.ref im, encO (.set r key), .ref iw] H (.bool true) (((H.set iw (wyObj io ⟨p, a, nm, ks⟩)).set iv (.dict (n + 1))).set il (.list (lg ++ [.tup [.str key, .str (cutS s b a)]]))) := by
  have n1 : im ≠ iw := neO hm hw (by first | (intro h; injection h; done) | (intro k h; injection h; done) | exact nofun)
  have n2 : iho ≠ iw := neO hho hw (by first | (intro h; injection h; done) | (intro k h; injection h; done) | exact nofun)
  have n3 : iv ≠ iw := neO hv hw (by first | (intro h; injection h; done) | (intro k h; injection h; done) | exact nofun)
  have n4 : ir ≠ iw := neO hr hw (by first | (intro h; injection h; done) | (intro k h; injection h; done) | exact nofun)
  have n5 : il ≠ iw := neO hl hw (by first | (intro h; injection h; done) | (intro k h; injection h; done) | exact nofun)
  have n6 : r ≠ iw := neO hk hw (by first | (intro h; injection h; done) | (intro k h; injection h; done) | exact nofun)
  apply cl_mk rfl rfl
  · unfold b20
    apply s_tup
    · repeat (first | assumption | (with_reducible (first | apply e_loc | apply e_attr)) | exact rfl)
    · exact rfl
    · exact rfl
    repeat (first | assumption | (with_reducible (first | apply e_nil | apply e_val | apply e_loc | apply e_cons | apply e_attr | apply e_item | apply e_slice | apply e_meth | exact slS | apply gS | (refine gN ?_ ?_; first | assumption | (apply Ne.symm; assumption)))) | apply s_asg | apply s_put | apply s_ret | exact rfl | (apply s_ifF; (· repeat (first | (with_reducible (first | apply e_val | apply e_loc | apply e_item | apply e_cmp)) | exact rfl))) | (apply s_ifT; (· repeat (first | (with_reducible (first | apply e_val | apply e_loc | apply e_item | apply e_cmp)) | exact rfl))))
    exact sp26 (gN n2 hho) (gN n3 hv) (gN n4 hr) (gN n5 hl) (gN n6 hk) b1 b2
  · exact rfl
/- the step of the host -/
theorem sp27 (hho : H[iho]? = some (hoObj iv ir il st)) (h : st + 1 ≤ 90) : Cl (d + 1) 27 [.ref iho] H .none (H.set iho (hoObj iv ir il (st + 1))) := by
  apply cl_mk rfl rfl
  · unfold b27; repeat (first | assumption | (with_reducible apply e_loc) | apply s_augA | exact rfl)
    apply s_ifF
    · repeat (first | assumption | (with_reducible (first | apply e_loc | apply e_attr | apply e_cmp | apply gS)) | exact rfl)
      exact c_ngt (by lia)
    repeat (apply s_nil)
  · exact rfl
theorem sp27x (hho : H[iho]? = some (hoObj iv ir il st)) (h : 90 < st + 1) : callD P2 NN (d + 1) 27 [.ref iho] H = .exc (H.set iho (hoObj iv ir il (st + 1))) := by
  apply cl_exc rfl rfl
  · unfold b27; repeat (first | assumption | (with_reducible apply e_loc) | apply s_augA | exact rfl)
    apply s_ifT
    · repeat (first | assumption | (with_reducible (first | apply e_loc | apply e_attr | apply e_cmp | apply gS)) | exact rfl)
      exact c_gt (by lia)
    exact s_raise
  · exact rfl
theorem sp17n (hm : H[im]? = some (mtObj s iho ih)) (hh : H[ih]? = some (.list [])) : Cl (d + 1) 17 [.ref im] H .none H := by
  apply cl_mk rfl rfl
  · unfold b17; repeat (apply s_ret)
    apply e_ifF
    · repeat (first | assumption | (with_reducible (first | apply e_nil | apply e_val | apply e_loc | apply e_cons | apply e_attr | apply e_cmp | apply e_bi | apply lenL)) | exact rfl)
    repeat (with_reducible apply e_val)
  · exact rfl
theorem sp17c {l : List AV} {x : AV} (hm : H[im]? = some (mtObj s iho ih)) (hh : H[ih]? = some (.list (l ++ [x]))) : Cl (d + 1) 17 [.ref im] H x (H.set ih (.list l)) := by
  have q : liV H ih (l ++ [x]) 1 [] = .ok x (H.set ih (.list l)) := by
    show popV H ih (l ++ [x]) = _
    simp only [popV, List.getLast?_concat, List.dropLast_concat]
  apply cl_mk rfl rfl
  · unfold b17; repeat (apply s_ret)
    apply e_ifT
    · repeat (first | assumption | (with_reducible (first | apply e_nil | apply e_val | apply e_loc | apply e_cons | apply e_attr | apply e_cmp | apply e_bi | apply lenL)) | exact rfl)
      exact c_gt (by simp)
    apply e_lm
    · repeat (first | assumption | (with_reducible (first | apply e_loc | apply e_attr)) | exact rfl)
    · repeat (assumption)
    · exact rfl
    · repeat (with_reducible apply e_nil)
    · exact hh
    · exact q
  · exact rfl
theorem isi_no (o : On) : biV H .isi [o.told, .bi .tuple] = .ok (.bool false) H := by induction o using Mine.On.casesOn <;> rfl
/- one sign run -/
theorem sp19n {o : On} (hm : H[im]? = some (mtObj s iho ih)) (hw : H[iw]? = some (wyObj io w)) (h : o.ends s w.at_ = none) : Cl (d + 4) 19 [.ref im, encO (.one o), .ref iw] H (.bool false) H := by
  have h6 := sp36 (d := d) (H := H) (s := s) (a := w.at_) o
  rw [h] at h6
  apply cl_mk rfl rfl
  · unfold b19; repeat (first | (with_reducible (first | apply e_val | apply e_loc | apply e_item)) | apply s_asg | exact rfl)
    apply s_ifF
    · repeat (first | (with_reducible (first | apply e_nil | apply e_val | apply e_loc | apply e_cons | apply e_bi)) | exact rfl)
      exact isi_no o
    repeat (first | assumption | (with_reducible (first | apply e_nil | apply e_val | apply e_loc | apply e_cons | apply e_tup | apply e_attr | apply e_item | apply e_fn)) | apply s_asg | apply s_ret | exact rfl | (apply s_ifT; (· repeat (first | (with_reducible (first | apply e_val | apply e_loc | apply e_cmp)) | exact rfl))))
  · exact rfl
theorem sp19y {o : On} {n : Nat} (hm : H[im]? = some (mtObj s iho ih)) (hw : H[iw]? = some (wyObj io w)) (h : o.ends s w.at_ = some n) : Cl (d + 4) 19 [.ref im, encO (.one o), .ref iw] H (.bool true) (H.set iw (wyObj io { w with at_ := n, pc := w.pc + 1 })) := by
  have h6 := sp36 (d := d) (H := H) (s := s) (a := w.at_) o
  rw [h] at h6
  apply cl_mk rfl rfl
  · unfold b19; repeat (first | (with_reducible (first | apply e_val | apply e_loc | apply e_item)) | apply s_asg | exact rfl)
    apply s_ifF
    · repeat (first | (with_reducible (first | apply e_nil | apply e_val | apply e_loc | apply e_cons | apply e_bi)) | exact rfl)
      exact isi_no o
    repeat (first | assumption | (with_reducible (first | apply e_nil | apply e_val | apply e_loc | apply e_cons | apply e_tup | apply e_attr | apply e_item | apply e_fn | apply gS)) | apply s_asg | apply s_put | apply s_ret | apply s_augA | exact rfl | (apply s_ifF; (· repeat (first | (with_reducible (first | apply e_val | apply e_loc | apply e_cmp)) | exact rfl))))
  · rw [List.set_set]; exact rfl
theorem dn_one {o : On} {b : Bool} {H' : AH} (hm : H[im]? = some (mtObj s iho ih)) (h : Cl d 19 [.ref im, encO (.one o), .ref iw] H (.bool b) H') : Cl (d + 1) 18 [.ref im, encO (.one o), .ref iw] H (.bool b) H' := by
  apply cl_mk rfl rfl
  · unfold b18; repeat (first | assumption | (with_reducible (first | apply e_nil | apply e_val | apply e_loc | apply e_cons | apply e_item | apply e_meth)) | apply s_asg | apply s_ret | exact rfl | (apply s_ifT; (· repeat (first | (with_reducible (first | apply e_val | apply e_loc | apply e_cmp)) | exact rfl))))
  · exact rfl
theorem dn_fence (hm : H[im]? = some (mtObj s iho ih)) (hh : H[ih]? = some (.list hs)) (hw : H[iw]? = some (wyObj io w)) (hl : hs.length < big) :
    Cl (d + 3) 18 [.ref im, encO .fence, .ref iw] H (.bool true) (((H ++ [wyF .none (.int 0) (.int 0) .none .none .none]).set ih (.list (hs ++ [.ref H.length]))).set iw (wyObj io { w with pc := w.pc + 1 })) := by
  have n1 : ih ≠ iw := neO hh hw (by first | (intro h; injection h; done) | (intro k h; injection h; done) | exact nofun)
  apply cl_mk rfl rfl
  · unfold b18; repeat (first | assumption | (with_reducible (first | apply e_nil | apply e_val | apply e_loc | apply e_cons | apply e_item | apply e_meth)) | apply s_asg | apply s_ret | exact rfl | (apply s_ifF; (· repeat (first | (with_reducible (first | apply e_nil | apply e_val | apply e_loc | apply e_cons | apply e_tup | apply e_cmp)) | exact rfl))))
    apply cl_mk rfl rfl
    · unfold b21; repeat (first | assumption | (with_reducible (first | apply e_nil | apply e_val | apply e_loc | apply e_cons | apply e_attr | apply e_item | apply e_app | apply e_cls)) | apply s_asg | apply s_expr | exact rfl | (apply s_ifF; (· repeat (first | (with_reducible (first | apply e_val | apply e_loc | apply e_cmp)) | exact rfl))) | (apply s_ifT; (· repeat (first | (with_reducible (first | apply e_val | apply e_loc | apply e_cmp)) | exact rfl))))
      · exact sp13
      repeat (first | assumption | (with_reducible (first | apply e_val | apply e_loc | apply gA | (refine gN ?_ ?_; first | assumption | (apply Ne.symm; assumption)))) | apply s_ret | apply s_augA | exact rfl)
    · exact rfl
  · exact rfl
/- name, set, gain, place -/
theorem dn_name {p a b : Nat} {nm : List AV} {ks : List Nat} (hm : H[im]? = some (mtObj s iho ih)) (hw : H[iw]? = some (wyObj io ⟨p, a, nm, b :: ks⟩)) :
    Cl (d + 2) 18 [.ref im, encO (.name r), .ref iw] H (.bool true) (H.set iw (wyObj io ⟨p + 1, a, .tup [.ref r, .str (cutS s b a)] :: nm, ks⟩)) := by
  have g := sp20n (d := d) (r := r) hm hw
  apply cl_mk rfl rfl
  · unfold b18; repeat (first | assumption | (with_reducible (first | apply e_val | apply e_loc | apply e_item | apply gS)) | apply s_asg | apply s_ret | apply s_augA | exact rfl | (apply s_ifF; (· repeat (first | assumption | (with_reducible (first | apply e_nil | apply e_val | apply e_loc | apply e_cons | apply e_tup | apply e_cmp | apply e_notT | apply e_meth)) | exact rfl))) | (apply s_ifT; (· repeat (first | (with_reducible (first | apply e_nil | apply e_val | apply e_loc | apply e_cons | apply e_tup | apply e_cmp)) | exact rfl))))
  · rw [List.set_set]; exact rfl
theorem dn_gainT {p a b : Nat} {nm : List AV} {ks : List Nat} (hm : H[im]? = some (mtObj s iho ih)) (hw : H[iw]? = some (wyObj io ⟨p, a, nm, b :: ks⟩)) (h : b < a) :
    Cl (d + 2) 18 [.ref im, encO .gain, .ref iw] H (.bool true) (H.set iw (wyObj io ⟨p + 1, a, nm, ks⟩)) := by
  have g := sp20g (d := d) hm hw
  rw [decide_eq_true (by lia : (b : Int) < a)] at g
  apply cl_mk rfl rfl
  · unfold b18; repeat (first | assumption | (with_reducible (first | apply e_val | apply e_loc | apply e_item | apply gS)) | apply s_asg | apply s_ret | apply s_augA | exact rfl | (apply s_ifF; (· repeat (first | assumption | (with_reducible (first | apply e_nil | apply e_val | apply e_loc | apply e_cons | apply e_tup | apply e_cmp | apply e_notT | apply e_meth)) | exact rfl))) | (apply s_ifT; (· repeat (first | (with_reducible (first | apply e_nil | apply e_val | apply e_loc | apply e_cons | apply e_tup | apply e_cmp)) | exact rfl))))
  · rw [List.set_set]; exact rfl
theorem dn_gainF {p a b : Nat} {nm : List AV} {ks : List Nat} (hm : H[im]? = some (mtObj s iho ih)) (hw : H[iw]? = some (wyObj io ⟨p, a, nm, b :: ks⟩)) (h : ¬ b < a) :
    Cl (d + 2) 18 [.ref im, encO .gain, .ref iw] H (.bool false) (H.set iw (wyObj io ⟨p, a, nm, ks⟩)) := by
  have g := sp20g (d := d) hm hw
  rw [decide_eq_false (by lia : ¬ (b : Int) < a)] at g
  apply cl_mk rfl rfl
  · unfold b18; repeat (first | (with_reducible (first | apply e_val | apply e_loc | apply e_item)) | apply s_asg | apply s_ret | exact rfl | (apply s_ifF; (· repeat (first | assumption | (with_reducible (first | apply e_nil | apply e_val | apply e_loc | apply e_cons | apply e_tup | apply e_cmp | apply e_notT | apply e_meth)) | exact rfl))) | (apply s_ifT; (· repeat (first | assumption | (with_reducible (first | apply e_nil | apply e_val | apply e_loc | apply e_cons | apply e_tup | apply e_cmp | apply e_notF | apply e_meth)) | exact rfl))))
  · exact rfl
theorem dn_set {p a b : Nat} {nm : List AV} {ks : List Nat} (hm : H[im]? = some (mtObj s iho ih)) (hw : H[iw]? = some (wyObj io ⟨p, a, nm, b :: ks⟩)) (hho : H[iho]? = some (hoObj iv ir il st)) (hv : H[iv]? = some (.dict n)) (hr : H[ir]? = some (.list [])) (hl : H[il]? = some (.list lg)) (hk : H[r]? = some (nrObj key)) (b1 : n < big) (b2 : lg.length < big) :
    Cl (d + 3) 18 [.ref im, encO (.set r key), .ref iw] H (.bool true) ((((H.set iw (wyObj io ⟨p, a, nm, ks⟩)).set iv (.dict (n + 1))).set il (.list (lg ++ [.tup [.str key, .str (cutS s b a)]]))).set iw (wyObj io ⟨p + 1, a, nm, ks⟩)) := by
  have n1 : iw ≠ iv := neO hw hv (by first | (intro h; injection h; done) | (intro k h; injection h; done) | exact nofun)
  have n2 : iw ≠ il := neO hw hl (by first | (intro h; injection h; done) | (intro k h; injection h; done) | exact nofun)
  have g := sp20s (d := d) hm hw hho hv hr hl hk b1 b2
  apply cl_mk rfl rfl
  · unfold b18; repeat (first | assumption | (with_reducible (first | apply e_val | apply e_loc | apply e_item | apply gS | (refine gN ?_ ?_; first | assumption | (apply Ne.symm; assumption)))) | apply s_asg | apply s_ret | apply s_augA | exact rfl | (apply s_ifF; (· repeat (first | assumption | (with_reducible (first | apply e_nil | apply e_val | apply e_loc | apply e_cons | apply e_tup | apply e_cmp | apply e_notT | apply e_meth)) | exact rfl))) | (apply s_ifT; (· repeat (first | (with_reducible (first | apply e_nil | apply e_val | apply e_loc | apply e_cons | apply e_tup | apply e_cmp)) | exact rfl))))
  · exact rfl
theorem dn_place (hm : H[im]? = some (mtObj s iho ih)) (hw : H[iw]? = some (wyObj io w)) (hho : H[iho]? = some (hoObj iv ir il st)) (hv : H[iv]? = some (.dict n)) (hr : H[ir]? = some (.list [])) (hl : H[il]? = some (.list lg)) (hk : H[r]? = some (nrObj key)) (b1 : n < big) (b2 : lg.length < big) :
    Cl (d + 2) 18 [.ref im, encO (.place r key), .ref iw] H (.bool true) (((H.set iv (.dict (n + 1))).set il (.list (lg ++ [.tup [.str key, vI w.at_]]))).set iw (wyObj io { w with pc := w.pc + 1 })) := by
  have n1 : iw ≠ iv := neO hw hv (by first | (intro h; injection h; done) | (intro k h; injection h; done) | exact nofun)
  have n2 : iw ≠ il := neO hw hl (by first | (intro h; injection h; done) | (intro k h; injection h; done) | exact nofun)
  have g := sp26 (d := d) (v := vI w.at_) hho hv hr hl hk b1 b2
  apply cl_mk rfl rfl
  · unfold b18; repeat (first | assumption | (with_reducible (first | apply e_val | apply e_loc | apply e_item | (refine gN ?_ ?_; first | assumption | (apply Ne.symm; assumption)))) | apply s_asg | apply s_ret | apply s_augA | exact rfl | (apply s_ifF; (· repeat (first | assumption | (with_reducible (first | apply e_nil | apply e_val | apply e_loc | apply e_cons | apply e_tup | apply e_attr | apply e_item | apply e_cmp | apply e_notT | apply e_meth)) | exact rfl))) | (apply s_ifT; (· repeat (first | (with_reducible (first | apply e_val | apply e_loc | apply e_cmp)) | exact rfl))))
  · exact rfl
end
end Mine
end
section
namespace Mine
open PySem
structure Ad where
  im : Nat
  iho : Nat
  io : Nat
  iv : Nat
  ir : Nat
  il : Nat
  ih : Nat
noncomputable abbrev Stk := List (Nat × Option Wy)
noncomputable def wayO (io : Nat) : Option Wy → AObj
  | some w => wyObj io w
  | none => wyF .none (.int 0) (.int 0) .none .none .none
noncomputable def stk (io : Nat) (l : Stk) : List (Nat × AObj) := l.map fun p => (p.1, wayO io p.2)
noncomputable def refs (hs : Stk) : List AV := (hs.map fun p => AV.ref p.1).reverse
noncomputable abbrev F6 (A : Ad) (s : List Nat) (os : List Od) (st n : Nat) (lg : List AV) : List (Nat × AObj) :=
  [(A.im, mtObj s A.iho A.ih), (A.iho, hoObj A.iv A.ir A.il st), (A.io, .list (os.map encO)), (A.iv, .dict n), (A.ir, .list []), (A.il, .list lg)]
structure Ms (H : AH) (A : Ad) (s : List Nat) (os : List Od) (st m : Nat) (lg : List AV) (tp : Stk) (hs : Stk) (Φ : List (Nat × AObj)) : Prop where
  has : ∃ n, n ≤ m ∧ Has H (F6 A s os st n lg ++ (A.ih, .list (refs hs)) :: (stk A.io tp ++ (stk A.io hs ++ Φ)))
  llg : lg.length ≤ m
  lhs : hs.length ≤ 10 * m
section
variable {d : Nat} {H : AH} {A : Ad} {s key : List Nat} {os : List Od} {st m : Nat} {lg : List AV} {tp hs : Stk} {Φ Ψ : List (Nat × AObj)} {w : Wy} {iw : Nat}
theorem stk_cons {p : Nat × Option Wy} {io : Nat} : stk io (p :: hs) = (p.1, wayO io p.2) :: stk io hs := rfl
theorem refs_cons {p : Nat × Option Wy} : refs (p :: hs) = refs hs ++ [.ref p.1] := by simp only [refs, List.map_cons, List.reverse_cons]
theorem refs_len : (refs hs).length = hs.length := by simp only [refs, List.length_reverse, List.length_map]
theorem Ms.frame (M : Ms H A s os st m lg tp hs Φ) (h : Φ.Perm Ψ) : Ms H A s os st m lg tp hs Ψ := by
  obtain ⟨n, hn, g⟩ := M.has
  exact ⟨⟨n, hn, g.perm (((h.append_left _).append_left _).cons _ |>.append_left _)⟩, M.llg, M.lhs⟩
theorem Ms.mono (M : Ms H A s os st m lg tp hs Φ) {k : Nat} (h : m ≤ k) : Ms H A s os st k lg tp hs Φ := by
  obtain ⟨n, hn, g⟩ := M.has
  exact ⟨⟨n, Nat.le_trans hn h, g⟩, Nat.le_trans M.llg h, Nat.le_trans M.lhs (Nat.mul_le_mul_left 10 h)⟩
theorem Ms.gm (M : Ms H A s os st m lg tp hs Φ) : H[A.im]? = some (mtObj s A.iho A.ih) := by
  obtain ⟨n, hn, g⟩ := M.has
  exact g.at_ _ (.head _)
theorem Ms.gho (M : Ms H A s os st m lg tp hs Φ) : H[A.iho]? = some (hoObj A.iv A.ir A.il st) := by
  obtain ⟨n, hn, g⟩ := M.has
  exact g.at_ _ (.tail _ (.head _))
theorem Ms.go (M : Ms H A s os st m lg tp hs Φ) : H[A.io]? = some (.list (os.map encO)) := by
  obtain ⟨n, hn, g⟩ := M.has
  exact g.at_ _ (.tail _ (.tail _ (.head _)))
theorem Ms.gh (M : Ms H A s os st m lg tp hs Φ) : H[A.ih]? = some (.list (refs hs)) := by
  obtain ⟨n, hn, g⟩ := M.has
  exact g.at_ _ (List.mem_append_right _ (.head _))
theorem Ms.fr (M : Ms H A s os st m lg tp hs Φ) : Has H Φ := by
  obtain ⟨n, hn, g⟩ := M.has
  exact g.sub ((List.sublist_append_right _ _).trans ((List.sublist_append_right _ _).trans ((List.sublist_cons_self _ _).trans (List.sublist_append_right _ _))))
theorem Ms.gw (M : Ms H A s os st m lg [(iw, some w)] hs Φ) : H[iw]? = some (wyObj A.io w) := by
  obtain ⟨n, hn, g⟩ := M.has
  exact g.at_ (iw, wyObj A.io w) (List.mem_append_right _ (.tail _ (.head _)))
theorem Ms.gs (M : Ms H A s os st m lg tp hs Φ) {p : Nat × Option Wy} (h : p ∈ hs) : H[p.1]? = some (wayO A.io p.2) := by
  obtain ⟨n, hn, g⟩ := M.has
  exact g.at_ (p.1, wayO A.io p.2) (List.mem_append_right _ (.tail _ (List.mem_append_right _ (List.mem_append_left _ (List.mem_map_of_mem h)))))
/- what may be done -/
theorem Ms.setW (M : Ms H A s os st m lg [(iw, some w)] hs Φ) (w' : Wy) : Ms (H.set iw (wyObj A.io w')) A s os st m lg [(iw, some w')] hs Φ := by
  obtain ⟨n, hn, g⟩ := M.has
  exact ⟨⟨n, hn, Has.set (Γ := F6 A s os st n lg ++ [(A.ih, .list (refs hs))]) (i := iw) (x := wyObj A.io w) g⟩, M.llg, M.lhs⟩
theorem Ms.app (M : Ms H A s os st m lg tp hs Φ) (y : AObj) : Ms (H ++ [y]) A s os st m lg tp hs ((H.length, y) :: Φ) := by
  obtain ⟨n, hn, g⟩ := M.has
  refine ⟨⟨n, hn, (g.app (x := y)).perm ?_⟩, M.llg, M.lhs⟩
  have e := (List.perm_middle (a := (H.length, y)) (l₁ := F6 A s os st n lg ++ (A.ih, .list (refs hs)) :: (stk A.io tp ++ stk A.io hs)) (l₂ := Φ)).symm
  simpa only [List.append_assoc, List.cons_append] using e
theorem Ms.drop (M : Ms H A s os st m lg tp hs (Φ ++ Ψ)) : Ms H A s os st m lg tp hs Ψ := by
  obtain ⟨n, hn, g⟩ := M.has
  exact ⟨⟨n, hn, g.sub (((((List.sublist_append_right Φ Ψ).append_left _).append_left _).cons₂ _).append_left _)⟩, M.llg, M.lhs⟩
theorem Ms.push (M : Ms H A s os st m lg tp hs Φ) (y : Option Wy) {k : Nat} (hk : m ≤ k) (hb : hs.length + 1 ≤ 10 * k) : Ms ((H ++ [wayO A.io y]).set A.ih (.list (refs hs ++ [.ref H.length]))) A s os st k lg tp ((H.length, y) :: hs) Φ := by
  obtain ⟨n, hn, g⟩ := M.has
  refine ⟨⟨n, Nat.le_trans hn hk, ?_⟩, Nat.le_trans M.llg hk, by simpa using hb⟩
  rw [refs_cons]
  refine Has.set (x := .list (refs hs)) ((g.app (x := wayO A.io y)).perm ?_)
  have e := (List.perm_middle (a := (H.length, wayO A.io y)) (l₁ := F6 A s os st n lg ++ (A.ih, .list (refs hs)) :: stk A.io tp) (l₂ := stk A.io hs ++ Φ)).symm
  simpa only [List.append_assoc, List.cons_append, stk_cons] using e
inductive Ms_logR (H : AH) (A : Ad) (s : List Nat) (os : List Od) (st : Nat) (m : Nat) (lg : List AV) (tp : Stk) (hs : Stk) (Φ : List (Nat × AObj)) (v : AV) : Prop where
  | mk (n : Nat) (zc1 : n < big) (zc2 : H[A.iv]? = some (.dict n)) (zc3 : H[A.ir]? = some (.list [])) (zc4 : H[A.il]? = some (.list lg)) (zc5 : Ms ((H.set A.iv (.dict (n + 1))).set A.il (.list (lg ++ [v]))) A s os st (m + 1) (lg ++ [v]) tp hs Φ)
theorem Ms.log (M : Ms H A s os st m lg tp hs Φ) (v : AV) (hb : ∀ n, n ≤ m → n < big) : Ms_logR H A s os st m lg tp hs Φ v := by
  obtain ⟨n, hn, g⟩ := M.has
  have g1 := Has.set (Γ := (F6 A s os st n lg).take 3) (i := A.iv) (x := .dict n) (y := .dict (n + 1)) g
  exact ⟨n, hb n hn, g.at_ _ (.tail _ (.tail _ (.tail _ (.head _)))), g.at_ _ (.tail _ (.tail _ (.tail _ (.tail _ (.head _))))), g.at_ _ (.tail _ (.tail _ (.tail _ (.tail _ (.tail _ (.head _)))))),
    ⟨n + 1, Nat.succ_le_succ hn, Has.set (Γ := (F6 A s os st (n + 1) lg).take 5) (i := A.il) (x := .list lg) g1⟩, by simp; exact M.llg, Nat.le_trans M.lhs (by lia)⟩
theorem Ms.step (M : Ms H A s os st m lg tp hs Φ) : Ms (H.set A.iho (hoObj A.iv A.ir A.il (st + 1))) A s os (st + 1) m lg tp hs Φ := by
  obtain ⟨n, hn, g⟩ := M.has
  exact ⟨⟨n, hn, Has.set (Γ := [(A.im, mtObj s A.iho A.ih)]) (i := A.iho) (x := hoObj A.iv A.ir A.il st) g⟩, M.llg, M.lhs⟩
theorem Ms.back {p : Nat × Option Wy} (M : Ms H A s os st m lg tp (p :: hs) Φ) : Ms (H.set A.ih (.list (refs hs))) A s os st m lg [p] hs Φ := by
  obtain ⟨n, hn, g⟩ := M.has
  refine ⟨⟨n, hn, Has.set (x := .list (refs (p :: hs))) (g.sub (.append_left (.cons₂ _ ?_) _))⟩, M.llg, by have := M.lhs; simp at this; lia⟩
  exact List.sublist_append_right _ _
end
end Mine
end
section
namespace Mine
open PySem
inductive SR where
  | stuck
  | fail
  | go (w : Wy) (ps : List (Option Wy)) (lg : List AV)
noncomputable def endS (w : Wy) : Option Nat → SR
  | none => .fail
  | some n => .go { w with at_ := n, pc := w.pc + 1 } [] []
noncomputable def waysS (w : Wy) : List Nat → SR
  | [] => .fail
  | a :: r => .go { w with pc := w.pc + 1, at_ := a } (r.map fun t => some { w with pc := w.pc + 1, at_ := t }) []
noncomputable def kept (w : Wy) (f : Nat → List Nat → SR) : SR := match w.ks with
  | [] => .stuck
  | b :: ks => f b ks
noncomputable def oStep (s : List Nat) (od : Od) (w : Wy) : SR := match od with
  | .one o => endS w (o.ends s w.at_)
  | .ways b => waysS w (wyEnds s b w.at_)
  | .split k => .go { w with pc := w.pc + 1 } [some { w with pc := k }] []
  | .jump k => .go { w with pc := k } [] []
  | .mark => .go { w with ks := w.at_ :: w.ks, pc := w.pc + 1 } [] []
  | .name r => kept w fun b ks => .go ⟨w.pc + 1, w.at_, .tup [.ref r, .str (cutS s b w.at_)] :: w.nm, ks⟩ [] []
  | .set _ key => kept w fun b ks => .go ⟨w.pc + 1, w.at_, w.nm, ks⟩ [] [.tup [.str key, .str (cutS s b w.at_)]]
  | .gain => kept w fun b ks => if b < w.at_ then .go ⟨w.pc + 1, w.at_, w.nm, ks⟩ [] [] else .fail
  | .place _ key => .go { w with pc := w.pc + 1 } [] [.tup [.str key, vI w.at_]]
  | .fence => .go { w with pc := w.pc + 1 } [none] []
  | .fail => .fail
  | .abort => .stuck
  | .done => .stuck
noncomputable def OdOk (Φ : List (Nat × AObj)) : Od → Prop
  | .name r => ∃ key, (r, nrObj key) ∈ Φ
  | .set r key => (r, nrObj key) ∈ Φ
  | .place r key => (r, nrObj key) ∈ Φ
  | _ => True
section
variable {d : Nat} {H : AH} {A : Ad} {s key : List Nat} {os : List Od} {st m : Nat} {lg : List AV} {tp hs : Stk} {Φ Ψ : List (Nat × AObj)} {w : Wy} {iw : Nat}
noncomputable def DoneIs (d : Nat) (H : AH) (A : Ad) (s : List Nat) (os : List Od) (st m : Nat) (lg : List AV) (iw : Nat) (hs : Stk) (Φ : List (Nat × AObj)) (f : Nat) (args : List AV) : SR → Prop
  | .stuck => True
  | .fail => ∃ H' w', Cl d f args H (.bool false) H' ∧ Ms H' A s os st (m + 1) lg [(iw, some w')] hs Φ
  | .go w' ps l' => ∃ H' ns, Cl d f args H (.bool true) H' ∧ ns.map (·.2) = ps ∧ Ms H' A s os st (m + 1) (lg ++ l') [(iw, some w')] (ns ++ hs) Φ
inductive Sp_f22R (d : Nat) (A : Ad) (s : List Nat) (os : List Od) (st : Nat) (m : Nat) (lg : List AV) (Φ : List (Nat × AObj)) (w : Wy) (iw : Nat) (il : Nat) (x2 : Option AV) (ts : List Nat) (n : Nat) (k : Nat) (H : AH) (hs : Stk) (x3 : Option AV) (x4 : Option AV) : Prop where
  | mk (H' : AH) (ns : Stk) (x3' : Option AV) (x4' : Option AV) (zc1 : foD (d + 2) f22t f22 n (.list il k) [some (.ref A.im), some (.ref iw), x2, x3, x4] H = .ok .next [some (.ref A.im), some (.ref iw), x2, x3', x4'] H') (zc2 : ns.map (·.2) = (ts.reverse.map fun t => some { w with at_ := t })) (zc3 : Ms H' A s os st m lg [(iw, some w)] (ns ++ hs) Φ)
theorem sp_f22 {il : Nat} {T : List Nat} {x2 : Option AV} (hl : ∀ H : AH, Has H Φ → H[il]? = some (.list (T.map vI))) (hm : m ≤ 1000) : ∀ (ts : List Nat) (n k : Nat) (H : AH) (hs : Stk) (x3 x4 : Option AV), ts.length < n → T.drop k = ts → hs.length + ts.length ≤ 10 * m → Ms H A s os st m lg [(iw, some w)] hs Φ →
    Sp_f22R d A s os st m lg Φ w iw il x2 ts n k H hs x3 x4
  | [], n + 1, k, H, hs, x3, x4, _, ht, _, M =>
    ⟨H, [], x3, x4, fo_n (it_n (hl H M.fr) (List.getElem?_eq_none (by simpa using ht))), rfl, M⟩
  | t :: ts, n + 1, k, H, hs, x3, x4, h, ht, hz, M => by
    have h1 : T[k]? = some t := by rw [← Nat.add_zero k, ← List.getElem?_drop, ht]; rfl
    have h3 : T.drop (k + 1) = ts := by rw [← List.drop_drop, ht]; rfl
    have M1 := M.push (some { w with at_ := t }) (Nat.le_refl m) (by simp at hz; lia)
    obtain ⟨H', ns, y3, y4, e1, e2, M2⟩ := sp_f22 hl hm ts n (k + 1) _ _ (some (vI t)) (some (.ref H.length)) (by simpa using h) h3 (by simp at hz ⊢; lia) M1
    refine ⟨H', ns ++ [(H.length, some { w with at_ := t })], y3, y4, ?_, by simp [e2], by rw [List.append_assoc]; exact M2⟩
    apply fo_c
    · exact it_c (hl H M.fr) (by rw [List.getElem?_map, h1]; rfl)
    · exact rfl
    case k => exact e1
    have hm := M.gm
    have hh := M.gh
    have hw := M.gw
    have hb : (refs hs).length < big := by rw [refs_len]; have := M.lhs; have : big = 16777216 := rfl; lia
    unfold f22; repeat (first | assumption | (with_reducible (first | apply e_nil | apply e_loc | apply e_cons | apply e_attr | apply e_meth)) | apply s_asg | exact rfl)
    · exact sp14 hw
    repeat (first | assumption | (with_reducible (first | apply e_loc | apply e_attr | apply e_app | apply gA)) | apply s_putE | apply s_expr | apply s_nil | exact rfl)
theorem slR {ie : Nat} {a : AV} {r : List AV} (h : H[ie]? = some (.list (a :: r))) : sliceV H (.ref ie) .none (.int 0) (.int (-1)) = .ok (.ref H.length) (H ++ [.list r.reverse]) := by
  show (match H[ie]? with | some (.list l) => Out.ok (AV.ref H.length) (H ++ [AObj.list (SK.down.ap l)]) | _ => .bad) = _
  rw [h]; rfl
theorem sp22n {ie : Nat} (h : H[ie]? = some (.list [])) : Cl (d + 1) 22 [.ref A.im, .ref iw, .ref ie] H (.bool false) H := by
  apply cl_mk rfl rfl
  · unfold b22; repeat (first | (with_reducible apply e_val) | apply s_ret | (apply s_ifT; (· repeat (first | assumption | (with_reducible (first | apply e_nil | apply e_val | apply e_loc | apply e_cons | apply e_cmp | apply e_bi | apply lenL)) | exact rfl))))
  · exact rfl
theorem itemZ {i : Nat} {a : AV} {r : List AV} (g : H[i]? = some (.list (a :: r))) : itemV H (.ref i) (.int 0) = some a := itemL (k := 0) g rfl
inductive Sp22cR (d : Nat) (H : AH) (A : Ad) (s : List Nat) (os : List Od) (st : Nat) (m : Nat) (lg : List AV) (hs : Stk) (Φ : List (Nat × AObj)) (w : Wy) (iw : Nat) (ie : Nat) (a : Nat) (r : List Nat) : Prop where
  | mk (H' : AH) (ns : Stk) (zc1 : Cl (d + 3) 22 [.ref A.im, .ref iw, .ref ie] H (.bool true) H') (zc2 : ns.map (·.2) = (r.map fun t => some { w with pc := w.pc + 1, at_ := t })) (zc3 : Ms H' A s os st (m + 1) lg [(iw, some { w with pc := w.pc + 1, at_ := a })] (ns ++ hs) Φ)
theorem sp22c {ie a : Nat} {r : List Nat} (hm : m ≤ 900) (hr : r.length ≤ 9) (M : Ms H A s os st m lg [(iw, some w)] hs ((ie, .list ((a :: r).map vI)) :: Φ)) :
    Sp22cR d H A s os st m lg hs Φ w iw ie a r := by
  have hw := M.gw
  have hl := M.fr.hd
  have M1 := M.setW { w with pc := w.pc + 1 }
  have hl1 := M1.fr.hd
  have hsl := slR hl1
  rw [← List.map_reverse] at hsl
  have M2 := (M1.app (.list (r.reverse.map vI))).mono (Nat.le_succ m)
  have hlh := M.lhs
  obtain ⟨H', ns, x3, x4, e1, e2, M3⟩ := sp_f22 (d := d) (T := r.reverse) (x2 := some (.ref ie)) (fun H h => h.hd) (by lia) r.reverse NN 0 _ hs none none (by simp [NN]; lia) rfl (by simp; lia) M2
  rw [List.reverse_reverse] at e2
  have hw3 := M3.gw
  have hl3 := M3.fr.tl.hd
  refine ⟨_, ns, ?_, e2, (M3.setW { w with pc := w.pc + 1, at_ := a }).drop (Φ := [_, _])⟩
  apply cl_mk rfl rfl
  · unfold b22
    apply s_ifF
    · repeat (first | assumption | (with_reducible (first | apply e_nil | apply e_val | apply e_loc | apply e_cons | apply e_cmp | apply e_bi | apply lenL)) | exact rfl)
    apply s_augA
    · repeat (first | (with_reducible apply e_loc) | exact rfl)
    · repeat (assumption)
    · repeat (exact rfl)
    apply s_for
    · repeat (assumption)
    · exact it_of gE
    · exact e1
    repeat (first | (with_reducible (first | apply e_val | apply e_loc | apply e_item)) | apply s_put | exact rfl)
    exact itemZ hl3
    repeat (first | assumption | (with_reducible (first | apply e_val | apply e_loc)) | apply s_ret | exact rfl)
  · exact rfl
inductive Dn_waysNR (d : Nat) (H : AH) (A : Ad) (s : List Nat) (os : List Od) (st : Nat) (m : Nat) (lg : List AV) (hs : Stk) (Φ : List (Nat × AObj)) (w : Wy) (iw : Nat) (b : Bool) : Prop where
  | mk (H' : AH) (zc1 : Cl (d + 6) 18 [.ref A.im, encO (.ways b), .ref iw] H (.bool false) H') (zc2 : Ms H' A s os st m lg [(iw, some w)] hs Φ)
theorem dn_waysN {b : Bool} (hc : ∀ c ∈ s, c ≠ 40 ∧ c ≠ 41) (hs3 : s.length ≤ 9) (ha : w.at_ ≤ s.length) (M : Ms H A s os st m lg [(iw, some w)] hs Φ) (h : wyEnds s b w.at_ = []) :
    Dn_waysNR d H A s os st m lg hs Φ w iw b := by
  have g := sp37 (d := d + 1) (H := H) b ha hc (by lia)
  rw [h] at g
  have hm := M.gm
  have hw := M.gw
  have k := sp22n (d := d + 3) (A := A) (iw := iw) (gE (H := H) (x := .list []))
  refine ⟨_, ?_, (M.app (.list [])).drop (Φ := [_])⟩
  apply cl_mk rfl rfl
  · unfold b18; repeat (first | assumption | (with_reducible (first | apply e_nil | apply e_val | apply e_loc | apply e_cons | apply e_item | apply e_meth)) | apply s_asg | apply s_ret | exact rfl | (apply s_ifF; (· repeat (first | (with_reducible (first | apply e_nil | apply e_val | apply e_loc | apply e_cons | apply e_tup | apply e_cmp)) | exact rfl))))
    apply cl_mk rfl rfl
    · unfold b21; repeat (first | assumption | (with_reducible (first | apply e_nil | apply e_val | apply e_loc | apply e_cons | apply e_attr | apply e_item | apply e_fn | apply e_meth)) | apply s_asg | apply s_ret | exact rfl | (apply s_ifF; (· repeat (first | (with_reducible (first | apply e_val | apply e_loc | apply e_cmp)) | exact rfl))) | (apply s_ifT; (· repeat (first | (with_reducible (first | apply e_val | apply e_loc | apply e_cmp)) | exact rfl))))
    · exact rfl
  · exact rfl
inductive Dn_waysCR (d : Nat) (H : AH) (A : Ad) (s : List Nat) (os : List Od) (st : Nat) (m : Nat) (lg : List AV) (hs : Stk) (Φ : List (Nat × AObj)) (w : Wy) (iw : Nat) (b : Bool) (a : Nat) (r : List Nat) : Prop where
  | mk (H' : AH) (ns : Stk) (zc1 : Cl (d + 6) 18 [.ref A.im, encO (.ways b), .ref iw] H (.bool true) H') (zc2 : ns.map (·.2) = (r.map fun t => some { w with pc := w.pc + 1, at_ := t })) (zc3 : Ms H' A s os st (m + 1) lg [(iw, some { w with pc := w.pc + 1, at_ := a })] (ns ++ hs) Φ)
theorem dn_waysC {b : Bool} {a : Nat} {r : List Nat} (hc : ∀ c ∈ s, c ≠ 40 ∧ c ≠ 41) (hs3 : s.length ≤ 9) (hm0 : m ≤ 900) (hr : r.length ≤ 9) (ha : w.at_ ≤ s.length) (M : Ms H A s os st m lg [(iw, some w)] hs Φ) (h : wyEnds s b w.at_ = a :: r) :
    Dn_waysCR d H A s os st m lg hs Φ w iw b a r := by
  have g := sp37 (d := d + 1) (H := H) b ha hc (by lia)
  rw [h] at g
  have hm := M.gm
  have hw := M.gw
  obtain ⟨H', ns, k, e, M2⟩ := sp22c (d := d + 1) hm0 hr (M.app (.list ((a :: r).map vI)))
  refine ⟨H', ns, ?_, e, M2⟩
  apply cl_mk rfl rfl
  · unfold b18; repeat (first | assumption | (with_reducible (first | apply e_nil | apply e_val | apply e_loc | apply e_cons | apply e_item | apply e_meth)) | apply s_asg | apply s_ret | exact rfl | (apply s_ifF; (· repeat (first | (with_reducible (first | apply e_nil | apply e_val | apply e_loc | apply e_cons | apply e_tup | apply e_cmp)) | exact rfl))))
    apply cl_mk rfl rfl
    · unfold b21; repeat (first | assumption | (with_reducible (first | apply e_nil | apply e_val | apply e_loc | apply e_cons | apply e_attr | apply e_item | apply e_fn | apply e_meth)) | apply s_asg | apply s_ret | exact rfl | (apply s_ifF; (· repeat (first | (with_reducible (first | apply e_val | apply e_loc | apply e_cmp)) | exact rfl))) | (apply s_ifT; (· repeat (first | (with_reducible (first | apply e_val | apply e_loc | apply e_cmp)) | exact rfl))))
    · exact rfl
  · exact rfl
theorem wyLen {b : Bool} {a : Nat} : (wyEnds s b a).length ≤ s.length + 1 := by
  unfold wyEnds
  split <;> simp only [List.length_range'] <;> lia
theorem done_is (hc : ∀ c ∈ s, c ≠ 40 ∧ c ≠ 41) (hs3 : s.length ≤ 8) (hm0 : m ≤ 900) (ha : w.at_ ≤ s.length) (M : Ms H A s os st m lg [(iw, some w)] hs Φ) (od : Od) (ho : OdOk Φ od) :
    DoneIs (d + 6) H A s os st m lg iw hs Φ 18 [.ref A.im, encO od, .ref iw] (oStep s od w) := by
  have hm := M.gm
  have hw := M.gw
  have hh := M.gh
  have hb : (refs hs).length < big := by rw [refs_len]; have := M.lhs; have : big = 16777216 := rfl; lia
  have hb2 : ∀ n, n ≤ m → n < big := fun n h => by have : big = 16777216 := rfl; lia
  have n1 : A.ih ≠ iw := neO hh hw (by first | (intro h; injection h; done) | (intro k h; injection h; done) | exact nofun)
  have up : m ≤ m + 1 := Nat.le_succ m
  have one : ∀ {w' : Wy} {H' : AH}, Cl (d + 6) 18 [.ref A.im, encO od, .ref iw] H (.bool true) H' → Ms H' A s os st m lg [(iw, some w')] hs Φ → DoneIs (d + 6) H A s os st m lg iw hs Φ 18 [.ref A.im, encO od, .ref iw] (.go w' [] []) :=
    fun h g => ⟨_, [], h, rfl, by rw [List.append_nil]; exact g.mono up⟩
  have nw : ∀ {w' : Wy} {y : Option Wy}, Cl (d + 6) 18 [.ref A.im, encO od, .ref iw] H (.bool true) (((H ++ [wayO A.io y]).set A.ih (.list (refs hs ++ [.ref H.length]))).set iw (wyObj A.io w')) → DoneIs (d + 6) H A s os st m lg iw hs Φ 18 [.ref A.im, encO od, .ref iw] (.go w' [y] []) :=
    fun h => ⟨_, [(H.length, _)], h, rfl, by rw [List.append_nil]; exact (M.push _ up (by have := M.lhs; lia)).setW _⟩
  induction od using Mine.Od.casesOn with
  | one o =>
    show DoneIs _ _ _ _ _ _ _ _ _ _ _ _ _ (endS w _)
    cases h : o.ends s w.at_ with
    | none => exact ⟨H, w, dn_one hm (sp19n (d := d + 1) hm hw h), M.mono up⟩
    | some n => exact one (dn_one hm (sp19y (d := d + 1) hm hw h)) (M.setW _)
  | ways b =>
    show DoneIs _ _ _ _ _ _ _ _ _ _ _ _ _ (waysS w _)
    have hl := wyLen (s := s) (b := b) (a := w.at_)
    cases h : wyEnds s b w.at_ with
    | nil =>
      obtain ⟨H', e, g⟩ := dn_waysN (d := d) hc (by lia) ha M h
      exact ⟨H', w, e, g.mono up⟩
    | cons a r =>
      rw [h] at hl
      obtain ⟨H', ns, e, e2, g⟩ := dn_waysC (d := d) hc (by lia) hm0 (by simp at hl; lia) ha M h
      exact ⟨H', ns, e, e2, by rw [List.append_nil]; exact g⟩
  | split k => exact nw (y := some { w with pc := k }) (dn_split hm hh hw hb n1)
  | jump k => exact one (dn_jump hw) (M.setW _)
  | mark => exact one (dn_mark hw) (M.setW _)
  | fence => exact nw (y := none) (dn_fence hm hh hw hb)
  | fail => exact ⟨H, w, dn_fail hm, M.mono up⟩
  | abort => trivial
  | done => trivial
  | place r key =>
    obtain ⟨n, b1, hv, hr, hl, g⟩ := M.log (.tup [.str key, vI w.at_]) hb2
    exact ⟨_, [], dn_place hm hw M.gho hv hr hl (M.fr.at_ _ ho) b1 (hb2 _ M.llg), rfl, g.setW _⟩
  | name r =>
    obtain ⟨p, a, nm, ks⟩ := w
    induction ks using List.casesOn with
    | nil => trivial
    | cons b ks => exact one (dn_name hm hw) (M.setW _)
  | set r key =>
    obtain ⟨p, a, nm, ks⟩ := w
    induction ks using List.casesOn with
    | nil => trivial
    | cons b ks =>
      have M1 := M.setW ⟨p, a, nm, ks⟩
      obtain ⟨n, b1, hv, hr, hl, _⟩ := M.log (.tup [.str key, .str (cutS s b a)]) hb2
      obtain ⟨n', _, hv', _, _, g⟩ := M1.log (.tup [.str key, .str (cutS s b a)]) hb2
      have e : n = n' := by
        rw [gN (neO hv hw (by first | (intro h; injection h; done) | (intro k h; injection h; done) | exact nofun)) hv] at hv'
        cases  hv'; rfl
      subst e
      exact ⟨_, [], dn_set hm hw M.gho hv hr hl (M.fr.at_ _ ho) b1 (hb2 _ M.llg), rfl, g.setW _⟩
  | gain =>
    obtain ⟨p, a, nm, ks⟩ := w
    induction ks using List.casesOn with
    | nil => trivial
    | cons b ks =>
      show DoneIs _ _ _ _ _ _ _ _ _ _ _ _ _ (if b < a then _ else _)
      by_cases h : b < a
      · rw [if_pos h]
        exact one (dn_gainT hm hw h) (M.setW _)
      · rw [if_neg h]
        exact ⟨_, _, dn_gainF hm hw h, (M.setW _).mono up⟩
end
end Mine
end
section
namespace Mine
open PySem
section
variable {d : Nat} {H : AH} {Γ Δ : List (Nat × AObj)} {i j io iw : Nat} {l : List AV}
theorem insZ {v : AV} (h : l.length < big) : liV H i l 3 [.int 0, v] = .ok .none (H.set i (.list (v :: l))) := if_pos ⟨rfl, h⟩
theorem sp_w42 : ∀ (l acc : List AV) (n : Nat) (x2 : Option AV), l.length < n → acc.length + l.length < big →
    ∃ y2, whD d w42c w42 n [some (nest l), some (.ref H.length), x2] (H ++ [.list acc]) = .ok .next [some .none, some (.ref H.length), y2] (H ++ [.list (l.reverse ++ acc)])
  | [], acc, n + 1, x2, _, _ => by
    refine ⟨x2, ?_⟩
    apply wh_f
    unfold w42c; repeat (first | (with_reducible (first | apply e_loc | apply e_cmp)) | exact rfl)
  | r :: l, acc, n + 1, x2, h, hz => by
    obtain ⟨y2, ih⟩ := sp_w42 l (r :: acc) n (some r) (by simpa using h) (by simp at hz ⊢; lia)
    refine ⟨y2, ?_⟩
    rw [List.reverse_cons, List.append_assoc]
    apply wh_t
    · unfold w42c; repeat (first | (with_reducible (first | apply e_val | apply e_loc | apply e_cmp)) | exact rfl)
    case k => exact ih
    unfold w42
    apply s_tup
    · repeat (first | (with_reducible apply e_loc) | exact rfl)
    · exact rfl
    · exact rfl
    apply s_expr
    · apply e_lm
      · repeat (first | (with_reducible apply e_loc) | exact rfl)
      · exact gE
      · exact rfl
      · repeat (first | (with_reducible (first | apply e_nil | apply e_val | apply e_loc | apply e_cons)) | exact rfl)
      · exact gE
      · exact insZ (by lia)
    · exact rfl
    rw [setEnd]; repeat (apply s_nil)
theorem sp42 (h : l.length < 1000) : Cl (d + 1) 42 [nest l] H (.ref H.length) (H ++ [.list l.reverse]) := by
  obtain ⟨y2, e⟩ := sp_w42 (d := d) (H := H) l [] NN none (by unfold NN; lia) (by have : big = 16777216 := rfl; simp; lia)
  rw [List.append_nil] at e
  apply cl_mk rfl rfl
  · unfold b42; repeat (first | (with_reducible (first | apply e_nil | apply e_list)) | apply s_asg | exact rfl)
    apply s_while
    · exact e
    repeat (first | (with_reducible apply e_loc) | apply s_ret | exact rfl)
  · exact rfl
noncomputable abbrev Sn := Option Wy × Nat × Nat
noncomputable def sV : Sn → AV
  | (none, _) => .none
  | (some w, r1, r2) => .tup [vI w.pc, vI w.at_, .ref r1, .ref r2]
noncomputable def sF : Sn → List (Nat × AObj)
  | (none, _) => []
  | (some w, r1, r2) => [(r1, .list w.nm.reverse), (r2, .list (w.ks.map vI).reverse)]
def Sm (y : Option Wy) : Prop := ∀ w, y = some w → w.nm.length < 1000 ∧ w.ks.length < 1000
inductive Sp43R (d : Nat) (H : AH) (Γ : List (Nat × AObj)) (iw : Nat) (y : Option Wy) : Prop where
  | mk (H' : AH) (x : Sn) (zc1 : x.1 = y) (zc2 : Cl (d + 2) 43 [.ref iw] H (sV x) H') (zc3 : Has H' (sF x ++ Γ))
theorem sp43 {y : Option Wy} (g : Has H Γ) (hw : H[iw]? = some (wayO io y)) (hy : Sm y) : Sp43R d H Γ iw y := by
  induction y using Option.casesOn with
  | none =>
    refine ⟨H, (none, 0, 0), rfl, ?_, g⟩
    apply cl_mk rfl rfl
    · unfold b43; repeat (first | (with_reducible apply e_val) | apply s_ret | (apply e_ifT; (· repeat (first | assumption | (with_reducible (first | apply e_val | apply e_loc | apply e_attr | apply e_cmp)) | exact rfl))))
    · exact rfl
  | some w =>
    obtain ⟨h1, h2⟩ := hy w rfl
    have e1 := sp42 (d := d) (H := H) h1
    have e2 := sp42 (d := d) (H := H ++ [.list w.nm.reverse]) (l := w.ks.map vI) (by simpa using h2)
    refine ⟨_, (some w, H.length, (H ++ [AObj.list w.nm.reverse]).length), rfl, ?_, (((g.app (x := .list w.nm.reverse)).app (x := .list (w.ks.map vI).reverse))).perm (.swap _ _ _)⟩
    have hw' : H[iw]? = some (wyObj io w) := hw
    apply cl_mk rfl rfl
    · unfold b43; repeat (first | assumption | (with_reducible (first | apply e_nil | apply e_loc | apply e_cons | apply e_tup | apply e_attr | apply e_fn | apply gA)) | apply s_ret | exact rfl | (apply e_ifF; (· repeat (first | assumption | (with_reducible (first | apply e_val | apply e_loc | apply e_attr | apply e_cmp)) | exact rfl))))
    · exact rfl
inductive Cp43R (d : Nat) (Γ : List (Nat × AObj)) (il : Nat) (ts : Stk) (k : Nat) (n : Nat) (l : Loc) (H : AH) (σ : List Sn) : Prop where
  | mk (H' : AH) (σ' : List Sn) (zc1 : cpD (d + 2) c45 c45t [] n (.list il k) l H (σ.map sV) = .ok ((σ ++ σ').map sV) H') (zc2 : σ'.map (·.1) = ts.map (·.2)) (zc3 : Has H' ((σ ++ σ').flatMap sF ++ Γ))
theorem cp43 {il : Nat} {T : Stk} (hT : ∀ p ∈ T, (p.1, wayO io p.2) ∈ Γ ∧ Sm p.2) (hl : (il, AObj.list (T.map fun p => .ref p.1)) ∈ Γ) (hz : T.length < 10000) : ∀ (ts : Stk) (k n : Nat) (l : Loc) (H : AH) (σ : List Sn), T.drop k = ts → ts.length < n → l.length = 2 → σ.length + ts.length < 10000 → Has H (σ.flatMap sF ++ Γ) →
    Cp43R d Γ il ts k n l H σ
  | [], k, n + 1, l, H, σ, ht, hn, _, _, g => by
    refine ⟨H, [], ?_, rfl, by rw [List.append_nil]; exact g⟩
    rw [List.append_nil]
    exact cg_n (it_n (g.at_ _ (List.mem_append_right _ hl)) (List.getElem?_eq_none (by simpa using ht)))
  | p :: ts, k, n + 1, l, H, σ, ht, hn, hl2, hz2, g => by
    have h1 : T[k]? = some p := by rw [← Nat.add_zero k, ← List.getElem?_drop, ht]; rfl
    have h3 : T.drop (k + 1) = ts := by rw [← List.drop_drop, ht]; rfl
    obtain ⟨hp, hs⟩ := hT p (List.mem_of_getElem? h1)
    obtain ⟨H1, x, ex, e1, g1⟩ := sp43 (d := d) g (g.at_ _ (List.mem_append_right _ hp)) hs
    have g2 : Has H1 ((σ ++ [x]).flatMap sF ++ Γ) := g1.perm (by
      rw [List.flatMap_append, List.flatMap_singleton]
      simpa only [List.append_assoc] using (List.perm_append_comm (l₁ := sF x) (l₂ := σ.flatMap sF)).append_right Γ)
    obtain ⟨H', σ', e2, e3, g3⟩ := cp43 hT hl hz ts (k + 1) n (l.set 1 (some (.ref p.1))) H1 (σ ++ [x]) h3 (by simpa using hn) (by simpa using hl2) (by simp at hz2 ⊢; lia) g2
    rw [List.append_assoc] at e2 g3
    refine ⟨H', x :: σ', ?_, by simp [e3, ex], g3⟩
    apply cg_c
    · exact it_c (g.at_ _ (List.mem_append_right _ hl)) (by rw [List.getElem?_map, h1]; rfl)
    · show setLoc l 1 _ = _
      rw [setLoc, if_pos (by lia)]
    · unfold c45
      apply e_fn
      · apply e_cons
        · apply e_loc
          rw [List.getElem?_set_self (by lia)]
        · repeat (with_reducible apply e_nil)
      · exact e1
    · have : big = 16777216 := rfl
      simp at hz2 ⊢; lia
    · rw [List.map_append] at e2; exact e2
end
end Mine
end
section
namespace Mine
open PySem
section
variable {d : Nat} {H : AH} {Γ Δ : List (Nat × AObj)} {i j io iw : Nat} {l x y : List AV}
theorem hasA {z : AObj} (g : Has H Γ) : Has (H ++ [z]) Γ := g.app.tl
theorem all2_refl {f : AV → AV → Bool} : ∀ {l : List AV}, (∀ x ∈ l, f x x = true) → all2 f l l = true
  | [], _ => rfl
  | a :: l, h => by
    show (f a a && all2 f l l) = true
    rw [h a (.head _), all2_refl fun x hx => h x (.tail _ hx)]; rfl
noncomputable def NmOkS (Γ : List (Nat × AObj)) (l : List AV) : Prop := ∀ x ∈ l, ∃ r t key, x = .tup [.ref r, .str t] ∧ (r, nrObj key) ∈ Γ
theorem same_list {f : AV → AV → Bool} (hx : H[i]? = some (.list x)) (hy : H[j]? = some (.list y)) (h : all2 f x y = true) : sameR f H i j = true := by
  unfold sameR; rw [hx]; dsimp only; rw [hy]; exact h
theorem same_int {n : Nat} {a : Int} : same H (n + 1) (.int a) (.int a) = true := by
  show decide (a = a) = true
  exact decide_eq_true rfl
theorem same_str {n : Nat} {a : List Nat} : same H (n + 1) (.str a) (.str a) = true := by
  show decide (a = a) = true
  exact decide_eq_true rfl
theorem same_nm {n : Nat} (g : Has H Γ) (h : NmOkS Γ l) : all2 (same H (n + 2)) l l = true := all2_refl fun x hx => by
  obtain ⟨r, t, key, rfl, hr⟩ := h x hx
  show (sameR (same H n) H r r && (same H (n + 1) (.str t) (.str t) && true)) = true
  rw [same_str]
  unfold sameR
  rw [g.at_ _ hr]
  show (decide (r = r) && _) = true
  rw [decide_eq_true rfl]; rfl
theorem same_ints {n : Nat} {l : List Int} : all2 (same H (n + 1)) (l.map AV.int) (l.map AV.int) = true := all2_refl fun x hx => by
  obtain ⟨a, _, rfl⟩ := List.mem_map.mp hx
  exact same_int
set_option tactic.hygienic true
theorem intsOf_same : ∀ {x y : List AV} {a b : List Int}, all2 (same H 8) x y = true → intsOf x = some a → intsOf y = some b → a = b
  | [], [], _, _, _, h1, h2 => by cases  h1; cases  h2; rfl
  | [], _ :: _, _, _, h, _, _ => by exact absurd h Bool.false_ne_true
  | _ :: _, [], _, _, h, _, _ => by exact absurd h Bool.false_ne_true
  | u :: x, v :: y, a, b, h, h1, h2 => by
    obtain ⟨q, h'⟩ := Bool.and_eq_true_iff.mp (show (same H 8 u v && all2 (same H 8) x y) = true from h)
    induction u using Mine.AV.casesOn <;> try injection h1
    induction v using Mine.AV.casesOn <;> try injection h2
    rename_i i j
    obtain ⟨a', e1, rfl⟩ := Option.map_eq_some_iff.mp (show (intsOf x).map (i :: ·) = some a from h1)
    obtain ⟨b', e2, rfl⟩ := Option.map_eq_some_iff.mp (show (intsOf y).map (j :: ·) = some b from h2)
    rw [intsOf_same h' e1 e2, of_decide_eq_true (show decide (i = j) = true from q)]
set_option tactic.hygienic false
theorem eqR_same (hx : H[i]? = some (.list x)) (hy : H[j]? = some (.list y)) (h : all2 (same H 8) x y = true) : eqR H i j = some true := by
  unfold eqR aeqL
  rw [hx, hy]
  dsimp only
  cases e1 : intsOf x with
  | none => exact if_pos (same_list hx hy h)
  | some a =>
    cases e2 : intsOf y with
    | none => exact if_pos (same_list hx hy h)
    | some b => exact congrArg some (decide_eq_true (intsOf_same h e1 e2))
theorem c_same (hx : H[i]? = some (.list x)) (hy : H[j]? = some (.list y)) (h : all2 (same H 8) x y = true) : cmpV H .NotEq (.ref i) (.ref j) = some false := by
  show (eqR H i j).map _ = _
  rw [eqR_same hx hy h]; rfl
theorem c_eqL (hx : H[i]? = some (.list x)) (hy : H[j]? = some (.list y)) (h : all2 (same H 8) x y = true) : cmpV H .Eq (.ref i) (.ref j) = some true := eqR_same hx hy h
theorem c_ieq {a b : Int} (h : a = b) : cmpV H .NotEq (.int a) (.int b) = some false := by
  subst h
  show some (!decide (a = a)) = _
  rw [decide_eq_true rfl]; rfl
theorem binL (hx : H[i]? = some (.list x)) (hy : H[j]? = some (.list y)) (h : x.length + y.length ≤ big) : binV H .Add (.ref i) (.ref j) = .ok (.ref H.length) (H ++ [.list (x ++ y)]) := by
  show catV H i j = _
  unfold catV
  rw [hx, hy]; exact if_pos h
theorem slT {n : Nat} (hx : H[i]? = some (.list x)) : sliceV H (.ref i) .none (.int n) .none = .ok (.ref H.length) (H ++ [.list (x.take n)]) := by
  have e : partN (.int (n : Int)) = some (some n) := by simp [partN]
  show (match skOf .none (.int n) .none with | none => Out.bad | some k => _) = _
  rw [show skOf .none (.int n) .none = some (.take n) by unfold skOf; rw [e]; rfl]
  show (match H[i]? with | some (.list l) => Out.ok (AV.ref H.length) (H ++ [AObj.list (SK.ap (.take n) l)]) | _ => .bad) = _
  rw [hx]; rfl
theorem intsOf_mapI : ∀ {l : List Int}, intsOf (l.map AV.int) = some l
  | [] => rfl
  | a :: l => by show (intsOf (l.map AV.int)).map (a :: ·) = _; rw [intsOf_mapI]; rfl
theorem sortL {l : List Int} (hx : H[i]? = some (.list (l.map AV.int))) (h : ascL l = true) (hl : l.length < 64) : biV H .sorted [.ref i] = .ok (.ref H.length) (H ++ [.list (l.map AV.int)]) := by
  show sortedV H (.ref i) = _
  unfold sortedV
  dsimp only
  rw [hx]
  dsimp only
  rw [intsOf_mapI]; exact if_pos ⟨h, hl⟩
noncomputable def kv (w : Wy) : List Int := (w.ks.map fun k : Nat => (k : Int)).reverse ++ [(w.at_ : Int)]
structure Wok (hts : List Int) (n : Nat) (w : Wy) : Prop where
  hgt : hts[w.pc]? = some (w.ks.length : Int)
  asc : ascL (kv w) = true
  le : w.at_ ≤ n
  sk : w.ks.length < 60
  sn : w.nm.length < 1000
noncomputable def Chn (hts : List Int) (n : Nat) : List AV → List Wy → Prop
  | _, [] => True
  | a, w :: r => Wok hts n w ∧ w.nm.reverse.take a.length = a ∧ Chn hts n w.nm.reverse r
noncomputable def fil : List Sn → List (Wy × Nat × Nat)
  | [] => []
  | (none, _) :: r => fil r
  | (some w, p) :: r => (w, p) :: fil r
theorem cp44 {il : Nat} {T : List Sn} (hl : H[il]? = some (.list (T.map sV))) (hz : T.length < 20000) : ∀ (ts : List Sn) (k n : Nat) (l : Loc) (acc : List AV), T.drop k = ts → ts.length < n → l.length = 2 → acc.length + ts.length < 20000 →
    cpD d c44 c44t [.cmp (.loc 1) [.IsNot] [.val .none]] n (.list il k) l H acc = .ok (acc ++ (fil ts).map fun p => sV (some p.1, p.2)) H
  | [], k, n + 1, l, acc, ht, hn, _, _ => by
    show _ = Out.ok (acc ++ []) H
    rw [List.append_nil]
    exact cg_n (it_n hl (List.getElem?_eq_none (by simpa using ht)))
  | x :: ts, k, n + 1, l, acc, ht, hn, hl2, hz2 => by
    have h1 : T[k]? = some x := by rw [← Nat.add_zero k, ← List.getElem?_drop, ht]; rfl
    have h3 : T.drop (k + 1) = ts := by rw [← List.drop_drop, ht]; rfl
    have hb : acc.length < big := by have : big = 16777216 := rfl; simp at hz2; lia
    have hg : (l.set 1 (some (sV x)))[1]? = some (some (sV x)) := by rw [List.getElem?_set_self (by lia)]
    have hs : tgV c44t (sV x) l = some (l.set 1 (some (sV x))) := by
      show setLoc l 1 _ = _
      rw [setLoc, if_pos (by lia)]
    have hi := it_c (v := sV x) hl (by rw [List.getElem?_map, h1]; rfl)
    obtain ⟨y, p⟩ := x
    induction y using Option.casesOn with
    | none =>
      refine cg_i (b := false) (x := .none) (H1 := H) hi hs ?_ (fun h => by exact absurd h Bool.false_ne_true) hb ?_
      · exact e_cmp (e_loc hg) e_val rfl
      · exact cp44 hl hz ts (k + 1) n _ acc h3 (by simpa using hn) (by simpa using hl2) (by simp at hz2 ⊢; lia)
    | some w =>
      have ih := cp44 hl hz ts (k + 1) n (l.set 1 (some (sV (some w, p)))) (acc ++ [sV (some w, p)]) h3 (by simpa using hn) (by simpa using hl2) (by simp at hz2 ⊢; lia)
      rw [List.append_assoc] at ih
      refine cg_i (b := true) hi hs ?_ (fun _ => e_loc hg) hb ih
      exact e_cmp (e_loc hg) e_val rfl
inductive Sd_fR (d : Nat) (H : AH) (Γ : List (Nat × AObj)) (w : Wy) (r1 : Nat) (r2 : Nat) (n : Nat) (ia : Nat) (ihh : Nat) (x0 : Option AV) : Prop where
  | mk (H' : AH) (zc1 : Es d [x0, some (.ref ihh), some (.int n), some (.ref ia), some (vI w.pc), some (vI w.at_), some (.ref r1), some (.ref r2)] H f442 (.ok .next [x0, some (.ref ihh), some (.int n), some (.ref r1), some (vI w.pc), some (vI w.at_), some (.ref r1), some (.ref r2)] H')) (zc2 : Has H' Γ)
theorem sd_f {w : Wy} {r1 r2 n ia ihh : Nat} {x0 : Option AV} {hts : List Int} {a : List AV} (W : Wok hts n w) (hn : n < 1000) (ha : w.nm.reverse.take a.length = a) (hnm : NmOkS Γ w.nm) (g : Has H Γ) (h1 : (r1, AObj.list w.nm.reverse) ∈ Γ) (h2 : (r2, AObj.list (w.ks.map vI).reverse) ∈ Γ) (hh : (ihh, AObj.list (hts.map AV.int)) ∈ Γ) (hia : H[ia]? = some (.list a)) :
    Sd_fR d H Γ w r1 r2 n ia ihh x0 := by
  have g1 := g.at_ _ h1
  have g2 := g.at_ _ h2
  have gh := g.at_ _ hh
  have ek : (w.ks.map vI).reverse ++ [vI w.at_] = (kv w).map AV.int := by
    unfold kv; rw [List.map_append, List.map_reverse, List.map_map]; rfl
  have hl2 : (w.ks.map vI).reverse.length = w.ks.length := by simp
  have hsk := W.sk
  have hk : (kv w).length < 64 := by unfold kv; simp; lia
  have hb : (w.ks.map vI).reverse.length + [vI w.at_].length ≤ big := by have : big = 16777216 := rfl; rw [hl2]; simp; lia
  have hr : NmOkS Γ a := fun x hx => hnm x (List.mem_reverse.mp (List.mem_of_mem_take (ha ▸ hx)))
  apply Sd_fR.mk
  · unfold f442
    apply s_ifF
    · apply e_orF
      · repeat (first | assumption | (with_reducible (first | apply e_nil | apply e_loc | apply e_cons | apply e_item | apply e_cmp | apply e_bi | apply lenL)) | exact rfl)
        · exact itemL gh (by rw [List.getElem?_map, W.hgt]; rfl)
        · exact c_ieq (by rw [hl2])
      apply e_orF
      · repeat (first | (with_reducible (first | apply e_nil | apply e_loc | apply e_cons | apply e_list | apply e_bin | apply e_cmp)) | exact rfl)
        exact binL (gA g2) gE hb
        repeat (first | (with_reducible (first | apply e_nil | apply e_loc | apply e_cons | apply e_list | apply e_bin | apply e_bi)) | exact rfl)
        exact binL (gA (gA (gA g2))) gE hb
        repeat (with_reducible apply e_nil)
        exact sortL (ek ▸ gE) W.asc hk
        rw [ek]; exact c_same (gA (gA (gA gE))) gE same_ints
      apply e_one
      apply e_notT
      apply e_le2
      · repeat (with_reducible apply e_val)
      · repeat (first | (with_reducible apply e_loc) | exact rfl)
      · repeat (first | (with_reducible apply e_loc) | exact rfl)
      · lia
      · have := W.le; lia
    apply s_ifF
    · repeat (first | assumption | (with_reducible (first | apply e_nil | apply e_val | apply e_loc | apply e_cons | apply e_slice | apply e_cmp | apply e_bi | apply lenL | apply gA)) | exact rfl)
      · exact slT (gA (gA (gA (gA (gA g1)))))
      · repeat (first | (with_reducible apply e_loc) | exact rfl)
      · rw [ha]; exact c_same gE (gA (gA (gA (gA (gA (gA hia)))))) (same_nm (hasA (hasA (hasA (hasA (hasA (hasA g)))))) hr)
    repeat (first | (with_reducible apply e_loc) | apply s_asg | apply s_nil | exact rfl)
  · exact hasA (hasA (hasA (hasA (hasA (hasA g)))))
end
end Mine
end
section
namespace Mine
open PySem
section
variable {d : Nat} {H : AH} {Γ Δ Φ : List (Nat × AObj)} {i j io iw : Nat} {s : List Nat} {os : List Od} {hts : List Int} {n m : Nat} {w : Wy}
noncomputable abbrev tV (p : Wy × Nat × Nat) : AV := sV (some p.1, p.2)
noncomputable def TOk (Γ : List (Nat × AObj)) (p : Wy × Nat × Nat) : Prop := (p.2.1, AObj.list p.1.nm.reverse) ∈ Γ ∧ (p.2.2, AObj.list (p.1.ks.map vI).reverse) ∈ Γ ∧ NmOkS Γ p.1.nm
inductive Sd_loopR (d : Nat) (Γ : List (Nat × AObj)) (n : Nat) (icl : Nat) (ihh : Nat) (x0 : Option AV) (k : Nat) (f : Nat) (H : AH) (ia : Nat) (y4 : Option AV) (y5 : Option AV) (y6 : Option AV) (y7 : Option AV) : Prop where
  | mk (H' : AH) (l' : Loc) (zc1 : foD d f442t f442 f (.list icl k) [x0, some (.ref ihh), some (.int n), some (.ref ia), y4, y5, y6, y7] H = .ok .next l' H') (zc2 : Has H' Γ)
theorem sd_loop {icl ihh : Nat} {x0 : Option AV} {T : List (Wy × Nat × Nat)} (hn : n < 1000) (hh : (ihh, AObj.list (hts.map AV.int)) ∈ Γ) (hl : (icl, AObj.list (T.map tV)) ∈ Γ) (hT : ∀ p ∈ T, TOk Γ p) : ∀ (ts : List (Wy × Nat × Nat)) (k f : Nat) (H : AH) (ia : Nat) (a : List AV) (y4 y5 y6 y7 : Option AV), T.drop k = ts → ts.length < f → Has H Γ → H[ia]? = some (.list a) → Chn hts n a (ts.map (·.1)) →
    Sd_loopR d Γ n icl ihh x0 k f H ia y4 y5 y6 y7
  | [], k, f + 1, H, ia, a, y4, y5, y6, y7, ht, hf, g, _, _ => ⟨H, _, fo_n (it_n (g.at_ _ hl) (List.getElem?_eq_none (by simpa using ht))), g⟩
  | p :: ts, k, f + 1, H, ia, a, y4, y5, y6, y7, ht, hf, g, hia, C => by
    have h1 : T[k]? = some p := by rw [← Nat.add_zero k, ← List.getElem?_drop, ht]; rfl
    have h3 : T.drop (k + 1) = ts := by rw [← List.drop_drop, ht]; rfl
    obtain ⟨t1, t2, t3⟩ := hT p (List.mem_of_getElem? h1)
    obtain ⟨w, r1, r2⟩ := p
    obtain ⟨W, e, C'⟩ := C
    obtain ⟨H1, e1, g1⟩ := sd_f (d := d) (x0 := x0) W hn e t3 g t1 t2 hh hia
    obtain ⟨H', l', e2, g2⟩ := sd_loop hn hh hl hT ts (k + 1) f H1 r1 _ _ _ _ _ h3 (by simpa using hf) g1 (g1.at_ _ t1) C'
    exact ⟨H', l', fo_c (it_c (g.at_ _ hl) (by rw [List.getElem?_map, h1]; rfl)) rfl e1 e2, g2⟩
inductive Sp44R (d : Nat) (H : AH) (Γ : List (Nat × AObj)) (n : Nat) (il : Nat) (ihh : Nat) : Prop where
  | mk (H' : AH) (zc1 : Cl (d + 1) 44 [.ref il, .ref ihh, .int n] H (.bool true) H') (zc2 : Has H' Γ)
theorem sp44 {il ihh : Nat} {σ : List Sn} (hn : n < 1000) (hz : σ.length < 10000) (g : Has H Γ) (hl : (il, AObj.list (σ.map sV)) ∈ Γ) (hh : (ihh, AObj.list (hts.map AV.int)) ∈ Γ) (hT : ∀ p ∈ fil σ, TOk Γ p) (C : Chn hts n [] ((fil σ).map (·.1))) (hf : (fil σ).length < 50000) :
    Sp44R d H Γ n il ihh := by
  have g1 := g.app (x := .list [])
  have e0 := cp44 (d := d) (T := σ) (gA (z := [.list []]) (g.at_ _ hl)) (by lia) σ 0 NN [none, none] [] rfl (by unfold NN; lia) rfl (by simp; lia)
  have g2 := g1.app (x := .list ((fil σ).map tV))
  have hT2 : ∀ p ∈ fil σ, TOk (((H ++ [AObj.list []]).length, .list ((fil σ).map tV)) :: (H.length, .list []) :: Γ) p := fun p hp => by
    obtain ⟨a, b, c⟩ := hT p hp
    exact ⟨.tail _ (.tail _ a), .tail _ (.tail _ b), fun x hx => by obtain ⟨r, t, key, e, q⟩ := c x hx; exact ⟨r, t, key, e, .tail _ (.tail _ q)⟩⟩
  obtain ⟨H', l', e1, g3⟩ := sd_loop (d := d) (x0 := some (.ref il)) hn (.tail _ (.tail _ hh)) (.head _) hT2 (fil σ) 0 NN _ H.length [] none none none none rfl (by unfold NN; lia) g2 (gA gE) C
  refine ⟨H', ?_, g3.tl.tl⟩
  apply cl_mk rfl rfl
  · unfold b44; repeat (first | (with_reducible (first | apply e_nil | apply e_list)) | apply s_asg | exact rfl)
    apply s_for
    · apply e_comp
      · repeat (first | (with_reducible apply e_loc) | exact rfl)
      · exact it_of (gA (g.at_ _ hl))
      · exact e0
    · exact it_of gE
    · exact e1
    repeat (first | (with_reducible apply e_val) | apply s_ret)
  · exact rfl
noncomputable def dl : Od → Int
  | .mark => 1
  | .name _ => -1
  | .set _ _ => -1
  | .gain => -1
  | _ => 0
noncomputable def ht (os : List Od) (i : Nat) : Int := ((os.take i).map dl).sum
noncomputable def htsO (os : List Od) : List Int := (List.range os.length).map (ht os)
noncomputable def OdIn (os : List Od) (i : Nat) : Od → Prop
  | .split k => k < os.length ∧ ht os k = ht os i
  | .jump k => k < os.length ∧ ht os k = ht os i
  | .name _ => 1 ≤ ht os i
  | .set _ _ => 1 ≤ ht os i
  | .gain => 1 ≤ ht os i
  | _ => True
structure Wf (os : List Od) : Prop where
  od : ∀ i od, os[i]? = some od → (i + 1 < os.length ∨ od = .done) ∧ OdIn os i od
  up : ∀ i, ht os i < 60
theorem ht_succ {i : Nat} {od : Od} (h : os[i]? = some od) : ht os (i + 1) = ht os i + dl od := by
  unfold ht
  rw [List.take_add_one, h, List.map_append, List.sum_append]; simp
structure Wk (os : List Od) (Φ : List (Nat × AObj)) (n m : Nat) (w : Wy) : Prop where
  pc : w.pc < os.length
  hgt : ht os w.pc = w.ks.length
  asc : List.Pairwise (fun a b => b ≤ a) (w.at_ :: w.ks)
  le : w.at_ ≤ n
  nl : w.nm.length ≤ m
  nm : NmOkS Φ w.nm
theorem Wk.mono (W : Wk os Φ n m w) {k : Nat} (h : m ≤ k) : Wk os Φ n k w := ⟨W.pc, W.hgt, W.asc, W.le, Nat.le_trans W.nl h, W.nm⟩
set_option tactic.hygienic true
theorem ends_le {o : On} {a b : Nat} (ha : a ≤ s.length) (h : o.ends s a = some b) : a ≤ b ∧ b ≤ s.length := by
  induction o using Mine.On.casesOn with
  | chars t =>
    change (if cutS s a (a + t.length) = t then some (a + t.length) else none) = _ at h
    by_cases q : cutS s a (a + t.length) = t
    · rw [if_pos q] at h
      (injection h with j1; subst j1)
      have := congrArg List.length q
      simp [cutS] at this; lia
    · rw [if_neg q] at h; injection h
  | len k => simp only [On.ends, lenEnd] at h; split at h <;> (first | (injection h; done) | (injection h with j1; subst j1)); lia
  | any t =>
    simp only [On.ends, anyEnd] at h
    split at h
    · injection h
    · rename_i c q
      have := (List.getElem?_eq_some_iff.mp q).1
      split at h <;> (first | (injection h; done) | (injection h with j1; subst j1)); lia
  | rpos k => simp only [On.ends, rposEnd] at h; split at h <;> (first | (injection h; done) | (injection h with j1; subst j1)); lia
set_option tactic.hygienic false
theorem ways_le {b : Bool} {a e : Nat} (ha : a ≤ s.length) (h : e ∈ wyEnds s b a) : a ≤ e ∧ e ≤ s.length := by
  unfold wyEnds at h
  split at h
  · have := List.mem_range'_1.mp h; lia
  · have := List.mem_range'_1.mp h; lia
structure After (os : List Od) (Φ : List (Nat × AObj)) (n m : Nat) (w w' : Wy) (ps : List (Option Wy)) : Prop where
  wk : Wk os Φ n (m + 1) w'
  sfx : w.nm <:+ w'.nm
  ps : ∀ q, some q ∈ ps → Wk os Φ n (m + 1) q ∧ q.nm = w.nm
set_option tactic.hygienic true
theorem step_ok (F : Wf os) (W : Wk os Φ s.length m w) {od : Od} (ho : os[w.pc]? = some od) (hd : od ≠ .done) (hk : OdOk Φ od) {w' : Wy} {ps : List (Option Wy)} {l : List AV} (h : oStep s od w = .go w' ps l) : After os Φ s.length m w w' ps := by
  obtain ⟨h1, h2⟩ := F.od _ _ ho
  have hp : w.pc + 1 < os.length := h1.resolve_right hd
  have hs := ht_succ ho
  have up : m ≤ m + 1 := Nat.le_succ m
  have none_ : ∀ q : Wy, some q ∈ ([] : List (Option Wy)) → Wk os Φ s.length (m + 1) q ∧ q.nm = w.nm := fun _ h => by exact absurd h List.not_mem_nil
  have same : ∀ {e : Nat}, w.at_ ≤ e ∧ e ≤ s.length → dl od = 0 → Wk os Φ s.length (m + 1) { w with pc := w.pc + 1, at_ := e } := fun he hz =>
    ⟨hp, by show ht os (w.pc + 1) = _; rw [hs, hz, W.hgt]; simp, List.pairwise_cons.mpr ⟨fun b hb => Nat.le_trans ((List.pairwise_cons.mp W.asc).1 b hb) he.1, (List.pairwise_cons.mp W.asc).2⟩, he.2, Nat.le_trans W.nl up, W.nm⟩
  have here := fun hz => same (e := w.at_) ⟨Nat.le_refl _, W.le⟩ hz
  have goal : ∀ {k : Nat}, k < os.length ∧ ht os k = ht os w.pc → Wk os Φ s.length (m + 1) { w with pc := k } := fun hk => ⟨hk.1, hk.2.trans W.hgt, W.asc, W.le, Nat.le_trans W.nl up, W.nm⟩
  have pop : ∀ {b : Nat} {ks : List Nat}, w.ks = b :: ks → dl od = -1 → (ht os (w.pc + 1) = ks.length ∧ List.Pairwise (fun a b => b ≤ a) (w.at_ :: ks)) := fun hb hz => by
    have a := W.asc
    rw [hb] at a
    refine ⟨?_, List.Pairwise.sublist (.cons₂ _ (.cons _ (.refl _))) a⟩
    rw [hs, hz, W.hgt, hb]; simp; lia
  induction od using Mine.Od.casesOn with
  | one o =>
    change endS w _ = _ at h
    cases q : o.ends s w.at_ with
    | none => rw [q] at h; injection h
    | some e => rw [q] at h; (injection h with j1 j2 j3; subst j1 j2 j3); exact ⟨same (ends_le W.le q) rfl, List.suffix_refl _, none_⟩
  | ways b =>
    change waysS w _ = _ at h
    have hw := fun e he => ways_le (s := s) (b := b) (e := e) W.le he
    cases q : wyEnds s b w.at_ with
    | nil => rw [q] at h; injection h
    | cons a r =>
      rw [q] at h hw; (injection h with j1 j2 j3; subst j1 j2 j3)
      refine ⟨same (hw a (.head _)) rfl, List.suffix_refl _, fun p hp => ?_⟩
      obtain ⟨t, ht, e⟩ := List.mem_map.mp hp
      (injection e with j1; subst j1)
      exact ⟨same (hw t (.tail _ ht)) rfl, rfl⟩
  | split k => (injection h with j1 j2 j3; subst j1 j2 j3); exact ⟨here rfl, List.suffix_refl _, fun q hq => by have hq := List.mem_singleton.mp hq; (injection hq with j1; subst j1); exact ⟨goal h2, rfl⟩⟩
  | jump k => (injection h with j1 j2 j3; subst j1 j2 j3); exact ⟨goal h2, List.suffix_refl _, none_⟩
  | mark =>
    (injection h with j1 j2 j3; subst j1 j2 j3)
    refine ⟨⟨hp, ?_, List.pairwise_cons.mpr ⟨fun b hb => ?_, W.asc⟩, W.le, Nat.le_trans W.nl up, W.nm⟩, List.suffix_refl _, none_⟩
    · show ht os (w.pc + 1) = _
      rw [hs, W.hgt]; simp [dl]
    · rcases List.mem_cons.mp hb with rfl | hb
      · exact Nat.le_refl _
      · exact (List.pairwise_cons.mp W.asc).1 b hb
  | name r =>
    change kept w _ = _ at h
    unfold kept at h
    split at h
    · injection h
    · rename_i b ks hb
      (injection h with j1 j2 j3; subst j1 j2 j3)
      obtain ⟨p1, p2⟩ := pop hb rfl
      obtain ⟨key, hk⟩ := hk
      exact ⟨⟨hp, p1, p2, W.le, by simp; exact W.nl, fun x hx => by
        rcases List.mem_cons.mp hx with rfl | hx
        · exact ⟨r, _, key, rfl, hk⟩
        · exact W.nm x hx⟩, List.suffix_cons _ _, none_⟩
  | set r key =>
    change kept w _ = _ at h
    unfold kept at h
    split at h
    · injection h
    · rename_i b ks hb
      (injection h with j1 j2 j3; subst j1 j2 j3)
      obtain ⟨p1, p2⟩ := pop hb rfl
      exact ⟨⟨hp, p1, p2, W.le, Nat.le_trans W.nl up, W.nm⟩, List.suffix_refl _, none_⟩
  | gain =>
    change kept w _ = _ at h
    unfold kept at h
    split at h
    · injection h
    · rename_i b ks hb
      obtain ⟨p1, p2⟩ := pop hb rfl
      dsimp only at h
      split at h
      · (injection h with j1 j2 j3; subst j1 j2 j3)
        exact ⟨⟨hp, p1, p2, W.le, Nat.le_trans W.nl up, W.nm⟩, List.suffix_refl _, none_⟩
      · injection h
  | place r key => (injection h with j1 j2 j3; subst j1 j2 j3); exact ⟨here rfl, List.suffix_refl _, none_⟩
  | fence => (injection h with j1 j2 j3; subst j1 j2 j3); exact ⟨here rfl, List.suffix_refl _, fun q hq => by have hq := List.mem_singleton.mp hq; injection hq⟩
  | fail => injection h
  | abort => injection h
  | done => injection h
set_option tactic.hygienic false
end
end Mine
end
section
namespace Mine
open PySem
section
variable {d : Nat} {H : AH} {A : Ad} {s : List Nat} {os : List Od} {st m n : Nat} {lg : List AV} {tp hs : Stk} {Γ Φ Ψ : List (Nat × AObj)} {w : Wy} {iw ihh : Nat}
structure Iv (os : List Od) (Φ : List (Nat × AObj)) (n m : Nat) (l : List (Option Wy)) : Prop where
  wk : ∀ w, some w ∈ l → Wk os Φ n m w
  pw : l.Pairwise fun a b => ∀ w w', a = some w → b = some w' → w'.nm <:+ w.nm
theorem asc_of : ∀ {l : List Int}, l.Pairwise (· ≤ ·) → ascL l = true
  | [], _ => rfl
  | [_], _ => rfl
  | x :: y :: r, h => by
    obtain ⟨h1, h2⟩ := List.pairwise_cons.mp h
    show (decide (x ≤ y) && ascL (y :: r)) = true
    rw [decide_eq_true (h1 y (.head _)), asc_of h2]; rfl
theorem Wk.ok (F : Wf os) (W : Wk os Φ n m w) (hm : m < 1000) : Wok (htsO os) n w := by
  refine ⟨?_, ?_, W.le, ?_, by have := W.nl; lia⟩
  · unfold htsO
    rw [List.getElem?_map, List.getElem?_range W.pc]
    exact congrArg some W.hgt
  · have e : kv w = ((w.at_ :: w.ks).map fun k : Nat => (k : Int)).reverse := by unfold kv; simp
    rw [e]
    refine asc_of (List.pairwise_reverse.mpr (List.pairwise_map.mpr (W.asc.imp fun h => ?_)))
    exact Int.ofNat_le.mpr h
  · have := F.up w.pc
    rw [W.hgt] at this; lia
theorem chn_of {hts : List Int} : ∀ {τ : List Wy} {a : List AV}, (∀ w ∈ τ, Wok hts n w) → (∀ w ∈ τ, w.nm.reverse.take a.length = a) → τ.Pairwise (fun a b => a.nm <:+ b.nm) → Chn hts n a τ
  | [], _, _, _, _ => trivial
  | w :: τ, a, h, k, p => by
    obtain ⟨p1, p2⟩ := List.pairwise_cons.mp p
    exact ⟨h w (.head _), k w (.head _), chn_of (fun x hx => h x (.tail _ hx)) (fun x hx => (List.prefix_iff_eq_take.mp (p1 x hx).reverse).symm) p2⟩
theorem fil_eq : ∀ {σ : List Sn}, (fil σ).map (·.1) = (σ.map (·.1)).filterMap id
  | [] => rfl
  | (none, _) :: r => by simpa [fil] using fil_eq (σ := r)
  | (some w, p) :: r => by simpa [fil] using fil_eq (σ := r)
theorem fil_mem : ∀ {σ : List Sn} {p : Wy × Nat × Nat}, p ∈ fil σ → (some p.1, p.2) ∈ σ
  | (none, _) :: r, p, h => .tail _ (fil_mem h)
  | (some w, q) :: r, p, h => by
    rcases List.mem_cons.mp h with rfl | h
    · exact .head _
    · exact .tail _ (fil_mem h)
theorem fil_len : ∀ {σ : List Sn}, (fil σ).length ≤ σ.length
  | [] => Nat.le_refl _
  | (none, _) :: r => Nat.le_succ_of_le (fil_len (σ := r))
  | (some w, p) :: r => Nat.succ_le_succ (fil_len (σ := r))
theorem Iv.chn (F : Wf os) {l : List (Option Wy)} (I : Iv os Φ n m l) (hm : m < 1000) {σ : List Sn} (e : σ.map (·.1) = l.reverse) : Chn (htsO os) n [] ((fil σ).map (·.1)) := by
  rw [fil_eq, e]
  refine chn_of (fun w hw => ?_) (fun w _ => rfl) ?_
  · obtain ⟨y, hy, q⟩ := List.mem_filterMap.mp hw
    exact (I.wk w ((show y = some w from q) ▸ List.mem_reverse.mp hy)).ok F hm
  · refine (List.pairwise_reverse.mpr I.pw).filterMap _ ?_
    intro a b hab w hw w' hw'
    exact hab w' w hw' hw
theorem Iv.sm {l : List (Option Wy)} (F : Wf os) (I : Iv os Φ n m l) (hm : m < 1000) {y : Option Wy} (hy : y ∈ l) : Sm y := fun w e => by
  subst e
  have W := I.wk w hy
  have := (W.ok F hm).sk
  exact ⟨(W.ok F hm).sn, by lia⟩
inductive Ms_moreR (H : AH) (A : Ad) (s : List Nat) (os : List Od) (st : Nat) (m : Nat) (lg : List AV) (tp : Stk) (hs : Stk) (Φ : List (Nat × AObj)) : Prop where
  | mk (X : List (Nat × AObj)) (zc1 : Has H (X ++ Φ)) (zc2 : (∀ H' Δ, Has H' (Δ ++ (X ++ Φ)) → Ms H' A s os st m lg tp hs (Δ ++ Φ))) (zc3 : (A.ih, AObj.list (refs hs)) ∈ X) (zc4 : (∀ p ∈ hs, (p.1, wayO A.io p.2) ∈ X)) (zc5 : (∀ p ∈ tp, (p.1, wayO A.io p.2) ∈ X)) (zc6 : (A.io, AObj.list (os.map encO)) ∈ X)
theorem Ms.more (M : Ms H A s os st m lg tp hs Φ) : Ms_moreR H A s os st m lg tp hs Φ := by
  obtain ⟨k, hk, g⟩ := M.has
  have e : ∀ Ψ, F6 A s os st k lg ++ (A.ih, AObj.list (refs hs)) :: (stk A.io tp ++ (stk A.io hs ++ Ψ)) = (F6 A s os st k lg ++ (A.ih, AObj.list (refs hs)) :: (stk A.io tp ++ stk A.io hs)) ++ Ψ := fun Ψ => by simp only [List.append_assoc, List.cons_append]
  rw [e] at g
  refine ⟨_, g, fun H' Δ g' => ⟨⟨k, hk, ?_⟩, M.llg, M.lhs⟩, List.mem_append_right _ (.head _), fun p hp => List.mem_append_right _ (.tail _ (List.mem_append_right _ (List.mem_map_of_mem hp))), fun p hp => List.mem_append_right _ (.tail _ (List.mem_append_left _ (List.mem_map_of_mem hp))), .tail _ (.tail _ (.head _))⟩
  rw [e]
  exact g'.perm (List.perm_append_comm_assoc _ _ _)
theorem refs_rev : refs hs = hs.reverse.map fun p => AV.ref p.1 := by unfold refs; rw [List.map_reverse]
inductive Ms_cpR (d : Nat) (H : AH) (A : Ad) (s : List Nat) (os : List Od) (st : Nat) (m : Nat) (lg : List AV) (tp : Stk) (hs : Stk) (Φ : List (Nat × AObj)) : Prop where
  | mk (H' : AH) (σ : List Sn) (zc1 : cpD (d + 2) c45 c45t [] NN (.list A.ih 0) [none, none] H [] = .ok (σ.map sV) H') (zc2 : σ.map (·.1) = (hs.map (·.2)).reverse) (zc3 : Ms H' A s os st m lg tp hs (σ.flatMap sF ++ Φ))
theorem Ms.cp (F : Wf os) (M : Ms H A s os st m lg tp hs Φ) (hm : m < 900) {y : Option Wy} (I : Iv os Ψ n m (y :: hs.map (·.2))) : Ms_cpR d H A s os st m lg tp hs Φ := by
  obtain ⟨X, g, up, h1, h2, _⟩ := M.more
  rw [refs_rev] at h1
  have hl := M.lhs
  obtain ⟨H', σ, e1, e2, g'⟩ := cp43 (d := d) (io := A.io) (T := hs.reverse) (Γ := X ++ Φ) (fun p hp => ⟨List.mem_append_left _ (h2 p (List.mem_reverse.mp hp)), I.sm F (by lia) (.tail _ (List.mem_map_of_mem (List.mem_reverse.mp hp)))⟩) (List.mem_append_left _ h1) (by simp; lia) hs.reverse 0 NN [none, none] H [] rfl (by unfold NN; simp; lia) rfl (by simp; lia) g
  exact ⟨H', σ, e1, by rw [e2, List.map_reverse], up H' _ g'⟩
theorem TOk.sub {p : Wy × Nat × Nat} (h : TOk Γ p) (q : ∀ x ∈ Γ, x ∈ Ψ) : TOk Ψ p := ⟨q _ h.1, q _ h.2.1, fun x hx => by obtain ⟨r, t, key, e, k⟩ := h.2.2 x hx; exact ⟨r, t, key, e, q _ k⟩⟩
theorem Iv.tok {l : List (Option Wy)} (I : Iv os Φ n m l) {σ : List Sn} (e : ∀ x ∈ σ, x.1 ∈ l) (h1 : ∀ x ∈ σ, ∀ p ∈ sF x, p ∈ Γ) (h2 : ∀ x ∈ Φ, x ∈ Γ) : ∀ p ∈ fil σ, TOk Γ p := fun p hp => by
  have hq := fil_mem hp
  have W := I.wk p.1 (e _ hq)
  exact ⟨h1 _ hq _ (.head _), h1 _ hq _ (.tail _ (.head _)), fun x hx => by obtain ⟨r, t, key, e, k⟩ := W.nm x hx; exact ⟨r, t, key, e, h2 _ k⟩⟩
noncomputable abbrev r454 : List S0 := w454.drop 2
inductive Fol_preR (d : Nat) (H : AH) (A : Ad) (s : List Nat) (os : List Od) (st : Nat) (m : Nat) (lg : List AV) (hs : Stk) (Φ : List (Nat × AObj)) (w : Wy) (iw : Nat) (ihh : Nat) (x3 : Option AV) (x4 : Option AV) (x5 : Option AV) (x6 : Option AV) (x7 : Option AV) : Prop where
  | mk (H1 : AH) (L : Nat) (σ : List Sn) (zc1 : (∀ R, Es (d + 2) [some (.ref A.im), some (.ref iw), some (.ref ihh), x3, some (.ref L), x5, x6, x7] H1 r454 R → Es (d + 2) [some (.ref A.im), some (.ref iw), some (.ref ihh), x3, x4, x5, x6, x7] H w454 R)) (zc2 : σ.map (·.1) = (hs.map (·.2)).reverse) (zc3 : Ms H1 A s os st m lg [(iw, some w)] hs ((L, .list (σ.map sV)) :: (σ.flatMap sF ++ Φ)))
theorem fol_pre (F : Wf os) (M : Ms H A s os st m lg [(iw, some w)] hs Φ) (hm : m < 900) (hs3 : s.length < 1000) (I : Iv os Φ s.length m (some w :: hs.map (·.2))) (hh : (ihh, AObj.list ((htsO os).map AV.int)) ∈ Φ) {x3 x4 x5 x6 x7 : Option AV} :
    Fol_preR d H A s os st m lg hs Φ w iw ihh x3 x4 x5 x6 x7 := by
  obtain ⟨H1, σ, e1, e2, M1⟩ := M.cp (d := d) F hm I
  have M2 := M1.app (.list (σ.map sV))
  obtain ⟨X, g, up, _, _, h3, _⟩ := M2.more
  have hw := M2.gw
  obtain ⟨H3, x, ex, e3, g3⟩ := sp43 (d := d) (y := some w) (io := A.io) g hw (I.sm F (by lia) (.head _))
  have g4 := g3.app (x := .list [sV x])
  have g5 := g4.app (x := .list ((σ ++ [x]).map sV))
  have hl := M.lhs
  have hlen : σ.length = hs.length := by have := congrArg List.length e2; simpa using this
  have eσ : (σ ++ [x]).map (·.1) = (some w :: hs.map (·.2)).reverse := by rw [List.map_append, e2, List.map_cons, ex, List.reverse_cons]; rfl
  obtain ⟨H6, e6, g6⟩ := sp44 (d := d + 1) (σ := σ ++ [x]) (hts := htsO os) (ihh := ihh) hs3 (by simp; lia) g5 (.head _) (.tail _ (.tail _ (List.mem_append_right _ (List.mem_append_right _ (.tail _ (List.mem_append_right _ hh))))))
    (I.tok (fun y hy => by have := List.mem_map_of_mem (f := (·.1)) hy; rw [eσ] at this; exact List.mem_reverse.mp this)
      (fun y hy p hp => by
        refine .tail _ (.tail _ ?_)
        rcases List.mem_append.mp hy with hy | hy
        · exact List.mem_append_right _ (List.mem_append_right _ (.tail _ (List.mem_append_left _ (List.mem_flatMap.mpr ⟨y, hy, hp⟩))))
        · obtain rfl := List.mem_singleton.mp hy; exact List.mem_append_left _ hp)
      (fun p hp => .tail _ (.tail _ (List.mem_append_right _ (List.mem_append_right _ (.tail _ (List.mem_append_right _ hp)))))))
    (I.chn F (by lia) eσ) (Nat.lt_of_le_of_lt fil_len (by simp; lia))
  refine ⟨H6, H1.length, σ, fun R hR => ?_, e2, (up H6 _ g6.tl.tl).drop⟩
  have hm1 := M.gm
  have hm2 := (up H3 _ g3).gm
  have hm5 := (up _ _ g5.tl.tl).gm
  have hL := (up H3 _ g3).fr.at_ _ (List.mem_append_right _ (.head _))
  have hbg : (σ.map sV).length + [sV x].length ≤ big := by have : big = 16777216 := rfl; simp; lia
  unfold w454
  apply s_asg
  · apply e_comp
    · repeat (first | assumption | (with_reducible (first | apply e_loc | apply e_attr)) | exact rfl)
    · exact it_of M.gh
    · exact e1
  · exact rfl
  apply s_ifF
  · apply e_notT
    repeat (first | assumption | (with_reducible (first | apply e_nil | apply e_loc | apply e_cons | apply e_list | apply e_bin | apply e_fn)) | exact rfl)
    exact binL (gA hL) gE hbg
    repeat (first | assumption | (with_reducible (first | apply e_nil | apply e_loc | apply e_cons | apply e_attr | apply e_bi | apply gA)) | exact rfl)
    rw [← List.map_singleton (f := sV), ← List.map_append]; exact e6
  exact hR
end
end Mine
end
section
namespace Mine
open PySem
section
variable {d : Nat} {H : AH} {A : Ad} {s : List Nat} {os : List Od} {st m n : Nat} {lg : List AV} {tp hs : Stk} {Γ Φ Ψ : List (Nat × AObj)} {w : Wy} {iw ihh : Nat}
theorem same_ref {f : AV → AV → Bool} {r r' : Nat} {l : List AV} (h1 : H[r]? = some (.list l)) (h2 : H[r']? = some (.list l)) (h : all2 f l l = true) : sameR f H r r' = true := same_list h1 h2 h
theorem same_sn : ∀ {a b : List Sn}, Has H Γ → a.map (·.1) = b.map (·.1) → (∀ x ∈ a, ∀ p ∈ sF x, p ∈ Γ) → (∀ x ∈ b, ∀ p ∈ sF x, p ∈ Γ) → (∀ x ∈ a, ∀ w, x.1 = some w → NmOkS Γ w.nm) → all2 (same H 8) (a.map sV) (b.map sV) = true
  | [], [], _, _, _, _, _ => rfl
  | [], _ :: _, _, e, _, _, _ => by injection e
  | _ :: _, [], _, e, _, _, _ => by injection e
  | x :: a, y :: b, g, e, h1, h2, h3 => by
    have ih := same_sn (a := a) (b := b) g (List.cons_eq_cons.mp e).2 (fun x hx => h1 x (.tail _ hx)) (fun x hx => h2 x (.tail _ hx)) (fun x hx => h3 x (.tail _ hx))
    show (same H 8 (sV x) (sV y) && all2 (same H 8) (a.map sV) (b.map sV)) = true
    rw [ih, Bool.and_true]
    have e1 : x.1 = y.1 := (List.cons_eq_cons.mp e).1
    have p1 := h1 x (.head _)
    have p2 := h2 y (.head _)
    have p3 := h3 x (.head _)
    obtain ⟨x1, r1, r2⟩ := x
    obtain ⟨y1, q1, q2⟩ := y
    subst e1
    induction x1 using Option.casesOn with
    | none => rfl
    | some w =>
      show (same H 7 (vI w.pc) (vI w.pc) && (same H 7 (vI w.at_) (vI w.at_) && (sameR (same H 6) H r1 q1 && (sameR (same H 6) H r2 q2 && true)))) = true
      rw [same_int, same_int, same_ref (g.at_ _ (p1 _ (.head _))) (g.at_ _ (p2 _ (.head _))) (same_nm g fun x hx => p3 w rfl x (List.mem_reverse.mp hx)),
        same_ref (g.at_ _ (p1 _ (.tail _ (.head _)))) (g.at_ _ (p2 _ (.tail _ (.head _))))]
      · rfl
      · exact all2_refl fun x hx => by
          obtain ⟨k, _, rfl⟩ := List.mem_map.mp (List.mem_reverse.mp hx)
          exact same_int
inductive Res where
  | met (w : Wy)
  | non
  | exc
noncomputable def kindO : Od → List Nat
  | .one _ => kOne
  | .ways _ => kWays
  | .split _ => kSplit
  | .jump _ => kJump
  | .mark => kMark
  | .name _ => kName
  | .set _ _ => kSet
  | .gain => kGain
  | .place _ _ => kPlace
  | .fence => kFence
  | .fail => kFail
  | .abort => kAbort
  | .done => kDone
theorem item0 (od : Od) : itemV H (encO od) (.int 0) = some (.str (kindO od)) := by induction od using Mine.Od.casesOn <;> rfl
theorem not_done {od : Od} (h : od ≠ .done) : cmpV H .Eq (.str (kindO od)) (.str kDone) = some false := by induction od using Mine.Od.casesOn <;> first | rfl | exact absurd rfl h
theorem not_abort {od : Od} (h : od ≠ .abort) : cmpV H .Eq (.str (kindO od)) (.str kAbort) = some false := by induction od using Mine.Od.casesOn <;> first | rfl | exact absurd rfl h
theorem Iv.go {hs : List (Option Wy)} {w' : Wy} {ps : List (Option Wy)} (I : Iv os Φ n m (some w :: hs)) (T : After os Φ n m w w' ps) : Iv os Φ n (m + 1) (some w' :: (ps ++ hs)) := by
  obtain ⟨p1, p2⟩ := List.pairwise_cons.mp I.pw
  have hq : ∀ x ∈ hs, ∀ v, x = some v → v.nm <:+ w.nm := fun x hx v e => p1 x hx w v rfl e
  refine ⟨fun v hv => ?_, List.pairwise_cons.mpr ⟨fun x hx u v e1 e2 => ?_, List.pairwise_append.mpr ⟨?_, p2, fun x hx y hy u v e1 e2 => ?_⟩⟩⟩
  · rcases List.mem_cons.mp hv with e | hv
    · (injection e with j1; subst j1); exact T.wk
    · rcases List.mem_append.mp hv with hv | hv
      · exact (T.ps v hv).1
      · exact (I.wk v (.tail _ hv)).mono (Nat.le_succ m)
  · (injection e1 with j1; subst j1)
    subst e2
    rcases List.mem_append.mp hx with hx | hx
    · rw [(T.ps v hx).2]; exact T.sfx
    · exact (hq _ hx v rfl).trans T.sfx
  · refine List.Pairwise.imp_of_mem (R := fun _ _ => True) ?_ (List.pairwise_of_forall fun _ _ => trivial)
    intro x y hx hy _ u v e1 e2
    subst e1 e2
    rw [(T.ps v hy).2, (T.ps u hx).2]
    exact List.suffix_refl _
  · subst e1 e2
    rw [(T.ps u hx).2]; exact hq _ hy v rfl
theorem Iv.tl {y : Option Wy} {l : List (Option Wy)} (I : Iv os Φ n m (y :: l)) : Iv os Φ n (m + 1) l :=
  ⟨fun w hw => (I.wk w (.tail _ hw)).mono (Nat.le_succ m), (List.pairwise_cons.mp I.pw).2⟩
theorem no_stuck (F : Wf os) (W : Wk os Φ n m w) {od : Od} (ho : os[w.pc]? = some od) (h1 : od ≠ .done) (h2 : od ≠ .abort) : oStep s od w ≠ .stuck := by
  have hO := (F.od _ _ ho).2
  have hk : 1 ≤ ht os w.pc → ∃ b ks, w.ks = b :: ks := fun h => by
    rw [W.hgt] at h
    cases q : w.ks with
    | nil => rw [q] at h; simp at h
    | cons b ks => exact ⟨b, ks, rfl⟩
  induction od using Mine.Od.casesOn with
  | one o => show endS w _ ≠ _; cases o.ends s w.at_ <;> exact (by first | (intro h; injection h; done) | (intro k h; injection h; done) | exact nofun)
  | ways b => show waysS w _ ≠ _; cases wyEnds s b w.at_ <;> exact (by first | (intro h; injection h; done) | (intro k h; injection h; done) | exact nofun)
  | name r => obtain ⟨b, ks, e⟩ := hk hO; show kept w _ ≠ _; unfold kept; rw [e]; exact (by first | (intro h; injection h; done) | (intro k h; injection h; done) | exact nofun)
  | set r key => obtain ⟨b, ks, e⟩ := hk hO; show kept w _ ≠ _; unfold kept; rw [e]; exact (by first | (intro h; injection h; done) | (intro k h; injection h; done) | exact nofun)
  | gain => obtain ⟨b, ks, e⟩ := hk hO; show kept w _ ≠ _; unfold kept; rw [e]; dsimp only; split <;> exact (by first | (intro h; injection h; done) | (intro k h; injection h; done) | exact nofun)
  | done => exact absurd rfl h1
  | abort => exact absurd rfl h2
  | split k => exact (by first | (intro h; injection h; done) | (intro k h; injection h; done) | exact nofun)
  | jump k => exact (by first | (intro h; injection h; done) | (intro k h; injection h; done) | exact nofun)
  | mark => exact (by first | (intro h; injection h; done) | (intro k h; injection h; done) | exact nofun)
  | place r key => exact (by first | (intro h; injection h; done) | (intro k h; injection h; done) | exact nofun)
  | fence => exact (by first | (intro h; injection h; done) | (intro k h; injection h; done) | exact nofun)
  | fail => exact (by first | (intro h; injection h; done) | (intro k h; injection h; done) | exact nofun)
/- a turn of the loop, part by part -/
noncomputable abbrev q454 : List S0 := w454.drop 7
noncomputable abbrev z454 : List S0 := w454.drop 9
theorem fol_mid {L : Nat} {od : Od} {x6 x7 x5 : Option AV} {b : Bool} {H3 : AH} (M : Ms H A s os st m lg [(iw, some w)] hs Φ) (hst : st + 1 ≤ 90) (ho : os[w.pc]? = some od) (h1 : od ≠ .done) (h2 : od ≠ .abort) (hd : Cl (d + 6) 18 [.ref A.im, encO od, .ref iw] (H.set A.iho (hoObj A.iv A.ir A.il (st + 1))) (.bool b) H3) {R : SO}
    (hR : Es (d + 6) [some (.ref A.im), some (.ref iw), some (.ref ihh), some (.ref A.iho), some (.ref L), some (encO od), some (.bool b), x7] H3 q454 R) :
    Es (d + 6) [some (.ref A.im), some (.ref iw), some (.ref ihh), some (.ref A.iho), some (.ref L), x5, x6, x7] H r454 R := by
  have e := sp27 (d := d + 5) M.gho hst
  have M1 := M.step
  have hho := M.gho
  have hw := M1.gw
  have hm := M1.gm
  have hi : itemV (H.set A.iho (hoObj A.iv A.ir A.il (st + 1))) (.ref A.io) (vI w.pc) = some (encO od) := itemL M1.go (by rw [List.getElem?_map, ho]; rfl)
  show Es _ _ _ (w454.drop 2) R
  unfold w454
  apply s_expr
  · repeat (first | assumption | (with_reducible (first | apply e_nil | apply e_loc | apply e_meth)) | exact rfl)
  · exact rfl
  apply s_asg
  · repeat (first | assumption | (with_reducible (first | apply e_loc | apply e_attr | apply e_item)) | exact rfl)
  · exact rfl
  apply s_ifF
  · repeat (first | (with_reducible (first | apply e_val | apply e_loc | apply e_item | apply e_cmp)) | exact rfl)
    · exact item0 od
    · repeat (with_reducible apply e_val)
    · exact not_done h1
  apply s_ifF
  · repeat (first | (with_reducible (first | apply e_val | apply e_loc | apply e_item | apply e_cmp)) | exact rfl)
    · exact item0 od
    · repeat (with_reducible apply e_val)
    · exact not_abort h2
  apply s_asg
  · repeat (first | assumption | (with_reducible (first | apply e_nil | apply e_loc | apply e_cons | apply e_meth)) | exact rfl)
  · exact rfl
  exact hR
end
end Mine
end
section
namespace Mine
open PySem
section
variable {d : Nat} {H : AH} {A : Ad} {s : List Nat} {os : List Od} {st m n : Nat} {lg : List AV} {tp hs : Stk} {Γ Φ Ψ : List (Nat × AObj)} {w : Wy} {iw ihh : Nat}
noncomputable abbrev SΦ (L : Nat) (σ : List Sn) (Φ : List (Nat × AObj)) : List (Nat × AObj) := (L, AObj.list (σ.map sV)) :: (σ.flatMap sF ++ Φ)
theorem NmOkS.sub {l : List AV} (h : NmOkS Γ l) (q : ∀ x ∈ Γ, x ∈ Ψ) : NmOkS Ψ l := fun x hx => by obtain ⟨r, t, key, e, k⟩ := h x hx; exact ⟨r, t, key, e, q _ k⟩
theorem mem_sn {σ : List Sn} {x : Sn} (hx : x ∈ σ) {p : Nat × AObj} (hp : p ∈ sF x) : p ∈ σ.flatMap sF := List.mem_flatMap.mpr ⟨x, hx, hp⟩
inductive Fol_cmpR (d : Nat) (H : AH) (A : Ad) (s : List Nat) (os : List Od) (st : Nat) (m : Nat) (lg : List AV) (tp : Stk) (hs : Stk) (Φ : List (Nat × AObj)) (L : Nat) (σ : List Sn) (b : Bool) (x1 : Option AV) (x2 : Option AV) (x3 : Option AV) (x5 : Option AV) (x7 : Option AV) : Prop where
  | mk (H' : AH) (r : AV) (zc1 : (∀ R, Es (d + 2) [some (.ref A.im), x1, x2, x3, some (.ref L), x5, some (.bool b), some r] H' z454 R → Es (d + 2) [some (.ref A.im), x1, x2, x3, some (.ref L), x5, some (.bool b), x7] H q454 R)) (zc2 : Ms H' A s os st m lg tp hs (SΦ L σ Φ))
theorem fol_cmp {L : Nat} {σ : List Sn} {b : Bool} {x1 x2 x3 x5 x7 : Option AV} {y : Option Wy} (F : Wf os) (M : Ms H A s os st m lg tp hs (SΦ L σ Φ)) (hm : m < 900) (I : Iv os Φ n m (y :: hs.map (·.2)))
    (e : σ.map (·.1) = ((hs.map (·.2)).reverse).take σ.length) (e2 : b = false → σ.map (·.1) = (hs.map (·.2)).reverse) :
    Fol_cmpR d H A s os st m lg tp hs Φ L σ b x1 x2 x3 x5 x7 := by
  obtain ⟨H1, τ, c1, c2, M1⟩ := M.cp (d := d) F hm I
  have M2 := M1.app (.list (τ.map sV))
  have M3 := M2.app (.list ((τ.map sV).take σ.length))
  have hL := M1.fr.at_ _ (List.mem_append_right _ (.head _))
  have hn : ∀ x ∈ τ, ∀ w, x.1 = some w → NmOkS (τ.flatMap sF ++ SΦ L σ Φ) w.nm := fun x hx w e => by
    have h : x.1 ∈ τ.map (·.1) := List.mem_map_of_mem hx
    rw [c2, e] at h
    exact (I.wk w (.tail _ (List.mem_reverse.mp h))).nm.sub fun p hp => List.mem_append_right _ (.tail _ (List.mem_append_right _ hp))
  have hτ : ∀ x ∈ τ, ∀ p ∈ sF x, p ∈ τ.flatMap sF ++ SΦ L σ Φ := fun x hx p hp => List.mem_append_left _ (mem_sn hx hp)
  have hσ : ∀ x ∈ σ, ∀ p ∈ sF x, p ∈ τ.flatMap sF ++ SΦ L σ Φ := fun x hx p hp => List.mem_append_right _ (.tail _ (List.mem_append_left _ (mem_sn hx hp)))
  have q1 := same_sn (a := τ.take σ.length) (b := σ) M3.fr.tl.tl (by rw [List.map_take, c2, ← e]) (fun x hx => hτ x (List.mem_of_mem_take hx)) hσ (fun x hx => hn x (List.mem_of_mem_take hx))
  rw [List.map_take] at q1
  have q2 : b = false → all2 (same (H1 ++ [AObj.list (τ.map sV)] ++ [AObj.list ((τ.map sV).take σ.length)]) 8) (τ.map sV) (σ.map sV) = true := fun h => same_sn M3.fr.tl.tl (by rw [c2, e2 h]) hτ hσ hn
  refine ⟨_, .ref H1.length, fun R hR => ?_, M3.drop (Φ := _ :: _ :: τ.flatMap sF)⟩
  have hm := M.gm
  show Es _ _ _ (w454.drop 7) R
  unfold w454
  apply s_asg
  · apply e_comp
    · repeat (first | assumption | (with_reducible (first | apply e_loc | apply e_attr)) | exact rfl)
    · exact it_of M.gh
    · exact c1
  · exact rfl
  apply s_ifF
  · apply e_orF
    · repeat (first | assumption | (with_reducible (first | apply e_nil | apply e_val | apply e_loc | apply e_cons | apply e_slice | apply e_cmp | apply e_bi | apply lenL | apply gA)) | exact rfl)
      · rw [List.length_map]; exact slT gE
      · repeat (first | (with_reducible apply e_loc) | exact rfl)
      · exact c_same gE (gA (gA hL)) q1
    apply e_one
    induction b using Bool.casesOn with
    | true =>
      apply e_andF
      repeat (first | (with_reducible (first | apply e_loc | apply e_notT)) | exact rfl)
    | false =>
      apply e_andT
      · repeat (first | (with_reducible (first | apply e_loc | apply e_notF)) | exact rfl)
      apply e_one
      repeat (first | (with_reducible (first | apply e_loc | apply e_cmp)) | exact rfl)
      exact c_same (gA gE) (gA (gA hL)) (q2 rfl)
  exact hR
inductive Fol_noneR (d : Nat) (H : AH) (A : Ad) (s : List Nat) (os : List Od) (st : Nat) (m : Nat) (lg : List AV) (tp : Stk) (Φ : List (Nat × AObj)) (L : Nat) (x1 : Option AV) (x2 : Option AV) (x3 : Option AV) (x5 : Option AV) (x7 : Option AV) : Prop where
  | mk (H' : AH) (zc1 : Es (d + 2) [some (.ref A.im), x1, x2, x3, some (.ref L), x5, some (.bool false), x7] H z454 (.ok .next [some (.ref A.im), some .none, x2, x3, some (.ref L), x5, some (.bool false), x7] H')) (zc2 : Ms H' A s os st m lg tp [] Φ)
theorem fol_none {L : Nat} {σ : List Sn} {x1 x2 x3 x5 x7 : Option AV} (M : Ms H A s os st m lg tp [] (SΦ L σ Φ)) (e : σ = []) :
    Fol_noneR d H A s os st m lg tp Φ L x1 x2 x3 x5 x7 := by
  subst e
  have M1 := ((M.app (.list [])).app (.list [])).app (.list [])
  have hm := M.gm
  have hh : H[A.ih]? = some (.list []) := M.gh
  have hL : H[L]? = some (.list []) := M.fr.hd
  have e17 := sp17n (d := d + 1) hm hh
  have hb : ([] : List AV).length + ([] : List AV).length ≤ big := Nat.zero_le _
  apply Fol_noneR.mk
  rotate_left
  · exact M1.drop (Φ := [_, _, _, _])
  show Es _ _ _ (w454.drop 9) _
  unfold w454
  repeat (first | assumption | (with_reducible (first | apply e_nil | apply e_loc | apply e_meth)) | apply s_asg | exact rfl | (apply s_ifT; (· repeat (first | (with_reducible (first | apply e_loc | apply e_cmp | apply e_notF)) | exact rfl))))
  apply s_ifF
  · apply e_cmp
    · apply e_comp
      · repeat (first | assumption | (with_reducible (first | apply e_loc | apply e_attr | apply e_bin)) | exact rfl)
        exact binL (gA hh) gE hb
      · exact it_of gE
      · exact cg_n (it_n gE rfl)
    · repeat (first | (with_reducible apply e_loc) | exact rfl)
    · exact c_same gE (gA (gA (gA hL))) rfl
  repeat (first | apply s_nil | (apply s_ifF; (· repeat (exact rfl))))
noncomputable def backR (p : Option Wy) (l : Loc) (H : AH) : SO := match p with
  | none => .ok (.ret .none) l H
  | some _ => .ok .next l H
inductive Fol_someR (d : Nat) (H : AH) (A : Ad) (s : List Nat) (os : List Od) (st : Nat) (m : Nat) (lg : List AV) (hs : Stk) (Φ : List (Nat × AObj)) (L : Nat) (p : Nat × Option Wy) (x1 : Option AV) (x2 : Option AV) (x3 : Option AV) (x5 : Option AV) (x7 : Option AV) : Prop where
  | mk (H' : AH) (zc1 : Es (d + 2) [some (.ref A.im), x1, x2, x3, some (.ref L), x5, some (.bool false), x7] H z454 (backR p.2 [some (.ref A.im), some (.ref p.1), x2, x3, some (.ref L), x5, some (.bool false), x7] H')) (zc2 : Ms H' A s os st m lg [p] hs Φ)
theorem fol_some {L : Nat} {σ : List Sn} {p : Nat × Option Wy} {x1 x2 x3 x5 x7 : Option AV} {y : Option Wy} (F : Wf os) (M : Ms H A s os st m lg tp (p :: hs) (SΦ L σ Φ)) (hm : m < 900) (I : Iv os Φ n m (y :: (p :: hs).map (·.2))) (e : σ.map (·.1) = ((p :: hs).map (·.2)).reverse) :
    Fol_someR d H A s os st m lg hs Φ L p x1 x2 x3 x5 x7 := by
  have M1 := M.back
  have M3 := (M1.app (.list [.ref p.1])).app (.list ((p :: hs).reverse.map fun p => AV.ref p.1))
  obtain ⟨X, g, up, h1, h2, h3, _⟩ := M3.more
  have hl := M.lhs
  simp only [List.length_cons] at hl
  obtain ⟨H', τ, c1, c2, g'⟩ := cp43 (d := d) (io := A.io) (T := (p :: hs).reverse) (fun q hq => ⟨List.mem_append_left _ (by
      rcases List.mem_cons.mp (List.mem_reverse.mp hq) with rfl | hq
      · exact h3 _ (.head _)
      · exact h2 _ hq), I.sm F (by lia) (.tail _ (List.mem_map_of_mem (List.mem_reverse.mp hq)))⟩) (List.mem_append_right _ (.head _)) (by simp; lia) (p :: hs).reverse 0 NN [none, none] _ [] rfl (by unfold NN; simp; lia) rfl (by simp; lia) g
  have M4 := up H' _ g'
  have M5 := M4.app (.list (τ.map sV))
  have hL := M4.fr.at_ _ (List.mem_append_right _ (.tail _ (.tail _ (.head _))))
  have hp : H'[p.1]? = some (wayO A.io p.2) := by
    obtain ⟨k, _, g⟩ := M4.has
    exact g.at_ (p.1, wayO A.io p.2) (List.mem_append_right _ (.tail _ (.head _)))
  have sub : ∀ x ∈ Φ, x ∈ τ.flatMap sF ++ (((H.set A.ih (.list (refs hs)) ++ [AObj.list [.ref p.1]]).length, AObj.list ((p :: hs).reverse.map fun p => AV.ref p.1)) :: ((H.set A.ih (.list (refs hs))).length, AObj.list [.ref p.1]) :: SΦ L σ Φ) := fun x hx => List.mem_append_right _ (.tail _ (.tail _ (.tail _ (List.mem_append_right _ hx))))
  have e2 : τ.map (·.1) = ((p :: hs).map (·.2)).reverse := by
    have c2' : τ.map (·.1) = ((p :: hs).reverse).map (·.2) := c2
    rw [c2', List.map_reverse]
  have q := same_sn (a := τ) (b := σ) M5.fr.tl (e2.trans e.symm) (fun x hx p hp => List.mem_append_left _ (mem_sn hx hp)) (fun x hx p hp => List.mem_append_right _ (.tail _ (.tail _ (.tail _ (List.mem_append_left _ (mem_sn hx hp)))))) (fun x hx w e => by
    have h : x.1 ∈ τ.map (·.1) := List.mem_map_of_mem hx
    rw [e2, e] at h
    exact (I.wk w (.tail _ (List.mem_reverse.mp h))).nm.sub sub)
  have hm' := M.gm
  have e17 := sp17c (d := d + 1) hm' (refs_cons ▸ M.gh)
  have hb : (refs hs).length + [AV.ref p.1].length ≤ big := by have : big = 16777216 := rfl; rw [refs_len]; simp; lia
  have hm1 := M1.gm
  have hh1 := M1.gh
  have er : refs hs ++ [AV.ref p.1] = (p :: hs).reverse.map fun p => AV.ref p.1 := by rw [← refs_cons, refs_rev]
  have c1' : cpD (d + 2) c45 c45t [] NN (.list (H.set A.ih (.list (refs hs)) ++ [AObj.list [.ref p.1]]).length 0) [none, none] (H.set A.ih (.list (refs hs)) ++ [AObj.list [.ref p.1]] ++ [.list (refs hs ++ [AV.ref p.1])]) [] = .ok (τ.map sV) H' := by rw [er]; exact c1
  refine ⟨H' ++ [.list (τ.map sV)], ?_, ?_⟩
  · show Es _ _ _ (w454.drop 9) _
    unfold w454
    repeat (first | assumption | (with_reducible (first | apply e_nil | apply e_loc | apply e_meth)) | apply s_asg | exact rfl | (apply s_ifT; (· repeat (first | (with_reducible (first | apply e_loc | apply e_cmp | apply e_notF)) | exact rfl))))
    apply s_ifF
    · apply e_cmp
      · apply e_comp
        · repeat (first | assumption | (with_reducible (first | apply e_loc | apply e_attr | apply e_bin)) | exact rfl)
          exact binL (gA hh1) gE hb
        · exact it_of gE
        · exact c1'
      · repeat (first | (with_reducible apply e_loc) | exact rfl)
      · exact c_same gE (gA hL) q
    have hp' : (H' ++ [AObj.list (τ.map sV)])[p.1]? = some (wayO A.io p.2) := gA hp
    cases hq : p.2 with
    | none =>
      rw [hq] at hp'
      apply s_ifT
      · apply e_andT
        · repeat (first | (with_reducible (first | apply e_val | apply e_loc | apply e_cmp)) | exact rfl)
        apply e_one
        apply e_cmp
        · apply e_attr
          · repeat (first | (with_reducible apply e_loc) | exact rfl)
          · exact hp'
          · exact rfl
        · repeat (with_reducible apply e_val)
        · exact rfl
      exact s_ret e_val
    | some v =>
      rw [hq] at hp'
      apply s_ifF
      · apply e_andT
        · repeat (first | (with_reducible (first | apply e_val | apply e_loc | apply e_cmp)) | exact rfl)
        apply e_one
        apply e_cmp
        · apply e_attr
          · repeat (first | (with_reducible apply e_loc) | exact rfl)
          · exact hp'
          · exact rfl
        · repeat (with_reducible apply e_val)
        · exact rfl
      exact s_nil
  · have h := M5.drop (Φ := [_])
    have h := Ms.drop (Φ := τ.flatMap sF) h
    exact Ms.drop (Φ := _ :: _ :: _ :: σ.flatMap sF) h
end
end Mine
end
section
namespace Mine
open PySem
inductive Rm (s : List Nat) (os : List Od) : Nat → Wy → List (Option Wy) → List AV → Nat → Res → Nat → List AV → Prop where
  | exc {w : Wy} {hist : List (Option Wy)} {lg : List AV} {st : Nat} : Rm s os 0 w hist lg st .exc (st + 1) lg
  | met {n : Nat} {w : Wy} {hist : List (Option Wy)} {lg : List AV} {st : Nat} (h : os[w.pc]? = some .done) : Rm s os (n + 1) w hist lg st (.met w) (st + 1) lg
  | over {n : Nat} {w : Wy} {hist : List (Option Wy)} {lg : List AV} {st : Nat} (h : os[w.pc]? = some .abort) : Rm s os (n + 1) w hist lg st .non (st + 1) lg
  | go {n : Nat} {w w' : Wy} {hist ps : List (Option Wy)} {lg l' lf : List AV} {st sf : Nat} {od : Od} {r : Res} (h : os[w.pc]? = some od) (h1 : od ≠ .done) (h2 : od ≠ .abort) (e : oStep s od w = .go w' ps l') (k : Rm s os n w' (ps ++ hist) (lg ++ l') (st + 1) r sf lf) : Rm s os (n + 1) w hist lg st r sf lf
  | last {n : Nat} {w : Wy} {lg : List AV} {st : Nat} {od : Od} (h : os[w.pc]? = some od) (h1 : od ≠ .done) (h2 : od ≠ .abort) (e : oStep s od w = .fail) : Rm s os (n + 1) w [] lg st .non (st + 1) lg
  | fence {n : Nat} {w : Wy} {hist : List (Option Wy)} {lg : List AV} {st : Nat} {od : Od} (h : os[w.pc]? = some od) (h1 : od ≠ .done) (h2 : od ≠ .abort) (e : oStep s od w = .fail) : Rm s os (n + 1) w (none :: hist) lg st .non (st + 1) lg
  | back {n : Nat} {w w' : Wy} {hist : List (Option Wy)} {lg lf : List AV} {st sf : Nat} {od : Od} {r : Res} (h : os[w.pc]? = some od) (h1 : od ≠ .done) (h2 : od ≠ .abort) (e : oStep s od w = .fail) (k : Rm s os n w' hist lg (st + 1) r sf lf) : Rm s os (n + 1) w (some w' :: hist) lg st r sf lf
section
variable {d : Nat} {H : AH} {A : Ad} {s : List Nat} {os : List Od} {st m n : Nat} {lg : List AV} {tp hs : Stk} {Γ Φ Ψ : List (Nat × AObj)} {w : Wy} {iw ihh : Nat}
noncomputable def wfin (f : AV) : SO → Out AV
  | .ok .next _ H => .ok f H
  | .ok (.ret v) _ H => .ok v H
  | .exc _ H => .exc H
  | _ => .bad
noncomputable abbrev Hf (A : Ad) (os : List Od) (st : Nat) (lg : List AV) (Φ : List (Nat × AObj)) : List (Nat × AObj) := (A.iho, hoObj A.iv A.ir A.il st) :: (A.io, .list (os.map encO)) :: (A.il, .list lg) :: Φ
theorem Ms.fin (M : Ms H A s os st m lg tp hs Φ) : Has H (Hf A os st lg Φ) := by
  obtain ⟨k, _, g⟩ := M.has
  refine g.sub (.cons _ (.cons₂ _ (.cons₂ _ (.cons _ (.cons _ (.cons₂ _ ?_))))))
  exact (List.sublist_append_right _ _).trans ((List.sublist_append_right _ _).trans (List.sublist_cons_self _ _))
noncomputable def FolIs (A : Ad) (os : List Od) (Φ : List (Nat × AObj)) (st : Nat) (lg : List AV) (out : Out AV) : Res → Prop
  | .met w => ∃ H' rr, out = .ok (.tup [.int 0, vI w.at_, .ref rr]) H' ∧ Has H' ((rr, .list w.nm.reverse) :: Hf A os st lg Φ) ∧ NmOkS Φ w.nm
  | .non => ∃ H', out = .ok .none H' ∧ Has H' (Hf A os st lg Φ)
  | .exc => ∃ H', out = .exc H' ∧ Has H' (Hf A os st lg Φ)
theorem Iv.mono {l : List (Option Wy)} (I : Iv os Φ n m l) : Iv os Φ n (m + 1) l := ⟨fun w hw => (I.wk w hw).mono (Nat.le_succ m), I.pw⟩
theorem OdOk.sub {od : Od} (h : OdOk Φ od) (q : ∀ x ∈ Φ, x ∈ Ψ) : OdOk Ψ od := by
  induction od using Mine.Od.casesOn with
  | name r => obtain ⟨key, h⟩ := h; exact ⟨key, q _ h⟩
  | set r key => exact q _ h
  | place r key => exact q _ h
  | _ => trivial
inductive FolR (d : Nat) (A : Ad) (s : List Nat) (os : List Od) (Φ : List (Nat × AObj)) (ihh : Nat) (n : Nat) (k : Nat) (w : Wy) (hs : Stk) (H : AH) (iw : Nat) (st : Nat) (lg : List AV) (x4 : Option AV) (x5 : Option AV) (x6 : Option AV) (x7 : Option AV) : Prop where
  | mk (r : Res) (st' : Nat) (lg' : List AV) (zc1 : Rm s os n w (hs.map (·.2)) lg st r st' lg') (zc2 : FolIs A os Φ st' lg' (wfin .none (whD (d + 6) w454c w454 k [some (.ref A.im), some (.ref iw), some (.ref ihh), some (.ref A.iho), x4, x5, x6, x7] H)) r)
theorem fol (F : Wf os) (hos : ∀ od ∈ os, OdOk Φ od) (hc : ∀ c ∈ s, c ≠ 40 ∧ c ≠ 41) (hs3 : s.length ≤ 8) (hh : (ihh, AObj.list ((htsO os).map AV.int)) ∈ Φ) : ∀ (n k : Nat) (w : Wy) (hs : Stk) (H : AH) (iw st : Nat) (lg : List AV) (x4 x5 x6 x7 : Option AV), st + n = 90 → n + 2 ≤ k → Ms H A s os st st lg [(iw, some w)] hs Φ → Iv os Φ s.length st (some w :: hs.map (·.2)) →
    FolR d A s os Φ ihh n k w hs H iw st lg x4 x5 x6 x7
  | 0, k + 1, w, hs, H, iw, st, lg, x4, x5, x6, x7, hst, hk, M, I => by
    obtain ⟨H1, L, σ, pre, e2, M1⟩ := fol_pre (d := d + 4) (x3 := some (.ref A.iho)) (x4 := x4) (x5 := x5) (x6 := x6) (x7 := x7) F M (by lia) (by lia) I hh
    have hho := M1.gho
    have e := sp27x (d := d + 5) hho (by lia)
    refine ⟨.exc, _, _, .exc, _, ?_, (M1.step.drop (Φ := (L, _) :: σ.flatMap sF)).fin⟩
    rw [wh_x (H2 := H1.set A.iho (hoObj A.iv A.ir A.il (st + 1)))]
    · rfl
    · unfold w454c; repeat (first | (with_reducible (first | apply e_val | apply e_loc | apply e_cmp)) | exact rfl)
    · apply pre
      apply s_exprX
      apply e_methX
      · repeat (first | (with_reducible apply e_loc) | exact rfl)
      · repeat (assumption)
      · exact rfl
      · repeat (with_reducible apply e_nil)
      · exact e
  | n + 1, k + 1, w, hs, H, iw, st, lg, x4, x5, x6, x7, hst, hk, M, I => by
    obtain ⟨H1, L, σ, pre, e2, M1⟩ := fol_pre (d := d + 4) (x3 := some (.ref A.iho)) (x4 := x4) (x5 := x5) (x6 := x6) (x7 := x7) F M (by lia) (by lia) I hh
    have W := I.wk w (.head _)
    have hcond : Ev (d + 6) [some (.ref A.im), some (.ref iw), some (.ref ihh), some (.ref A.iho), x4, x5, x6, x7] H w454c (.bool true) H := by unfold w454c; repeat (first | (with_reducible (first | apply e_val | apply e_loc | apply e_cmp)) | exact rfl)
    have hpc := W.pc
    obtain ⟨od, ho⟩ : ∃ od, os[w.pc]? = some od := ⟨_, List.getElem?_eq_getElem hpc⟩
    have hin : OdOk Φ od := hos _ (List.mem_of_getElem? ho)
    have M2 := M1.step
    have MF := M2.drop (Φ := (L, _) :: σ.flatMap sF)
    have e27 := sp27 (d := d + 5) M1.gho (by lia)
    have hho := M1.gho
    have hw := M2.gw
    have hi : itemV (H1.set A.iho (hoObj A.iv A.ir A.il (st + 1))) (.ref A.io) (vI w.pc) = some (encO od) := itemL M2.go (by rw [List.getElem?_map, ho]; rfl)
    by_cases h1 : od = .done
    · subst h1
      have hn := W.nl
      have e42 := sp42 (d := d + 5) (H := H1.set A.iho (hoObj A.iv A.ir A.il (st + 1))) (l := w.nm) (by lia)
      refine ⟨_, _, _, .met ho, _, (H1.set A.iho (hoObj A.iv A.ir A.il (st + 1))).length, ?_, (MF.app (.list w.nm.reverse)).fin.perm ?_, W.nm⟩
      · rw [wh_r hcond (pre _ ?_)]
        · exact rfl
        show Es _ _ _ (w454.drop 2) _
        unfold w454
        apply s_expr
        · repeat (first | assumption | (with_reducible (first | apply e_nil | apply e_loc | apply e_meth)) | exact rfl)
        · exact rfl
        apply s_asg
        · repeat (first | assumption | (with_reducible (first | apply e_loc | apply e_attr | apply e_item)) | exact rfl)
        · exact rfl
        repeat (first | assumption | (with_reducible (first | apply e_nil | apply e_val | apply e_loc | apply e_cons | apply e_tup | apply e_attr | apply e_fn)) | apply s_ret | exact rfl | (apply s_ifT; (· repeat (first | (with_reducible (first | apply e_val | apply e_loc | apply e_item | apply e_cmp)) | exact rfl))))
      · exact List.perm_middle (l₁ := [_, _, _])
    by_cases h2 : od = .abort
    · subst h2
      refine ⟨_, _, _, .over ho, _, ?_, MF.fin⟩
      rw [wh_r hcond (pre _ ?_)]
      · exact rfl
      show Es _ _ _ (w454.drop 2) _
      unfold w454
      apply s_expr
      · repeat (first | assumption | (with_reducible (first | apply e_nil | apply e_loc | apply e_meth)) | exact rfl)
      · exact rfl
      apply s_asg
      · repeat (first | assumption | (with_reducible (first | apply e_loc | apply e_attr | apply e_item)) | exact rfl)
      · exact rfl
      repeat (first | (with_reducible apply e_val) | apply s_ret | (apply s_ifF; (· repeat (first | (with_reducible (first | apply e_val | apply e_loc | apply e_item | apply e_cmp)) | exact rfl))) | (apply s_ifT; (· repeat (first | (with_reducible (first | apply e_val | apply e_loc | apply e_item | apply e_cmp)) | exact rfl))))
    have hlen : σ.length = hs.length := by have := congrArg List.length e2; simpa using this
    have D := done_is (d := d) hc hs3 (by lia) W.le M2 od (hin.sub fun x hx => .tail _ (List.mem_append_right _ hx))
    cases q : oStep s od w with
    | stuck => exact absurd q (no_stuck F W ho h1 h2)
    | go w' ps l' =>
      rw [q] at D
      obtain ⟨H3, ns, d1, d2, M3⟩ := D
      have I3 := I.go (step_ok F W ho h1 hin q)
      have en : (ns ++ hs).map (·.2) = ps ++ hs.map (·.2) := by rw [List.map_append, d2]
      obtain ⟨H4, r, c1, M4⟩ := fol_cmp (d := d + 4) (x1 := some (.ref iw)) (x2 := some (.ref ihh)) (x3 := some (.ref A.iho)) (x5 := some (encO od)) (x7 := x7) (b := true) F M3 (by lia) (en ▸ I3)
        (by rw [e2, List.map_append, List.reverse_append, hlen]; exact (List.take_left' (by simp)).symm) (fun h => by injection h)
      have M5 := M4.drop (Φ := (L, _) :: σ.flatMap sF)
      obtain ⟨rr, st', lg', r1, r2⟩ := fol F hos hc hs3 hh n k w' (ns ++ hs) H4 iw (st + 1) (lg ++ l') (some (.ref L)) (some (encO od)) (some (.bool true)) (some r) (by lia) (by lia) M5 (en ▸ I3)
      refine ⟨rr, st', lg', .go ho h1 h2 q (en ▸ r1), ?_⟩
      rw [wh_t hcond (pre _ (fol_mid M1 (by lia) ho h1 h2 d1 (c1 _ ?_))) rfl]
      · exact r2
      show Es _ _ _ (w454.drop 9) _
      unfold w454
      repeat (first | apply s_nil | (apply s_ifF; (· repeat (first | (with_reducible (first | apply e_loc | apply e_notT)) | exact rfl))))
    | fail =>
      rw [q] at D
      obtain ⟨H3, w3, d1, M3⟩ := D
      obtain ⟨H4, r, c1, M4⟩ := fol_cmp (d := d + 4) (x1 := some (.ref iw)) (x2 := some (.ref ihh)) (x3 := some (.ref A.iho)) (x5 := some (encO od)) (x7 := x7) (b := false) F M3 (by lia) I.mono
        (by rw [e2, hlen]; exact (List.take_of_length_le (by simp)).symm) (fun _ => e2)
      induction hs using List.casesOn with
      | nil =>
        have hσ : σ = [] := List.eq_nil_of_length_eq_zero hlen
        obtain ⟨H5, f1, M5⟩ := fol_none (d := d + 4) (x1 := some (.ref iw)) (x2 := some (.ref ihh)) (x3 := some (.ref A.iho)) (x5 := some (encO od)) (x7 := some r) M4 hσ
        refine ⟨_, _, _, .last ho h1 h2 q, _, ?_, M5.fin⟩
        obtain ⟨k, rfl⟩ : ∃ j, k = j + 1 := ⟨k - 1, by lia⟩
        rw [wh_t hcond (pre _ (fol_mid M1 (by lia) ho h1 h2 d1 (c1 _ f1))) (wh_f ?_)]
        · exact rfl
        · unfold w454c; repeat (first | (with_reducible (first | apply e_val | apply e_loc | apply e_cmp)) | exact rfl)
      | cons p hs =>
        obtain ⟨H5, f1, M5⟩ := fol_some (d := d + 4) (x1 := some (.ref iw)) (x2 := some (.ref ihh)) (x3 := some (.ref A.iho)) (x5 := some (encO od)) (x7 := some r) F M4 (by lia) I.mono e2
        obtain ⟨ip, y⟩ := p
        have hb := fun R h => pre R (fol_mid M1 (by lia) ho h1 h2 d1 (c1 R h))
        induction y using Option.casesOn with
        | none =>
          refine ⟨_, _, _, .fence ho h1 h2 q, _, ?_, M5.fin⟩
          rw [wh_r hcond (hb _ f1)]
          exact rfl
        | some w' =>
          obtain ⟨rr, st', lg', r1, r2⟩ := fol F hos hc hs3 hh n k w' hs H5 ip (st + 1) lg (some (.ref L)) (some (encO od)) (some (.bool false)) (some r) (by lia) (by lia) M5 I.tl
          refine ⟨rr, st', lg', .back ho h1 h2 q r1, ?_⟩
          rw [wh_t hcond (hb _ f1) rfl]
          exact r2
end
end Mine
end
section
namespace Mine
open PySem
section
variable {d : Nat} {H : AH} {A : Ad} {s : List Nat} {os : List Od} {st m n : Nat} {lg : List AV} {tp hs : Stk} {Γ Φ Ψ : List (Nat × AObj)} {w : Wy} {iw ihh : Nat}
noncomputable def RunIs (A : Ad) (os : List Od) (Φ : List (Nat × AObj)) (st : Nat) (lg : List AV) (out : Out AV) : Res → Prop
  | .met w => ∃ H' iw', out = .ok (.tup [.int 0, .ref iw']) H' ∧ H'[iw']? = some (wyObj A.io w) ∧ w.nm.length ≤ 90 ∧ Has H' (Hf A os st lg Φ) ∧ NmOkS Φ w.nm
  | .non => ∃ H' v, out = .ok (.tup [.int v, .none]) H' ∧ (v = 1 ∨ v = 2) ∧ Has H' (Hf A os st lg Φ)
  | .exc => ∃ H', out = .exc H' ∧ Has H' (Hf A os st lg Φ)
theorem run_mid {x1 x2 x4 : Option AV} {od : Od} {b : Bool} {H3 : AH} (M : Ms H A s os st m lg [(iw, some w)] hs Φ) (hst : st + 1 ≤ 90) (ho : os[w.pc]? = some od) (h1 : od ≠ .done) (h2 : od ≠ .abort) (hd : Cl (d + 6) 18 [.ref A.im, encO od, .ref iw] (H.set A.iho (hoObj A.iv A.ir A.il (st + 1))) (.bool b) H3) {R : SO}
    (hR : Es (d + 6) [some (.ref A.im), x1, x2, some (.ref iw), some (encO od)] H3 (if b then [] else [.asg (.name 3) (.meth (.loc 0) 35 []), .ite (.bop .And [.cmp (.loc 3) [.IsNot] [.val (.none)], .cmp (.attr (.loc 3) 9) [.Is] [.val (.none)]]) [.ret (.tup [.val (.int 2), .val (.none)])] []]) R) :
    Es (d + 6) [some (.ref A.im), x1, x2, some (.ref iw), x4] H w16 R := by
  have e := sp27 (d := d + 5) M.gho hst
  have M1 := M.step
  have hho := M.gho
  have hm0 := M.gm
  have hw := M1.gw
  have hm := M1.gm
  have hi : itemV (H.set A.iho (hoObj A.iv A.ir A.il (st + 1))) (.ref A.io) (vI w.pc) = some (encO od) := itemL M1.go (by rw [List.getElem?_map, ho]; rfl)
  unfold w16
  apply s_expr
  · repeat (first | assumption | (with_reducible (first | apply e_nil | apply e_loc | apply e_attr | apply e_meth)) | exact rfl)
  · exact rfl
  apply s_asg
  · repeat (first | assumption | (with_reducible (first | apply e_loc | apply e_attr | apply e_item)) | exact rfl)
  · exact rfl
  apply s_ifF
  · apply e_andF
    repeat (first | (with_reducible (first | apply e_val | apply e_loc | apply e_item | apply e_cmp)) | exact rfl)
    · exact item0 od
    · repeat (with_reducible apply e_val)
    · exact not_done h1
  apply s_ifF
  · repeat (first | (with_reducible (first | apply e_val | apply e_loc | apply e_item | apply e_cmp)) | exact rfl)
    · exact item0 od
    · repeat (with_reducible apply e_val)
    · exact not_abort h2
  induction b using Bool.casesOn with
  | true =>
    apply s_ifF
    · repeat (first | assumption | (with_reducible (first | apply e_nil | apply e_loc | apply e_cons | apply e_notT | apply e_meth)) | exact rfl)
    exact hR
  | false =>
    apply s_ifT
    · repeat (first | assumption | (with_reducible (first | apply e_nil | apply e_loc | apply e_cons | apply e_notF | apply e_meth)) | exact rfl)
    exact hR
theorem run_loop (F : Wf os) (hos : ∀ od ∈ os, OdOk Φ od) (hc : ∀ c ∈ s, c ≠ 40 ∧ c ≠ 41) (hs3 : s.length ≤ 8) {x1 x2 : Option AV} {hist : List (Option Wy)} {r : Res} {sf : Nat} {lf : List AV} (h : Rm s os n w hist lg st r sf lf) : ∀ (k : Nat) (hs : Stk) (H : AH) (iw : Nat) (x4 : Option AV), hist = hs.map (·.2) → st + n = 90 → n + 2 ≤ k → Ms H A s os st st lg [(iw, some w)] hs Φ → Iv os Φ s.length st (some w :: hist) →
    RunIs A os Φ sf lf (wfin (.tup [.int 1, .none]) (whD (d + 6) w16c w16 k [some (.ref A.im), x1, x2, some (.ref iw), x4] H)) r := by
  have hcond : ∀ {iw : Nat} {x4 : Option AV} {H : AH}, Ev (d + 6) [some (.ref A.im), x1, x2, some (.ref iw), x4] H w16c (.bool true) H := by intro iw x4 H; unfold w16c; repeat (first | (with_reducible (first | apply e_val | apply e_loc | apply e_cmp)) | exact rfl)
  have dn : ∀ {w : Wy} {lg : List AV} {st n : Nat} {hs : Stk} {H : AH} {iw : Nat} {od : Od}, st + (n + 1) = 90 → os[w.pc]? = some od → Ms H A s os st st lg [(iw, some w)] hs Φ → Iv os Φ s.length st (some w :: hs.map (·.2)) → DoneIs (d + 6) (H.set A.iho (hoObj A.iv A.ir A.il (st + 1))) A s os (st + 1) st lg iw hs Φ 18 [.ref A.im, encO od, .ref iw] (oStep s od w) :=
    fun hst ho M I => done_is hc hs3 (by lia) (I.wk _ (.head _)).le M.step _ (hos _ (List.mem_of_getElem? ho))
  induction h with
  | exc =>
    intro k hs H iw x4 eh hst hk M I
    obtain ⟨k, rfl⟩ : ∃ j, k = j + 1 := ⟨k - 1, by lia⟩
    have hm := M.gm
    have hho := M.gho
    have e := sp27x (d := d + 5) M.gho (by lia)
    refine ⟨H.set A.iho (hoObj A.iv A.ir A.il (_ + 1)), ?_, M.step.fin⟩
    rw [wh_x hcond]
    · exact rfl
    unfold w16
    apply s_exprX
    apply e_methX
    · repeat (first | assumption | (with_reducible (first | apply e_loc | apply e_attr)) | exact rfl)
    · repeat (assumption)
    · exact rfl
    · repeat (with_reducible apply e_nil)
    · exact e
  | met ho =>
    intro k hs H iw x4 eh hst hk M I
    obtain ⟨k, rfl⟩ : ∃ j, k = j + 1 := ⟨k - 1, by lia⟩
    have hm := M.gm
    have hho := M.gho
    have e := sp27 (d := d + 5) M.gho (by lia)
    have M1 := M.step
    have hw := M1.gw
    have W := I.wk _ (.head _)
    have hi := itemL M1.go (by rw [List.getElem?_map, ho]; rfl)
    refine ⟨_, iw, ?_, hw, Nat.le_trans W.nl (by lia), M1.fin, W.nm⟩
    rw [wh_r hcond]
    · exact rfl
    unfold w16
    apply s_expr
    · repeat (first | assumption | (with_reducible (first | apply e_nil | apply e_loc | apply e_attr | apply e_meth)) | exact rfl)
    · exact rfl
    apply s_asg
    · repeat (first | assumption | (with_reducible (first | apply e_loc | apply e_attr | apply e_item)) | exact rfl)
    · exact rfl
    repeat (first | (with_reducible (first | apply e_nil | apply e_val | apply e_loc | apply e_cons | apply e_tup)) | apply s_ret | exact rfl | (apply s_ifT; (· repeat (first | assumption | (with_reducible (first | apply e_val | apply e_loc | apply e_attr | apply e_cmp | apply e_one)) | exact rfl | (apply e_andT; (· repeat (first | (with_reducible (first | apply e_val | apply e_loc | apply e_item | apply e_cmp)) | exact rfl)))))))
  | over ho =>
    intro k hs H iw x4 eh hst hk M I
    obtain ⟨k, rfl⟩ : ∃ j, k = j + 1 := ⟨k - 1, by lia⟩
    have hm := M.gm
    have hho := M.gho
    have e := sp27 (d := d + 5) M.gho (by lia)
    have M1 := M.step
    have hw := M1.gw
    have hi := itemL M1.go (by rw [List.getElem?_map, ho]; rfl)
    refine ⟨_, 2, ?_, .inr rfl, M1.fin⟩
    rw [wh_r hcond]
    · exact rfl
    unfold w16
    apply s_expr
    · repeat (first | assumption | (with_reducible (first | apply e_nil | apply e_loc | apply e_attr | apply e_meth)) | exact rfl)
    · exact rfl
    apply s_asg
    · repeat (first | assumption | (with_reducible (first | apply e_loc | apply e_attr | apply e_item)) | exact rfl)
    · exact rfl
    repeat (first | (with_reducible (first | apply e_nil | apply e_val | apply e_cons | apply e_tup)) | apply s_ret | (apply s_ifF; (· repeat (first | (with_reducible (first | apply e_val | apply e_loc | apply e_item | apply e_cmp)) | exact rfl))) | (apply s_ifT; (· repeat (first | (with_reducible (first | apply e_val | apply e_loc | apply e_item | apply e_cmp)) | exact rfl))))
  | go ho h1 h2 e rm ih =>
    intro k hs H iw x4 eh hst hk M I
    subst eh
    obtain ⟨k, rfl⟩ : ∃ j, k = j + 1 := ⟨k - 1, by lia⟩
    have D := dn hst ho M I
    rw [e] at D
    obtain ⟨H3, ns, d1, d2, M3⟩ := D
    have I3 := I.go (step_ok F (I.wk _ (.head _)) ho h1 (hos _ (List.mem_of_getElem? ho)) e)
    rw [wh_t hcond (run_mid M (by lia) ho h1 h2 d1 s_nil) rfl]
    exact ih k (ns ++ hs) H3 iw _ (by rw [List.map_append, d2]) (by lia) (by lia) M3 I3
  | last ho h1 h2 e =>
    intro k hs H iw x4 eh hst hk M I
    have : hs = [] := List.map_eq_nil_iff.mp eh.symm
    subst this
    obtain ⟨k, rfl⟩ : ∃ j, k = j + 1 + 1 := ⟨k - 2, by lia⟩
    have D := dn hst ho M I
    rw [e] at D
    obtain ⟨H3, w3, d1, M3⟩ := D
    have hm := M3.gm
    have hh : H3[A.ih]? = some (.list []) := M3.gh
    have e17 := sp17n (d := d + 5) hm hh
    refine ⟨_, 1, ?_, .inl rfl, M3.fin⟩
    have hb := run_mid (x1 := x1) (x2 := x2) (x4 := x4) M (by lia) ho h1 h2 d1 (R := .ok .next [some (.ref A.im), x1, x2, some .none, _] H3) (by
      show Es _ _ _ [_, _] _
      repeat (first | assumption | (with_reducible (first | apply e_nil | apply e_loc | apply e_meth)) | apply s_asg | apply s_nil | exact rfl | (apply s_ifF; (· repeat (exact rfl)))))
    rw [wh_t hcond hb (wh_f (H1 := H3) (by unfold w16c; repeat (first | (with_reducible (first | apply e_val | apply e_loc | apply e_cmp)) | exact rfl)))]
    exact rfl
  | fence ho h1 h2 e =>
    intro k hs H iw x4 eh hst hk M I
    obtain ⟨p, hs, rfl, e1, rfl⟩ := List.map_eq_cons_iff.mp eh.symm
    obtain ⟨k, rfl⟩ : ∃ j, k = j + 1 := ⟨k - 1, by lia⟩
    have D := dn hst ho M (by rw [List.map_cons, e1]; exact I)
    rw [e] at D
    obtain ⟨H3, w3, d1, M3⟩ := D
    have hm := M3.gm
    have e17 := sp17c (d := d + 5) hm (refs_cons ▸ M3.gh)
    have M4 := M3.back
    have hp : (H3.set A.ih (.list (refs hs)))[p.1]? = some (wayO A.io none) := by
      obtain ⟨k, _, g⟩ := M4.has
      exact g.at_ (p.1, wayO A.io none) (List.mem_append_right _ (.tail _ (e1 ▸ .head _)))
    refine ⟨_, 2, ?_, .inr rfl, M4.fin⟩
    rw [wh_r hcond (run_mid M (by lia) ho h1 h2 d1 ?_)]
    · exact rfl
    show Es _ _ _ [_, _] _
    apply s_asg
    · repeat (first | assumption | (with_reducible (first | apply e_nil | apply e_loc | apply e_meth)) | exact rfl)
    · exact rfl
    apply s_ifT
    · apply e_andT
      · repeat (first | (with_reducible (first | apply e_val | apply e_loc | apply e_cmp)) | exact rfl)
      apply e_one
      apply e_cmp
      · apply e_attr
        · repeat (first | (with_reducible apply e_loc) | exact rfl)
        · exact hp
        · exact rfl
      · repeat (with_reducible apply e_val)
      · exact rfl
    repeat (first | (with_reducible (first | apply e_nil | apply e_val | apply e_cons | apply e_tup)) | apply s_ret)
  | back ho h1 h2 e rm ih =>
    intro k hs H iw x4 eh hst hk M I
    obtain ⟨p, hs, rfl, e1, rfl⟩ := List.map_eq_cons_iff.mp eh.symm
    obtain ⟨ip, y⟩ := p
    subst e1
    obtain ⟨k, rfl⟩ : ∃ j, k = j + 1 := ⟨k - 1, by lia⟩
    have D := dn hst ho M I
    rw [e] at D
    obtain ⟨H3, w3, d1, M3⟩ := D
    have hm := M3.gm
    have e17 := sp17c (d := d + 5) hm (refs_cons ▸ M3.gh)
    have M4 := M3.back
    have hw := M4.gw
    have hb := run_mid (x1 := x1) (x2 := x2) (x4 := x4) M (by lia) ho h1 h2 d1 (R := .ok .next [some (.ref A.im), x1, x2, some (.ref ip), _] (H3.set A.ih (.list (refs hs)))) (by
      show Es _ _ _ [_, _] _
      apply s_asg
      · repeat (first | assumption | (with_reducible (first | apply e_nil | apply e_loc | apply e_meth)) | exact rfl)
      · exact rfl
      repeat (first | apply s_nil | (apply s_ifF; (· repeat (first | assumption | (with_reducible (first | apply e_val | apply e_loc | apply e_attr | apply e_cmp | apply e_one)) | exact rfl | (apply e_andT; (· repeat (first | (with_reducible (first | apply e_val | apply e_loc | apply e_cmp)) | exact rfl))))))))
    rw [wh_t hcond hb rfl]
    exact ih k hs _ ip _ rfl (by lia) (by lia) M4 I.tl
end
end Mine
end
section
namespace Mine
open PySem
section
variable {d : Nat} {H : AH} {A : Ad} {s : List Nat} {os : List Od} {st m n : Nat} {lg : List AV} {tp hs : Stk} {Γ Φ Ψ : List (Nat × AObj)} {w : Wy} {iw ihh iho io iv ir il : Nat}
theorem len1 {x : AObj} : (H ++ [x]).length = H.length + 1 := List.length_append
theorem set_mid {x y z : AObj} : (H ++ [x] ++ [y]).set H.length z = H ++ [z] ++ [y] := by
  rw [List.set_append_left _ _ (by rw [len1]; lia), setEnd]
theorem sp15 : Cl (d + 1) 15 [.ref H.length, .str s, .ref iho] (H ++ [.inst 3 []]) .none (H ++ [mtObj s iho (H.length + 1)] ++ [.list []]) := by
  apply cl_mk rfl rfl
  · unfold b15
    iterate 2 (apply s_putE; (· repeat (first | (with_reducible apply e_loc) | exact rfl)); (· repeat (first | (with_reducible apply e_loc) | exact rfl)); (· exact rfl))
    apply s_put
    · repeat (with_reducible (first | apply e_nil | apply e_list))
    · repeat (first | (with_reducible apply e_loc) | exact rfl)
    · repeat (with_reducible (first | exact gE | apply gA))
    · exact rfl
    repeat (apply s_nil)
  · show Out.ok AV.none _ = _
    rw [set_mid, len1]; exact rfl
theorem sp25 : Cl (d + 1) 25 [.ref H.length, .ref iv, .int 90, .ref ir] (H ++ [.inst 4 []]) .none (H ++ [hoObj iv ir (H.length + 1) 0] ++ [.list []]) := by
  apply cl_mk rfl rfl
  · unfold b25
    iterate 5 (apply s_putE; (· repeat (first | (with_reducible (first | apply e_val | apply e_loc)) | exact rfl)); (· repeat (first | (with_reducible apply e_loc) | exact rfl)); (· exact rfl))
    apply s_put
    · repeat (with_reducible (first | apply e_nil | apply e_list))
    · repeat (first | (with_reducible apply e_loc) | exact rfl)
    · repeat (with_reducible (first | exact gE | apply gA))
    · exact rfl
    repeat (apply s_nil)
  · show Out.ok AV.none _ = _
    rw [set_mid, len1]; exact rfl
theorem sp_w23 : ∀ (l acc : List AV) (n : Nat) (x2 : Option AV), l.length < n → acc.length + l.length < big →
    ∃ y2, whD d w23c w23 n [some (nest l), some (.ref H.length), x2] (H ++ [.list acc]) = .ok .next [some .none, some (.ref H.length), y2] (H ++ [.list (acc ++ l)])
  | [], acc, n + 1, x2, _, _ => by
    refine ⟨x2, ?_⟩
    rw [List.append_nil]
    apply wh_f
    unfold w23c; repeat (first | (with_reducible (first | apply e_val | apply e_loc | apply e_cmp)) | exact rfl)
  | r :: l, acc, n + 1, x2, h, hz => by
    obtain ⟨y2, ih⟩ := sp_w23 l (acc ++ [r]) n (some r) (by simpa using h) (by simp at hz ⊢; lia)
    rw [List.append_assoc] at ih
    refine ⟨y2, ?_⟩
    have hb : acc.length < big := by lia
    apply wh_t
    · unfold w23c; repeat (first | (with_reducible (first | apply e_val | apply e_loc | apply e_cmp)) | exact rfl)
    case k => exact ih
    unfold w23
    apply s_tup
    · repeat (first | (with_reducible apply e_loc) | exact rfl)
    · exact rfl
    · exact rfl
    apply s_expr
    · repeat (first | assumption | (with_reducible (first | apply e_loc | apply e_app | exact gE)) | exact rfl)
    · exact rfl
    rw [setEnd]; repeat (apply s_nil)
theorem sp23 {l : List AV} (h : l.length < 1000) : Cl (d + 1) 23 [nest l] H (.ref H.length) (H ++ [.list l.reverse]) := by
  obtain ⟨y2, e⟩ := sp_w23 (d := d) (H := H) l [] NN none (by unfold NN; lia) (by have : big = 16777216 := rfl; simp; lia)
  rw [List.nil_append] at e
  apply cl_mk rfl rfl
  · unfold b23; repeat (first | (with_reducible (first | apply e_nil | apply e_list)) | apply s_asg | exact rfl)
    apply s_while
    · exact e
    apply s_expr
    · apply e_lm
      · repeat (first | (with_reducible apply e_loc) | exact rfl)
      · exact gE
      · exact rfl
      · repeat (with_reducible apply e_nil)
      · exact gE
      · exact rfl
    · exact rfl
    rw [setEnd]; repeat (first | (with_reducible apply e_loc) | apply s_ret | exact rfl)
  · exact rfl
noncomputable abbrev wS : Wy := ⟨0, 0, [], []⟩
noncomputable abbrev Bg (iho io il iv ir : Nat) (os : List Od) (Φ : List (Nat × AObj)) : List (Nat × AObj) := (iho, hoObj iv ir il 0) :: (io, .list (os.map encO)) :: (iv, .dict 0) :: (ir, .list []) :: (il, .list []) :: Φ
theorem ms_init (g : Has H (Bg iho io il iv ir os Φ)) : Ms (H ++ [mtObj s iho (H.length + 1)] ++ [.list []] ++ [wyObj io wS]) ⟨H.length, iho, io, iv, ir, il, H.length + 1⟩ s os 0 0 [] [(H.length + 2, some wS)] [] Φ := by
  have g1 := ((g.app (x := mtObj s iho (H.length + 1))).app (x := .list [])).app (x := wyObj io wS)
  rw [len1, len1] at g1
  refine ⟨⟨0, Nat.le_refl _, g1.perm ?_⟩, Nat.le_refl _, Nat.le_refl _⟩
  refine (List.perm_middle (l₁ := (H.length + 1, .list []) :: (H.length, mtObj s iho (H.length + 1)) :: Bg iho io il iv ir os []) (l₂ := Φ)).symm.trans ?_
  exact (List.perm_middle (l₁ := (H.length, mtObj s iho (H.length + 1)) :: Bg iho io il iv ir os []) (l₂ := (H.length + 2, wyObj io wS) :: Φ)).symm
theorem fol_start (M : Wf os) (h0 : 0 < os.length) : Iv os Φ s.length 0 (some wS :: ([] : Stk).map (·.2)) := by
  refine ⟨fun w hw => ?_, by simp⟩
  have hw := List.mem_singleton.mp hw; (injection hw with j1; subst j1)
  exact ⟨h0, rfl, by simp, Nat.zero_le _, Nat.le_refl _, fun x hx => by exact absurd hx List.not_mem_nil⟩
theorem wh_fin {c : E0} {b : List S0} {l : Loc} {e : E0} {f : AV} (he : ∀ l H, evE P2 (K2 d) NN e l H = .ok f H) : Es d l H [.while_ c b, .ret e] ((whD d c b NN l H).andThen fun l H => .ok (.ret f) l H) := ⟨by
  show (whD d c b NN l H).andThen _ = _
  congr 1
  funext l H
  show (Out.thenS (evE P2 (K2 d) NN e l H) l _).andThen _ = _
  rw [he]; rfl⟩
theorem fin_wfin {R : SO} {f : AV} : (R.andThen fun l H => .ok (.ret f) l H).fin = wfin f R := by
  induction R using Mine.SO.casesOn with
  | ok g l H => induction g using Mine.Fl.casesOn <;> rfl
  | exc => rfl
  | bad => rfl
inductive Sp45R (d : Nat) (H : AH) (A : Ad) (s : List Nat) (os : List Od) (Φ : List (Nat × AObj)) (iw : Nat) (ihh : Nat) : Prop where
  | mk (r : Res) (st' : Nat) (lg' : List AV) (zc1 : Rm s os 90 wS [] [] 0 r st' lg') (zc2 : FolIs A os Φ st' lg' (callD P2 NN (d + 7) 45 [.ref A.im, .ref iw, .ref ihh, .ref A.iho] H) r)
theorem sp45 (F : Wf os) (h0 : 0 < os.length) (hos : ∀ od ∈ os, OdOk Φ od) (hc : ∀ c ∈ s, c ≠ 40 ∧ c ≠ 41) (hs3 : s.length ≤ 8) (hh : (ihh, AObj.list ((htsO os).map AV.int)) ∈ Φ) (M : Ms H A s os 0 0 [] [(iw, some wS)] [] Φ) :
    Sp45R d H A s os Φ iw ihh := by
  obtain ⟨r, st', lg', h1, h2⟩ := fol (d := d) F hos hc hs3 hh 90 NN wS [] H iw 0 [] none none none none rfl (by unfold NN; lia) M (fol_start F h0)
  refine ⟨r, st', lg', h1, ?_⟩
  rw [call_mk (d := d + 6) rfl rfl (wh_fin fun l H => rfl), fin_wfin]
  exact h2
theorem sp16 (F : Wf os) (h0 : 0 < os.length) (hos : ∀ od ∈ os, OdOk Φ od) (hc : ∀ c ∈ s, c ≠ 40 ∧ c ≠ 41) (hs3 : s.length ≤ 8) {r : Res} {sf : Nat} {lf : List AV} (h : Rm s os 90 wS [] [] 0 r sf lf) (g : Has H (Bg iho io il iv ir os Φ)) :
    RunIs ⟨H.length, iho, io, iv, ir, il, H.length + 1⟩ os Φ sf lf (callD P2 NN (d + 7) 16 [.ref H.length, .ref io, .int 0] (H ++ [mtObj s iho (H.length + 1)] ++ [.list []])) r := by
  have M := ms_init (s := s) g
  have k := run_loop (d := d) F hos hc hs3 (x1 := some (.ref io)) (x2 := some (.int 0)) h NN [] _ _ none rfl rfl (by unfold NN; lia) M (fol_start F h0)
  have e : ∀ R, Es (d + 6) [some (.ref H.length), some (.ref io), some (.int 0), some (.ref (H.length + 2)), none] (H ++ [mtObj s iho (H.length + 1)] ++ [.list []] ++ [wyObj io wS]) [.while_ w16c w16, .ret (.tup [.val (.int 1), .val (.none)])] R → Es (d + 6) [some (.ref H.length), some (.ref io), some (.int 0), none, none] (H ++ [mtObj s iho (H.length + 1)] ++ [.list []]) b16 R := fun R hR => by
    unfold b16
    apply s_asg
    · repeat (first | (with_reducible (first | apply e_nil | apply e_val | apply e_loc | apply e_cons | apply e_cls)) | exact rfl)
      exact sp13
    · exact rfl
    rw [len1, len1]; exact hR
  rw [call_mk (d := d + 6) (k := 16) (ns := 2) (args := [.ref H.length, .ref io, .int 0]) rfl rfl (e _ (wh_fin fun l H => rfl)), fin_wfin]
  exact k
theorem sp24 (F : Wf os) (h0 : 0 < os.length) (hos : ∀ od ∈ os, OdOk Φ od) (hc : ∀ c ∈ s, c ≠ 40 ∧ c ≠ 41) (hs3 : s.length ≤ 8) {r : Res} {sf : Nat} {lf : List AV} (h : Rm s os 90 wS [] [] 0 r sf lf) (g : Has H (Bg iho io il iv ir os Φ)) :
    FolIs ⟨H.length, iho, io, iv, ir, il, H.length + 1⟩ os Φ sf lf (callD P2 NN (d + 8) 24 [.ref io, .str s, .bool true, .ref iho] H) r := by
  have k := sp16 (d := d) F h0 hos hc hs3 h g
  have e15 := sp15 (d := d + 6) (H := H) (s := s) (iho := iho)
  have hm : (H ++ [mtObj s iho (H.length + 1)] ++ [AObj.list []])[H.length]? = some (mtObj s iho (H.length + 1)) := gA gE
  have hf : ∀ {R : SO} {out : Out AV}, Es (d + 7) [some (.ref io), some (.str s), some (.bool true), some (.ref iho), some (.int 0), none, none] H f24 R → ((R.loop (foD (d + 7) f24t f24 (NN - 1) (.rng 1 1))).andThen fun l H => .ok (.ret .none) l H).fin = out → callD P2 NN (d + 8) 24 [.ref io, .str s, .bool true, .ref iho] H = out := fun h1 h2 =>
    (call_mk (d := d + 7) (k := 24) (ns := 3) (args := [.ref io, .str s, .bool true, .ref iho]) rfl rfl (s_forX (it := .rng 0 1) (H1 := H) rfl rfl (fo_r (n := NN - 1) rfl rfl h1 rfl) rfl)).trans h2
  induction r using Mine.Res.casesOn with
  | met w =>
    obtain ⟨H', iw', e1, hw, hn, g', hnm⟩ := k
    have e16 : Cl (d + 7) 16 [.ref H.length, .ref io, .int 0] (H ++ [mtObj s iho (H.length + 1)] ++ [.list []]) (.tup [.int 0, .ref iw']) H' := ⟨e1⟩
    have e23 := sp23 (d := d + 6) (H := H') (l := w.nm) (by lia)
    refine ⟨_, H'.length, ?_, (g'.app (x := .list w.nm.reverse)), hnm⟩
    apply hf
    · unfold f24
      apply s_tup
      · repeat (first | assumption | (with_reducible (first | apply e_nil | apply e_loc | apply e_cons | apply e_cls | apply e_meth)) | exact rfl)
      · exact rfl
      · exact rfl
      repeat (first | assumption | (with_reducible (first | apply e_nil | apply e_loc | apply e_cons | apply e_tup | apply e_attr | apply e_fn)) | apply s_ret | exact rfl | (apply s_ifT; (· repeat (first | (with_reducible (first | apply e_val | apply e_loc | apply e_cmp)) | exact rfl))))
    · exact rfl
  | non =>
    obtain ⟨H', v, e1, hv, g'⟩ := k
    have e16 : Cl (d + 7) 16 [.ref H.length, .ref io, .int 0] (H ++ [mtObj s iho (H.length + 1)] ++ [.list []]) (.tup [.int v, .none]) H' := ⟨e1⟩
    refine ⟨H', ?_, g'⟩
    rcases hv with rfl | rfl
    · apply hf
      · unfold f24
        apply s_tup
        · repeat (first | assumption | (with_reducible (first | apply e_nil | apply e_loc | apply e_cons | apply e_cls | apply e_meth)) | exact rfl)
        · exact rfl
        · exact rfl
        repeat (first | apply s_nil | (apply s_ifF; (· repeat (first | (with_reducible (first | apply e_val | apply e_loc | apply e_cmp)) | exact rfl))))
      · exact rfl
    · apply hf
      · unfold f24
        apply s_tup
        · repeat (first | assumption | (with_reducible (first | apply e_nil | apply e_loc | apply e_cons | apply e_cls | apply e_meth)) | exact rfl)
        · exact rfl
        · exact rfl
        repeat (first | (with_reducible apply e_val) | apply s_ret | (apply s_ifF; (· repeat (first | (with_reducible (first | apply e_val | apply e_loc | apply e_cmp)) | exact rfl))) | (apply s_ifT; (· repeat (first | (with_reducible (first | apply e_val | apply e_loc | apply e_cmp)) | exact rfl))))
      · exact rfl
  | exc =>
    obtain ⟨H', e1, g'⟩ := k
    refine ⟨H', ?_, g'⟩
    apply hf
    · unfold f24
      apply s_asgX
      apply e_methX
      · repeat (first | assumption | (with_reducible (first | apply e_nil | apply e_loc | apply e_cons | apply e_cls)) | exact rfl)
      · repeat (assumption)
      · exact rfl
      · repeat (first | (with_reducible (first | apply e_nil | apply e_loc | apply e_cons)) | exact rfl)
      · exact e1
    · exact rfl
end
end Mine
end
section
namespace Mine
open PySem
abbrev kCat : List Nat := [99, 97, 116]
abbrev kAlt : List Nat := [97, 108, 116]
abbrev kArbno : List Nat := [97, 114, 98, 110, 111]
abbrev kLater : List Nat := [108, 97, 116, 101, 114]
abbrev kNow : List Nat := [110, 111, 119]
abbrev kCursor : List Nat := [99, 117, 114, 115, 111, 114]
inductive Nd where
  | one (o : On)
  | ways (b : Bool)
  | fence
  | abort
  | fail
  | cursor (r : Nat) (key : List Nat)
  | bin (c : Bool) (a b : Nd)
  | arbno (a : Nd)
  | later (a : Nd) (r : Nat) (key : List Nat)
  | now (a : Nd) (r : Nat) (key : List Nat)
noncomputable def encN : Nd → AV
  | .one o => .tup [.str o.kind, o.told]
  | .ways b => .tup [.str (if b then kArb else kBal)]
  | .fence => .tup [.str kFence]
  | .abort => .tup [.str kAbort]
  | .fail => .tup [.str kFail]
  | .cursor r _ => .tup [.str kCursor, .ref r]
  | .bin c a b => .tup [.str (if c then kCat else kAlt), encN a, encN b]
  | .arbno a => .tup [.str kArbno, encN a]
  | .later a r _ => .tup [.str kLater, encN a, .ref r]
  | .now a r _ => .tup [.str kNow, encN a, .ref r]
noncomputable def tl : On → Nat
  | .chars t => t.length
  | _ => 0
noncomputable def sz : Nd → Nat
  | .one o => tl o + 1
  | .bin _ a b => sz a + sz b + 1
  | .arbno a => sz a + 1
  | .later a _ _ => sz a + 1
  | .now a _ _ => sz a + 1
  | _ => 1
theorem sz_pos (p : Nd) : 1 ≤ sz p := by induction p using Mine.Nd.casesOn <;> simp only [sz] <;> lia
theorem len_sz : ∀ l : List Nd, l.length ≤ (l.map sz).sum
  | [] => Nat.le_refl _
  | a :: l => by
    have h1 := sz_pos a
    have h2 := len_sz l
    simp only [List.length_cons, List.map_cons, List.sum_cons]; lia
noncomputable def hm : Nd → Nat
  | .bin _ a b => max (hm a) (hm b)
  | .arbno a => hm a + 1
  | .later a _ _ => hm a + 1
  | .now a _ _ => hm a + 1
  | _ => 0
noncomputable def NdOk (Φ : List (Nat × AObj)) : Nd → Prop
  | .cursor r key => (r, nrObj key) ∈ Φ
  | .bin _ a b => NdOk Φ a ∧ NdOk Φ b
  | .arbno a => NdOk Φ a
  | .later a r key => NdOk Φ a ∧ (r, nrObj key) ∈ Φ
  | .now a r key => NdOk Φ a ∧ (r, nrObj key) ∈ Φ
  | _ => True
noncomputable def G (Φ : List (Nat × AObj)) (h : Nat) (p : Nd) : Prop := NdOk Φ p ∧ hm p ≤ h
noncomputable abbrev szs (l : List Nd) : Nat := (l.map sz).sum
section
variable {d : Nat} {H : AH} {Γ Φ : List (Nat × AObj)} {h : Nat}
theorem G.bin {c : Bool} {a b : Nd} (g : G Φ h (.bin c a b)) : G Φ h a ∧ G Φ h b := ⟨⟨g.1.1, Nat.le_trans (Nat.le_max_left _ _) g.2⟩, ⟨g.1.2, Nat.le_trans (Nat.le_max_right _ _) g.2⟩⟩
noncomputable def bk (c : Bool) : List Nat := if c then kCat else kAlt
noncomputable def isBin (c : Bool) : Nd → Bool
  | .bin c' _ _ => c == c'
  | _ => false
noncomputable def kindN : Nd → List Nat
  | .one o => o.kind
  | .ways b => if b then kArb else kBal
  | .fence => kFence
  | .abort => kAbort
  | .fail => kFail
  | .cursor _ _ => kCursor
  | .bin c _ _ => if c then kCat else kAlt
  | .arbno _ => kArbno
  | .later _ _ _ => kLater
  | .now _ _ _ => kNow
theorem kind0 (p : Nd) : itemV H (encN p) (.int 0) = some (.str (kindN p)) := by induction p using Mine.Nd.casesOn <;> exact rfl
theorem isBin_of {c : Bool} {p : Nd} (h : isBin c p = true) : ∃ a b, p = .bin c a b := by
  induction p using Nd.casesOn with
  | bin c' a b => exact ⟨a, b, by rw [beq_iff_eq.mp (show (c == c') = true from h)]⟩
  | _ => exact absurd h Bool.false_ne_true
theorem kind_bin (c : Bool) (p : Nd) : cmpV H .Eq (.str (kindN p)) (.str (bk c)) = some (isBin c p) := by
  induction p using Mine.Nd.casesOn with
  | one o => induction o using Mine.On.casesOn <;> induction c using Bool.casesOn <;> exact rfl
  | ways b => induction b using Bool.casesOn <;> induction c using Bool.casesOn <;> exact rfl
  | bin c' a b => induction c' using Bool.casesOn <;> induction c using Bool.casesOn <;> exact rfl
  | _ => induction c using Bool.casesOn <;> exact rfl
theorem extL {i j : Nat} {l x : List AV} (hl : H[j]? = some (.list x)) (h : l.length + x.length < big) : liV H i l 2 [.ref j] = .ok .none (H.set i (.list (l ++ x))) := by
  show extV H i l (.ref j) = _
  unfold extV
  dsimp only
  rw [hl]; exact if_pos h
theorem popL {i : Nat} {l : List AV} {x : AV} : liV H i (l ++ [x]) 1 [] = .ok x (H.set i (.list l)) := by
  show popV H i (l ++ [x]) = _
  simp only [popV, List.getLast?_concat, List.dropLast_concat]
theorem Has.swap {a b : Nat × AObj} (g : Has H (a :: b :: Γ)) : Has H (b :: a :: Γ) := g.perm (.swap _ _ _)
inductive Row_loopR (d : Nat) (Γ : List (Nat × AObj)) (Φ : List (Nat × AObj)) (h : Nat) (c : Bool) (x0 : Option AV) (jf : Nat) (jw : Nat) (W : List Nd) (F : List Nd) (H : AH) (x4 : Option AV) (f : Nat) : Prop where
  | mk (H' : AH) (ps : List Nd) (y4 : Option AV) (zc1 : whD d w0c w0 f [x0, some (.str (bk c)), some (.ref jf), some (.ref jw), x4] H = .ok .next [x0, some (.str (bk c)), some (.ref jf), some (.ref jw), y4] H') (zc2 : Has H' ((jf, .list (ps.map encN)) :: Γ)) (zc3 : (∀ p ∈ ps, G Φ h p)) (zc4 : szs ps ≤ szs F + szs W) (zc5 : (W ≠ [] ∨ F ≠ [] → ps ≠ [])) (zc6 : ((∃ w ∈ W, isBin c w = true) → szs ps < szs F + szs W))
theorem row_loop {c : Bool} {x0 : Option AV} {jf jw : Nat} : ∀ (n : Nat) (W F : List Nd) (H : AH) (x4 : Option AV) (f : Nat), szs W ≤ n → szs F + szs W < 10000 → n < f → Has H ((jf, .list (F.map encN)) :: (jw, .list (W.map encN)) :: Γ) → (∀ w ∈ W, G Φ h w) → (∀ w ∈ F, G Φ h w) →
    Row_loopR d Γ Φ h c x0 jf jw W F H x4 f
  | n, W, F, H, x4, 0, _, _, hf, _, _, _ => absurd hf (Nat.not_lt_zero _)
  | n, W, F, H, x4, f + 1, hn, hz, hf, g, hW, hF => by
    have g1 := g.at_ _ (.head _)
    have g2 := g.at_ _ (.tail _ (.head _))
    rcases List.eq_nil_or_concat W with rfl | ⟨W, p, rfl⟩
    · refine ⟨H, F, x4, ?_, g.sub (.cons₂ _ (.cons _ (.refl _))), hF, by simp, fun h => h.resolve_left (by simp), fun h => by obtain ⟨w, hw, _⟩ := h; exact absurd hw List.not_mem_nil⟩
      apply wh_f
      unfold w0c; repeat (first | assumption | (with_reducible (first | apply e_nil | apply e_val | apply e_loc | apply e_cons | apply e_cmp | apply e_bi | apply lenL)) | exact rfl)
    · rw [List.concat_eq_append] at hn hz g g2 hW ⊢
      rw [List.map_append] at g g2
      have hs : szs (W ++ [p]) = szs W + sz p := by simp [szs]
      rw [hs] at hn hz
      have hp1 := sz_pos p
      induction n using Nat.casesAuxOn with
      | zero => lia
      | succ n =>
      have hcond : Ev d [x0, some (.str (bk c)), some (.ref jf), some (.ref jw), x4] H w0c (.bool true) H := by
        unfold w0c; repeat (first | assumption | (with_reducible (first | apply e_nil | apply e_val | apply e_loc | apply e_cons | apply e_cmp | apply e_bi | apply lenL)) | exact rfl)
        exact c_gt (by simp <;> lia)
      have ga := Has.set (Γ := [_]) (y := .list (W.map encN)) g
      have ga1 := ga.at_ _ (.head _)
      have ga2 := ga.at_ _ (.tail _ (.head _))
      have hp := hW p (by simp)
      have bg : big = 16777216 := rfl
      have hlW : (W.map encN).length ≤ szs W := by rw [List.length_map]; exact len_sz W
      have hlF : (F.map encN).length ≤ szs F := by rw [List.length_map]; exact len_sz F
      have pop : ∀ {ss R}, Es d [x0, some (.str (bk c)), some (.ref jf), some (.ref jw), some (encN p)] (H.set jw (.list (W.map encN))) ss R → Es d [x0, some (.str (bk c)), some (.ref jf), some (.ref jw), x4] H (.asg (.name 4) (.meth (.loc 3) 1 []) :: ss) R := fun hR => by
        apply s_asg
        · apply e_lm
          · repeat (first | (with_reducible apply e_loc) | exact rfl)
          · exact g2
          · exact rfl
          · repeat (with_reducible apply e_nil)
          · exact g2
          · exact popL
        · exact rfl
        exact hR
      cases hb : isBin c p with
      | true =>
        obtain ⟨a, b, rfl⟩ := isBin_of hb
        have gb := (ga.app (x := .list [encN b, encN a]))
        have gc := Has.set (Γ := [_, _]) (y := .list (W.map encN ++ [encN b, encN a])) gb
        have e2 : W.map encN ++ [encN b, encN a] = (W ++ [b, a]).map encN := by simp
        rw [e2] at gc
        have hs2 : szs (W ++ [b, a]) = szs W + (sz b + sz a) := by simp [szs]
        simp only [sz] at hn hz hp1 hs
        obtain ⟨H', ps, y4, r1, r2, r3, r4, r5, r6⟩ := row_loop (c := c) (x0 := x0) n (W ++ [b, a]) F _ (some (encN (.bin c a b))) f (by rw [hs2]; lia) (by rw [hs2]; lia) (by lia) gc.tl (fun w hw => by
          rcases List.mem_append.mp hw with hw | hw
          · exact hW w (List.mem_append_left _ hw)
          · rcases List.mem_cons.mp hw with rfl | hw
            · exact hp.bin.2
            · obtain rfl := List.mem_singleton.mp hw; exact hp.bin.1) hF
        refine ⟨H', ps, y4, ?_, r2, r3, by rw [hs2] at r4; lia, fun _ => r5 (.inl (by simp)), fun _ => by rw [hs2] at r4; lia⟩
        apply wh_t hcond _ r1
        unfold w0
        apply pop
        apply s_ifT
        · repeat (first | (with_reducible (first | apply e_val | apply e_loc | apply e_item | apply e_cmp)) | exact rfl)
          exact (kind_bin c (.bin c a b)).trans (congrArg some hb)
        apply s_expr
        · apply e_lm
          · repeat (first | (with_reducible apply e_loc) | exact rfl)
          · exact ga2
          · exact rfl
          · repeat (first | (with_reducible (first | apply e_nil | apply e_val | apply e_loc | apply e_cons | apply e_list | apply e_item)) | exact rfl)
          · exact gA ga2
          · exact extL gE (by simp at hlW ⊢; lia)
        · exact rfl
        rw [e2]; exact s_nil
      | false =>
        have gb := Has.set (Γ := []) (y := .list (F.map encN ++ [encN p])) ga
        have e2 : F.map encN ++ [encN p] = (F ++ [p]).map encN := by simp
        rw [e2] at gb
        have hs2 : szs (F ++ [p]) = szs F + sz p := by simp [szs]
        obtain ⟨H', ps, y4, r1, r2, r3, r4, r5, r6⟩ := row_loop (c := c) (x0 := x0) n W (F ++ [p]) _ (some (encN p)) f (by lia) (by rw [hs2]; lia) (by lia) gb (fun w hw => hW w (List.mem_append_left _ hw)) (fun w hw => by
          rcases List.mem_append.mp hw with hw | hw
          · exact hF w hw
          · obtain rfl := List.mem_singleton.mp hw; exact hp)
        refine ⟨H', ps, y4, ?_, r2, r3, by rw [hs2] at r4; lia, fun _ => r5 (.inr (by simp)), fun ⟨w, hw, e⟩ => by
          rcases List.mem_append.mp hw with hw | hw
          · have := r6 ⟨w, hw, e⟩
            rw [hs2] at this; lia
          · obtain rfl := List.mem_singleton.mp hw; rw [hb] at e; (first | (exact absurd e Bool.false_ne_true) | (injection e; done) | (injection e with j1 j2 j3; subst j1 j2 j3) | (injection e with j1 j2; subst j1 j2) | (injection e with j1; injection j1; done) | (injection e with j1; injection j1 with j1 j2; subst j1 j2) | (injection e with j1; injection j1 with j1; subst j1) | (injection e with j1; subst j1) | (subst e) | (exact absurd e List.not_mem_nil) | (cases e))⟩
        apply wh_t hcond _ r1
        unfold w0
        apply pop
        apply s_ifF
        · repeat (first | (with_reducible (first | apply e_val | apply e_loc | apply e_item | apply e_cmp)) | exact rfl)
          · exact kind0 _
          · repeat (first | (with_reducible apply e_loc) | exact rfl)
          · rw [kind_bin, hb]
        apply s_expr
        · apply e_app
          · repeat (first | (with_reducible apply e_loc) | exact rfl)
          · exact ga1
          · repeat (first | (with_reducible apply e_loc) | exact rfl)
          · exact ga1
          · lia
        · exact rfl
        rw [e2]; exact s_nil
end
end Mine
end
section
namespace Mine
open PySem
section
variable {d : Nat} {H : AH} {Γ Φ : List (Nat × AObj)} {h : Nat}
inductive Sp0R (d : Nat) (H : AH) (Γ : List (Nat × AObj)) (Φ : List (Nat × AObj)) (h : Nat) (c : Bool) (a : Nd) (b : Nd) : Prop where
  | mk (H' : AH) (jf : Nat) (ps : List Nd) (zc1 : Cl (d + 1) 0 [encN (.bin c a b), .str (bk c)] H (.ref jf) H') (zc2 : Has H' ((jf, .list (ps.map encN)) :: Γ)) (zc3 : (∀ p ∈ ps, G Φ h p)) (zc4 : szs ps < sz (.bin c a b)) (zc5 : ps ≠ [])
theorem sp0 {c : Bool} {a b : Nd} (g : Has H Γ) (hp : G Φ h (.bin c a b)) (hz : sz (.bin c a b) < 10000) : Sp0R d H Γ Φ h c a b := by
  have g1 := ((g.app (x := .list [])).app (x := .list [encN (.bin c a b)])).swap
  obtain ⟨H', ps, y4, r1, r2, r3, _, r5, r6⟩ := row_loop (d := d) (c := c) (x0 := some (encN (.bin c a b))) (h := h) (Φ := Φ) (sz (.bin c a b)) [.bin c a b] [] _ none NN (by simp [szs]) (by simpa [szs] using hz) (by unfold NN; lia) g1 (fun w hw => by obtain rfl := List.mem_singleton.mp hw; exact hp) (fun w hw => by exact absurd hw List.not_mem_nil)
  refine ⟨H', _, ps, ?_, r2, r3, ?_, r5 (.inl (by simp))⟩
  · apply cl_mk rfl rfl
    · unfold b0
      apply s_tup
      · repeat (first | (with_reducible (first | apply e_nil | apply e_loc | apply e_cons | apply e_tup | apply e_list)) | exact rfl)
      · exact rfl
      · exact rfl
      apply s_while
      · exact r1
      repeat (first | (with_reducible apply e_loc) | apply s_ret | exact rfl)
    · exact rfl
  · have := r6 ⟨_, .head _, by induction c using Bool.casesOn <;> rfl⟩
    simpa [szs] using this
noncomputable def isTx : Nd → Bool
  | .one (.chars _) => true
  | _ => false
theorem isTx_of {t : Nd} (h : isTx t = true) : ∃ x, t = .one (.chars x) := by
  induction t using Nd.casesOn with
  | one o =>
    induction o using On.casesOn with
    | chars x => exact ⟨x, rfl⟩
    | _ => exact absurd h Bool.false_ne_true
  | _ => exact absurd h Bool.false_ne_true
theorem sp1 (p : Nd) : Cl (d + 1) 1 [encN p] H (.bool (isTx p)) H := by
  induction p using Mine.Nd.casesOn with
  | one o =>
    induction o using Mine.On.casesOn <;> apply cl_mk rfl rfl <;> first | (unfold b1; repeat (first | apply s_ret | exact rfl)) | exact rfl
  | ways b => induction b using Bool.casesOn <;> apply cl_mk rfl rfl <;> first | (unfold b1; repeat (first | apply s_ret | exact rfl)) | exact rfl
  | bin c a b => induction c using Bool.casesOn <;> apply cl_mk rfl rfl <;> first | (unfold b1; repeat (first | apply s_ret | exact rfl)) | exact rfl
  | _ => apply cl_mk rfl rfl <;> first | (unfold b1; repeat (first | apply s_ret | exact rfl)) | exact rfl
theorem itemLast {i : Nat} {l : List AV} {x : AV} (g : H[i]? = some (.list (l ++ [x]))) : itemV H (.ref i) (.int (((l ++ [x]).length : Int) - 1)) = some x := by
  have e : (((l ++ [x]).length : Nat) : Int) - 1 = ((l.length : Nat) : Int) := by simp
  rw [e]; exact itemL g (by simp)
inductive Join_loopR (d : Nat) (Γ : List (Nat × AObj)) (Φ : List (Nat × AObj)) (h : Nat) (jp : Nat) (jf : Nat) (x0 : Option AV) (ts : List Nd) (k : Nat) (n : Nat) (H : AH) (qs : List Nd) (x2 : Option AV) : Prop where
  | mk (H' : AH) (qs' : List Nd) (y2 : Option AV) (zc1 : foD (d + 1) f2t f2 n (.list jp k) [x0, some (.ref jf), x2] H = .ok .next [x0, some (.ref jf), y2] H') (zc2 : Has H' ((jf, .list (qs'.map encN)) :: Γ)) (zc3 : (∀ p ∈ qs', G Φ h p)) (zc4 : szs qs' ≤ szs qs + szs ts)
theorem join_loop {jp jf : Nat} {x0 : Option AV} {T : List Nd} (hl : (jp, AObj.list (T.map encN)) ∈ Γ) : ∀ (ts : List Nd) (k n : Nat) (H : AH) (qs : List Nd) (x2 : Option AV), T.drop k = ts → ts.length < n → szs qs + szs ts < 10000 → Has H ((jf, .list (qs.map encN)) :: Γ) → (∀ p ∈ ts, G Φ h p) → (∀ p ∈ qs, G Φ h p) →
    Join_loopR d Γ Φ h jp jf x0 ts k n H qs x2
  | [], k, n + 1, H, qs, x2, ht, _, _, g, _, hq => ⟨H, qs, x2, fo_n (it_n (g.at_ _ (.tail _ hl)) (List.getElem?_eq_none (by simpa using ht))), g, hq, by simp [szs]⟩
  | t :: ts, k, n + 1, H, qs, x2, ht, hn, hz, g, hT, hq => by
    have h1 : T[k]? = some t := by rw [← Nat.add_zero k, ← List.getElem?_drop, ht]; rfl
    have h3 : T.drop (k + 1) = ts := by rw [← List.drop_drop, ht]; rfl
    have hi := it_c (v := encN t) (g.at_ _ (.tail _ hl)) (by rw [List.getElem?_map, h1]; rfl)
    have hs : szs (t :: ts) = sz t + szs ts := by simp [szs]
    rw [hs] at hz
    have g1 := g.at_ _ (.head _)
    have bg : big = 16777216 := rfl
    have hlq : (qs.map encN).length ≤ szs qs := by rw [List.length_map]; exact len_sz qs
    have hlb : (qs.map encN).length < big := by lia
    have e1 := sp1 (d := d) (H := H) t
    have hGt := hT t (.head _)
    have hTs := fun p hp => hT p (.tail _ hp)
    have sap : ∀ (l : List Nd) (p : Nd), szs (l ++ [p]) = szs l + sz p := fun l p => by simp [szs]
    have map1 : ∀ (l : List Nd) (p : Nd), l.map encN ++ [encN p] = (l ++ [p]).map encN := fun l p => by simp
    have gap : ∀ {l : List Nd} {p : Nd}, (∀ q ∈ l, G Φ h q) → G Φ h p → ∀ q ∈ l ++ [p], G Φ h q := fun hl hp q hq => by
      rcases List.mem_append.mp hq with hq | hq
      · exact hl q hq
      · obtain rfl := List.mem_singleton.mp hq; exact hp
    have add : ∀ {R}, Es (d + 1) [x0, some (.ref jf), some (encN t)] (H.set jf (.list ((qs ++ [t]).map encN))) [] R → Es (d + 1) [x0, some (.ref jf), some (encN t)] H [.expr (.meth (.loc 1) 0 [.loc 2])] R := fun hR => by
      apply s_expr
      · repeat (first | assumption | (with_reducible (first | apply e_loc | apply e_app)) | exact rfl)
      · exact rfl
      rw [map1]; exact hR
    have plain : Es (d + 1) [x0, some (.ref jf), some (encN t)] H f2 (.ok .next [x0, some (.ref jf), some (encN t)] (H.set jf (.list ((qs ++ [t]).map encN)))) → Join_loopR d Γ Φ h jp jf x0 (t :: ts) k (n + 1) H qs x2 := fun hb => by
      obtain ⟨H', qs', y2, r1, r2, r3, r4⟩ := join_loop hl ts (k + 1) n _ (qs ++ [t]) (some (encN t)) h3 (by simpa using hn) (by rw [sap]; lia) (Has.set (Γ := []) (y := .list ((qs ++ [t]).map encN)) g) hTs (gap hq hGt)
      exact ⟨H', qs', y2, fo_c hi rfl hb r1, r2, r3, by rw [sap] at r4; lia⟩
    cases htx : isTx t with
    | false =>
      rw [htx] at e1
      apply plain
      unfold f2
      apply s_ifF
      · repeat (first | assumption | (with_reducible (first | apply e_nil | apply e_loc | apply e_cons | apply e_fn)) | exact rfl)
      exact add s_nil
    | true =>
      rw [htx] at e1
      obtain ⟨x, rfl⟩ := isTx_of htx
      by_cases hx : x = []
      · subst hx
        obtain ⟨H', qs', y2, r1, r2, r3, r4⟩ := join_loop hl ts (k + 1) n H qs (some (encN (.one (.chars [])))) h3 (by simpa using hn) (by lia) g hTs hq
        refine ⟨H', qs', y2, fo_k hi rfl ?_ r1, r2, r3, by lia⟩
        unfold f2
        apply s_ifT
        · repeat (first | assumption | (with_reducible (first | apply e_nil | apply e_loc | apply e_cons | apply e_fn)) | exact rfl)
        apply s_ifT
        · repeat (first | (with_reducible (first | apply e_val | apply e_loc | apply e_item | apply e_cmp)) | exact rfl)
        repeat (apply s_cont)
      · have ne : ∀ {R}, Es (d + 1) [x0, some (.ref jf), some (encN (.one (.chars x)))] H (([.ite (.bop .And [.cmp (.call (.val (.bi .len)) [.loc 1]) [.Gt] [.val (.int 0)], .call (.val (.fn 1)) [.item (.loc 1) (.bin (.call (.val (.bi .len)) [.loc 1]) .Sub (.val (.int 1)))]]) [.asg (.name 2) (.tup [.val (.str [99, 104, 97, 114, 115]), .bin (.item (.meth (.loc 1) 1 []) (.val (.int 1))) .Add (.item (.loc 2) (.val (.int 1)))])] []] : List S0) ++ [.expr (.meth (.loc 1) 0 [.loc 2])]) R → Es (d + 1) [x0, some (.ref jf), some (encN (.one (.chars x)))] H f2 R := fun hR => by
          unfold f2
          apply s_ifT
          · repeat (first | assumption | (with_reducible (first | apply e_nil | apply e_loc | apply e_cons | apply e_fn)) | exact rfl)
          apply s_ifF
          · repeat (first | (with_reducible (first | apply e_val | apply e_loc | apply e_item | apply e_cmp)) | exact rfl)
            exact c_nes hx
          exact hR
        rcases List.eq_nil_or_concat qs with rfl | ⟨qs, q, rfl⟩
        · apply plain
          apply ne
          apply s_ifF
          · apply e_andF
            repeat (first | assumption | (with_reducible (first | apply e_nil | apply e_val | apply e_loc | apply e_cons | apply e_cmp | apply e_bi | apply lenL)) | exact rfl)
          exact add s_nil
        · rw [List.concat_eq_append] at *
          rw [← map1] at g1
          have e2 := sp1 (d := d) (H := H) q
          have hlast := itemLast g1
          have hlen : cmpV H .Gt (.int ((qs.map encN ++ [encN q]).length : Nat)) (.int 0) = some true := c_gt (by simp <;> lia)
          cases hq2 : isTx q with
          | false =>
            rw [hq2] at e2
            apply plain
            apply ne
            apply s_ifF
            · apply e_andT
              · repeat (first | assumption | (with_reducible (first | apply e_nil | apply e_val | apply e_loc | apply e_cons | apply e_cmp | apply e_bi | apply lenL)) | exact rfl)
              repeat (first | assumption | (with_reducible (first | apply e_nil | apply e_val | apply e_loc | apply e_cons | apply e_item | apply e_bin | apply e_one | apply e_fn | apply e_bi | apply lenL)) | exact rfl)
            exact add s_nil
          | true =>
            rw [hq2] at e2
            obtain ⟨y, rfl⟩ := isTx_of hq2
            have sq := sap qs (.one (.chars y))
            rw [sap] at hz hlq
            simp only [sz, tl] at hz hlq hs sq
            rw [← map1] at g
            have ga := Has.set (Γ := []) (y := .list (qs.map encN)) g
            have ga1 := ga.at_ _ (.head _)
            have gb := Has.set (Γ := []) (y := .list (qs.map encN ++ [encN (.one (.chars (y ++ x)))])) ga
            rw [map1] at gb
            have hadd : binV (H.set jf (.list (qs.map encN))) .Add (.str y) (.str x) = .ok (.str (y ++ x)) (H.set jf (.list (qs.map encN))) := if_pos (by lia)
            obtain ⟨H', qs', y2, r1, r2, r3, r4⟩ := join_loop hl ts (k + 1) n _ (qs ++ [.one (.chars (y ++ x))]) (some (encN (.one (.chars (y ++ x))))) h3 (by simpa using hn) (by rw [sap]; simp only [sz, tl, List.length_append]; lia) gb hTs (gap (fun q hq' => hq q (List.mem_append_left _ hq')) (show G Φ h (.one (.chars (y ++ x))) from ⟨trivial, Nat.zero_le _⟩))
            refine ⟨H', qs', y2, fo_c hi rfl ?_ r1, r2, r3, by rw [sap] at r4; simp only [sz, tl, List.length_append] at r4; lia⟩
            apply ne
            apply s_ifT
            · apply e_andT
              · repeat (first | assumption | (with_reducible (first | apply e_nil | apply e_val | apply e_loc | apply e_cons | apply e_cmp | apply e_bi | apply lenL)) | exact rfl)
              repeat (first | assumption | (with_reducible (first | apply e_nil | apply e_val | apply e_loc | apply e_cons | apply e_item | apply e_bin | apply e_one | apply e_fn | apply e_bi | apply lenL)) | exact rfl)
            apply s_asg
            · apply e_tup
              apply e_cons
              · repeat (with_reducible apply e_val)
              apply e_cons
              · apply e_bin
                · apply e_item
                  · apply e_lm
                    · repeat (first | (with_reducible apply e_loc) | exact rfl)
                    · exact g1
                    · exact rfl
                    · repeat (with_reducible apply e_nil)
                    · exact g1
                    · exact popL
                  · repeat (with_reducible apply e_val)
                  · exact rfl
                · repeat (first | (with_reducible (first | apply e_val | apply e_loc | apply e_item)) | exact rfl)
                · exact hadd
              · repeat (with_reducible apply e_nil)
            · exact rfl
            apply s_expr
            · apply e_app
              · repeat (first | (with_reducible apply e_loc) | exact rfl)
              · exact ga1
              · repeat (first | (with_reducible apply e_loc) | exact rfl)
              · exact ga1
              · rw [List.length_map]; have := len_sz qs; simp only [szs] at hz; lia
            · exact rfl
            rw [← map1]; exact s_nil
end
end Mine
end
section
namespace Mine
open PySem
section
variable {d : Nat} {H : AH} {Γ Φ : List (Nat × AObj)} {h ic io iw : Nat} {os W : List AV}
inductive Sp2R (d : Nat) (H : AH) (Γ : List (Nat × AObj)) (Φ : List (Nat × AObj)) (h : Nat) (jp : Nat) (T : List Nd) : Prop where
  | mk (H' : AH) (jf : Nat) (qs : List Nd) (zc1 : Cl (d + 2) 2 [.ref jp] H (.ref jf) H') (zc2 : Has H' ((jf, .list (qs.map encN)) :: Γ)) (zc3 : (∀ p ∈ qs, G Φ h p)) (zc4 : szs qs ≤ szs T)
theorem sp2 {jp : Nat} {T : List Nd} (g : Has H Γ) (hl : (jp, AObj.list (T.map encN)) ∈ Γ) (hz : szs T < 10000) (hT : ∀ p ∈ T, G Φ h p) : Sp2R d H Γ Φ h jp T := by
  obtain ⟨H', qs, y2, r1, r2, r3, r4⟩ := join_loop (d := d) (h := h) (Φ := Φ) (x0 := some (.ref jp)) hl T 0 NN _ [] none rfl (by unfold NN; have := len_sz T; simp only [szs] at hz; lia) (by simpa [szs] using hz) (g.app (x := .list [])) hT (fun p hp => by exact absurd hp List.not_mem_nil)
  refine ⟨H', H.length, qs, ?_, r2, r3, by simpa [szs] using r4⟩
  apply cl_mk rfl rfl
  · unfold b2; repeat (first | (with_reducible (first | apply e_nil | apply e_list)) | apply s_asg | exact rfl)
    apply s_for
    · repeat (first | (with_reducible apply e_loc) | exact rfl)
    · exact it_of (gA (g.at_ _ hl))
    · exact r1
    repeat (first | (with_reducible apply e_loc) | apply s_ret | exact rfl)
  · exact rfl
noncomputable abbrev cdO (io : Nat) : AObj := .inst 0 [(9, .ref io)]
theorem sp4 {v : AV} (hc : H[ic]? = some (cdO io)) (ho : H[io]? = some (.list os)) (hb : os.length < big) : Cl (d + 1) 4 [.ref ic, v] H (vI os.length) (H.set io (.list (os ++ [v]))) := by
  have n1 : ic ≠ io := neO hc ho (by first | (intro h; injection h; done) | (intro k h; injection h; done) | exact nofun)
  have e : ((os ++ [v]).length : Int) - 1 = (os.length : Nat) := by simp
  apply cl_mk rfl rfl
  · unfold b4; repeat (first | assumption | (with_reducible (first | apply e_nil | apply e_val | apply e_loc | apply e_cons | apply e_attr | apply e_bin | apply e_app | apply e_bi | apply lenL | apply gS | (refine gN ?_ ?_; first | assumption | (apply Ne.symm; assumption)))) | apply s_expr | apply s_ret | exact rfl)
  · show Out.ok (AV.int (((os ++ [v]).length : Int) - 1)) _ = _
    rw [e]
abbrev kPut : List Nat := [112, 117, 116]
abbrev kEmit : List Nat := [101, 109, 105, 116]
abbrev kOpen : List Nat := [111, 112, 101, 110]
abbrev kShut : List Nat := [115, 104, 117, 116]
abbrev kMeet : List Nat := [109, 101, 101, 116]
noncomputable abbrev wput (p : Nd) : AV := .tup [.str kPut, encN p]
noncomputable abbrev wemit (v : AV) : AV := .tup [.str kEmit, v]
noncomputable abbrev wb (k : List Nat) (i : Nat) : AV := .tup [.str k, .ref i]
noncomputable abbrev Cd (ic io iw : Nat) (os W : List AV) (Φ : List (Nat × AObj)) : List (Nat × AObj) := (ic, cdO io) :: (io, .list os) :: (iw, .list W) :: Φ
theorem Cd.ord (g : Has H (Cd ic io iw os W Φ)) (os' : List AV) : Has (H.set io (.list os')) (Cd ic io iw os' W Φ) := Has.set (Γ := [(ic, cdO io)]) g
theorem Cd.wai (g : Has H (Cd ic io iw os W Φ)) (W' : List AV) : Has (H.set iw (.list W')) (Cd ic io iw os W' Φ) := Has.set (Γ := [(ic, cdO io), (io, .list os)]) g
theorem Cd.app (g : Has H (Cd ic io iw os W Φ)) (y : AObj) : Has (H ++ [y]) (Cd ic io iw os W ((H.length, y) :: Φ)) := (g.app (x := y)).perm (List.perm_middle (l₁ := [_, _, _])).symm
theorem Cd.c (g : Has H (Cd ic io iw os W Φ)) : H[ic]? = some (cdO io) := g.at_ _ (.head _)
theorem Cd.o (g : Has H (Cd ic io iw os W Φ)) : H[io]? = some (.list os) := g.at_ _ (.tail _ (.head _))
theorem Cd.w (g : Has H (Cd ic io iw os W Φ)) : H[iw]? = some (.list W) := g.at_ _ (.tail _ (.tail _ (.head _)))
theorem Cd.e (g : Has H (Cd ic io iw os W Φ)) {p : Nat × AObj} (h : p ∈ Φ) : H[p.1]? = some p.2 := g.at_ _ (.tail _ (.tail _ (.tail _ h)))
theorem putI_nat {i k : Nat} {l : List AV} {v : AV} (g : H[i]? = some (.list l)) (h : k < l.length) : putI H (.ref i) (vI k) v = some (H.set i (.list (l.set k v))) := by
  simp only [putI, g, natOf_nat, if_pos h]
/- the three marks of a choice -/
inductive Sp9oR (d : Nat) (H : AH) (Φ : List (Nat × AObj)) (ic : Nat) (io : Nat) (iw : Nat) (os : List AV) (W : List AV) (e1 : Nat) (e2 : Nat) : Prop where
  | mk (H' : AH) (zc1 : Cl (d + 2) 9 [.ref ic, .str kOpen, .ref e1] H .none H') (zc2 : Has H' (Cd ic io iw (os ++ [AV.none]) W ((e1, .list [vI os.length, .ref e2]) :: Φ)))
theorem sp9o {e1 e2 : Nat} {x : AV} (g : Has H (Cd ic io iw os W ((e1, .list [x, .ref e2]) :: Φ))) (hb : os.length < big) :
    Sp9oR d H Φ ic io iw os W e1 e2 := by
  have e4 := sp4 (d := d) (v := .none) (Cd.c g) (Cd.o g) hb
  have g1 := Cd.ord g (os ++ [AV.none])
  have q : putI (H.set io (.list (os ++ [AV.none]))) (.ref e1) (vI 0) (vI os.length) = some ((H.set io (.list (os ++ [AV.none]))).set e1 (.list [vI os.length, .ref e2])) := putI_nat (Cd.e g1 (.head _)) (by simp)
  have hc := Cd.c g
  refine ⟨_, ?_, Has.set (Γ := [_, _, _]) g1⟩
  apply cl_mk rfl rfl
  · unfold b9
    apply s_ifT
    · repeat (first | (with_reducible (first | apply e_val | apply e_loc | apply e_cmp)) | exact rfl)
    apply s_puti
    · repeat (first | assumption | (with_reducible (first | apply e_nil | apply e_val | apply e_loc | apply e_cons | apply e_meth)) | exact rfl)
    · repeat (first | (with_reducible apply e_loc) | exact rfl)
    · repeat (with_reducible apply e_val)
    · exact q
    repeat (apply s_nil)
  · exact rfl
inductive Sp9sR (d : Nat) (H : AH) (Φ : List (Nat × AObj)) (ic : Nat) (io : Nat) (iw : Nat) (os : List AV) (W : List AV) (e1 : Nat) (e2 : Nat) (b : Nat) (hs : List AV) : Prop where
  | mk (H' : AH) (zc1 : Cl (d + 2) 9 [.ref ic, .str kShut, .ref e1] H .none H') (zc2 : Has H' (Cd ic io iw ((os ++ [AV.none]).set b (encO (.split (os.length + 1)))) W ((e1, .list [vI b, .ref e2]) :: (e2, .list (hs ++ [vI os.length])) :: Φ)))
theorem sp9s {e1 e2 b : Nat} {hs : List AV} (g : Has H (Cd ic io iw os W ((e1, .list [vI b, .ref e2]) :: (e2, .list hs) :: Φ))) (hb : os.length < big) (hb2 : hs.length < big) (hbl : b < os.length) :
    Sp9sR d H Φ ic io iw os W e1 e2 b hs := by
  have e4 := sp4 (d := d) (v := .none) (Cd.c g) (Cd.o g) hb
  have g1 := Cd.ord g (os ++ [AV.none])
  have g2 := Has.set (Γ := [_, _, _, _]) (y := .list (hs ++ [vI os.length])) g1
  have g3 := Cd.ord g2 ((os ++ [AV.none]).set b (encO (.split (os.length + 1))))
  have hc := Cd.c g
  have hc2 := Cd.c g2
  have ho2 := Cd.o g2
  have h1 := Cd.e g (.head _)
  have h12 := Cd.e g1 (.head _)
  have h13 := Cd.e g2 (.head _)
  have h2 := Cd.e g (.tail _ (.head _))
  have h22 := Cd.e g1 (.tail _ (.head _))
  have el : ((os ++ [AV.none]).length : Int) = ((os.length + 1 : Nat) : Int) := by simp
  have q := putI_nat (v := encO (.split (os.length + 1))) ho2 (k := b) (by simp; lia)
  refine ⟨_, ?_, g3⟩
  apply cl_mk rfl rfl
  · unfold b9
    apply s_ifF
    · repeat (first | (with_reducible (first | apply e_val | apply e_loc | apply e_cmp)) | exact rfl)
    apply s_ifT
    · repeat (first | (with_reducible (first | apply e_val | apply e_loc | apply e_cmp)) | exact rfl)
    apply s_expr
    · apply e_app
      · apply e_item
        · repeat (first | (with_reducible apply e_loc) | exact rfl)
        · repeat (with_reducible apply e_val)
        · exact itemL (k := 1) h1 rfl
      · exact h2
      · repeat (first | assumption | (with_reducible (first | apply e_nil | apply e_val | apply e_loc | apply e_cons | apply e_meth)) | exact rfl)
      · exact h22
      · exact hb2
    · exact rfl
    apply s_puti
    · repeat (first | assumption | (with_reducible (first | apply e_nil | apply e_val | apply e_loc | apply e_cons | apply e_tup | apply e_attr | apply e_bi | apply lenL)) | exact rfl)
    · repeat (first | assumption | (with_reducible (first | apply e_loc | apply e_attr)) | exact rfl)
    · apply e_item
      · repeat (first | (with_reducible apply e_loc) | exact rfl)
      · repeat (with_reducible apply e_val)
      · exact itemL (k := 0) h13 rfl
    · rw [el]; exact q
    repeat (apply s_nil)
  · exact rfl
end
end Mine
end
section
namespace Mine
open PySem
section
variable {d : Nat} {H : AH} {Γ Φ : List (Nat × AObj)} {h ic io iw : Nat} {os W : List AV}
noncomputable def fill (L : Nat) : List Nat → List AV → List AV
  | [], os => os
  | i :: r, os => fill L r (os.set i (encO (.jump L)))
theorem fill_len {L : Nat} : ∀ {r : List Nat} {os : List AV}, (fill L r os).length = os.length
  | [], _ => rfl
  | i :: r, os => by rw [fill, fill_len, List.length_set]
inductive Meet_loopR (d : Nat) (Φ : List (Nat × AObj)) (ic : Nat) (io : Nat) (iw : Nat) (W : List AV) (e2 : Nat) (L : Nat) (x1 : Option AV) (x2 : Option AV) (ts : List Nat) (k : Nat) (n : Nat) (H : AH) (os : List AV) (x3 : Option AV) : Prop where
  | mk (H' : AH) (y3 : Option AV) (zc1 : foD d f9t f9 n (.list e2 k) [some (.ref ic), x1, x2, x3] H = .ok .next [some (.ref ic), x1, x2, y3] H') (zc2 : Has H' (Cd ic io iw (fill L ts os) W Φ))
theorem meet_loop {e2 L : Nat} {T : List Nat} {x1 x2 : Option AV} (hl : (e2, AObj.list (T.map vI)) ∈ Φ) : ∀ (ts : List Nat) (k n : Nat) (H : AH) (os : List AV) (x3 : Option AV), T.drop k = ts → ts.length < n → os.length = L → (∀ i ∈ ts, i < L) → Has H (Cd ic io iw os W Φ) →
    Meet_loopR d Φ ic io iw W e2 L x1 x2 ts k n H os x3
  | [], k, n + 1, H, os, x3, ht, _, _, _, g => ⟨H, x3, fo_n (it_n (Cd.e g hl) (List.getElem?_eq_none (by simpa using ht))), g⟩
  | t :: ts, k, n + 1, H, os, x3, ht, hn, hL, hi, g => by
    have h1 : T[k]? = some t := by rw [← Nat.add_zero k, ← List.getElem?_drop, ht]; rfl
    have h3 : T.drop (k + 1) = ts := by rw [← List.drop_drop, ht]; rfl
    obtain ⟨H', y3, r1, r2⟩ := meet_loop hl ts (k + 1) n _ (os.set t (encO (.jump L))) (some (vI t)) h3 (by simpa using hn) (by rw [List.length_set]; exact hL) (fun i hm => hi i (.tail _ hm)) (Cd.ord g _)
    refine ⟨H', y3, fo_c (it_c (Cd.e g hl) (by rw [List.getElem?_map, h1]; rfl)) rfl ?_ r1, r2⟩
    have hc := Cd.c g
    have ho := Cd.o g
    subst hL
    have q := putI_nat (v := encO (.jump os.length)) ho (hi t (.head _))
    unfold f9
    apply s_puti
    · repeat (first | assumption | (with_reducible (first | apply e_nil | apply e_val | apply e_loc | apply e_cons | apply e_tup | apply e_attr | apply e_bi | apply lenL)) | exact rfl)
    · repeat (first | assumption | (with_reducible (first | apply e_loc | apply e_attr)) | exact rfl)
    · repeat (first | (with_reducible apply e_loc) | exact rfl)
    · exact q
    exact s_nil
inductive Sp9mR (d : Nat) (H : AH) (Φ : List (Nat × AObj)) (ic : Nat) (io : Nat) (iw : Nat) (os : List AV) (W : List AV) (e1 : Nat) (e2 : Nat) (x : AV) (T : List Nat) : Prop where
  | mk (H' : AH) (zc1 : Cl (d + 1) 9 [.ref ic, .str kMeet, .ref e1] H .none H') (zc2 : Has H' (Cd ic io iw (fill os.length T os) W ((e1, .list [x, .ref e2]) :: (e2, .list (T.map vI)) :: Φ)))
theorem sp9m {e1 e2 : Nat} {x : AV} {T : List Nat} (g : Has H (Cd ic io iw os W ((e1, .list [x, .ref e2]) :: (e2, .list (T.map vI)) :: Φ))) (hT : ∀ i ∈ T, i < os.length) (hz : T.length < 50000) :
    Sp9mR d H Φ ic io iw os W e1 e2 x T := by
  obtain ⟨H', y3, r1, r2⟩ := meet_loop (d := d) (x1 := some (.str kMeet)) (x2 := some (.ref e1)) (.tail _ (.head _)) T 0 NN H os none rfl (by unfold NN; lia) rfl hT g
  have h1 := Cd.e g (.head _)
  have h2 := Cd.e g (.tail _ (.head _))
  refine ⟨H', ?_, r2⟩
  apply cl_mk rfl rfl
  · unfold b9
    apply s_ifF
    · repeat (first | (with_reducible (first | apply e_val | apply e_loc | apply e_cmp)) | exact rfl)
    apply s_ifF
    · repeat (first | (with_reducible (first | apply e_val | apply e_loc | apply e_cmp)) | exact rfl)
    apply s_for
    · apply e_item
      · repeat (first | (with_reducible apply e_loc) | exact rfl)
      · repeat (with_reducible apply e_val)
      · exact itemL (k := 1) h1 rfl
    · exact it_of h2
    · exact r1
    repeat (apply s_nil)
  · exact rfl
inductive Leaf : Nd → Od → Prop where
  | one (o : On) : Leaf (.one o) (.one o)
  | ways (b : Bool) : Leaf (.ways b) (.ways b)
  | fence : Leaf .fence .fence
  | abort : Leaf .abort .abort
  | fail : Leaf .fail .fail
  | cursor (r : Nat) (key : List Nat) : Leaf (.cursor r key) (.place r key)
theorem sp6l {p : Nd} {od : Od} (l : Leaf p od) (hc : H[ic]? = some (cdO io)) (ho : H[io]? = some (.list os)) (hb : os.length < big) : Cl (d + 2) 6 [.ref ic, encN p] H (.ref (H.set io (.list (os ++ [encO od]))).length) (H.set io (.list (os ++ [encO od])) ++ [.list []]) := by
  have e4 := sp4 (d := d) (v := encO od) hc ho hb
  cases l with
  | one o =>
    induction o using Mine.On.casesOn <;> (apply cl_mk rfl rfl; (· unfold b6; repeat (first | assumption | (with_reducible (first | apply e_nil | apply e_val | apply e_loc | apply e_cons | apply e_tup | apply e_list | apply e_item | apply e_meth)) | apply s_asg | apply s_expr | apply s_ret | exact rfl | (apply s_ifF; (· repeat (first | (with_reducible (first | apply e_val | apply e_loc | apply e_cmp)) | exact rfl))) | (apply s_ifT; (· repeat (first | (with_reducible (first | apply e_val | apply e_loc | apply e_cmp)) | exact rfl))))); (· exact rfl))
  | ways b => induction b using Bool.casesOn <;> (apply cl_mk rfl rfl; (· unfold b6; repeat (first | assumption | (with_reducible (first | apply e_nil | apply e_val | apply e_loc | apply e_cons | apply e_tup | apply e_list | apply e_item | apply e_meth)) | apply s_asg | apply s_expr | apply s_ret | exact rfl | (apply s_ifF; (· repeat (first | (with_reducible (first | apply e_val | apply e_loc | apply e_cmp | apply e_one)) | exact rfl | (apply e_orF; (· repeat (first | (with_reducible (first | apply e_val | apply e_loc | apply e_cmp)) | exact rfl)))))) | (apply s_ifT; (· repeat (exact rfl))))); (· exact rfl))
  | _ => apply cl_mk rfl rfl; (· unfold b6; repeat (first | assumption | (with_reducible (first | apply e_nil | apply e_val | apply e_loc | apply e_cons | apply e_list | apply e_item | apply e_meth)) | apply s_asg | apply s_expr | apply s_ret | exact rfl | (apply s_ifF; (· repeat (first | (with_reducible (first | apply e_val | apply e_loc | apply e_cmp)) | exact rfl))))); (· exact rfl)
theorem sp6k {p : Nd} {n : Bool} {r : Nat} {key : List Nat} (hc : H[ic]? = some (cdO io)) (ho : H[io]? = some (.list os)) (hb : os.length < big) : Cl (d + 2) 6 [.ref ic, encN (if n then .later p r key else .now p r key)] H (.ref (H.set io (.list (os ++ [encO .mark]))).length) (H.set io (.list (os ++ [encO .mark])) ++ [.list [wput p, wemit (encO (if n then .name r else .set r key))]]) := by
  have e4 := sp4 (d := d) (v := encO .mark) hc ho hb
  induction n using Bool.casesOn <;> (apply cl_mk rfl rfl; (· unfold b6; repeat (first | assumption | (with_reducible (first | apply e_nil | apply e_val | apply e_loc | apply e_cons | apply e_tup | apply e_list | apply e_item | apply e_meth)) | apply s_asg | apply s_expr | apply s_ret | exact rfl | (apply s_ifF; (· repeat (first | (with_reducible (first | apply e_val | apply e_loc | apply e_cmp | apply e_one)) | exact rfl | (apply e_orF; (· repeat (first | (with_reducible (first | apply e_val | apply e_loc | apply e_cmp)) | exact rfl)))))) | (apply s_ifT; (· repeat (exact rfl))))); (· exact rfl))
theorem cp6 {il : Nat} {T : List Nd} (hl : H[il]? = some (.list (T.map encN))) : ∀ (ts : List Nd) (k n : Nat) (l : Loc) (acc : List AV), T.drop k = ts → ts.length < n → l.length = 2 → acc.length + ts.length < big →
    cpD d c6 c6t [] n (.list il k) l H acc = .ok (acc ++ ts.map wput) H
  | [], k, n + 1, l, acc, ht, _, _, _ => by
    rw [List.map_nil, List.append_nil]
    exact cg_n (it_n hl (List.getElem?_eq_none (by simpa using ht)))
  | p :: ts, k, n + 1, l, acc, ht, hn, h2, hz => by
    have h1 : T[k]? = some p := by rw [← Nat.add_zero k, ← List.getElem?_drop, ht]; rfl
    have h3 : T.drop (k + 1) = ts := by rw [← List.drop_drop, ht]; rfl
    have ih := cp6 hl ts (k + 1) n (l.set 1 (some (encN p))) (acc ++ [wput p]) h3 (by simpa using hn) (by simpa using h2) (by simp at hz ⊢; lia)
    rw [List.append_assoc] at ih
    refine cg_c (it_c hl (by rw [List.getElem?_map, h1]; rfl)) (l' := l.set 1 (some (encN p))) (by show setLoc l 1 _ = _; rw [setLoc, if_pos (by lia)]) ?_ (by simp at hz; lia) ih
    exact e_tup (e_cons e_val (e_cons (e_loc (by rw [List.getElem?_set_self (by lia)])) e_nil))
inductive Sp6cR (d : Nat) (H : AH) (Γ : List (Nat × AObj)) (Φ : List (Nat × AObj)) (h : Nat) (ic : Nat) (a : Nd) (b : Nd) : Prop where
  | mk (H' : AH) (il : Nat) (qs : List Nd) (zc1 : Cl (d + 3) 6 [.ref ic, encN (.bin true a b)] H (.ref il) H') (zc2 : Has H' ((il, .list (qs.map wput)) :: Γ)) (zc3 : (∀ p ∈ qs, G Φ h p)) (zc4 : szs qs < sz (.bin true a b))
theorem sp6c {a b : Nd} (g : Has H Γ) (hp : G Φ h (.bin true a b)) (hz : sz (.bin true a b) < 10000) : Sp6cR d H Γ Φ h ic a b := by
  obtain ⟨H1, jf, ps, r1, r2, r3, r4, _⟩ := sp0 (d := d + 1) g hp hz
  obtain ⟨H2, jq, qs, q1, q2, q3, q4⟩ := sp2 (d := d) (h := h) (Φ := Φ) r2 (.head _) (by lia) r3
  have hq := q2.hd
  have hl := len_sz qs
  have bg : big = 16777216 := rfl
  have c := cp6 (d := d + 2) hq qs 0 NN [none, none] [] rfl (by unfold NN; simp only [szs] at r4 q4; lia) rfl (by simp only [szs] at r4 q4; simp; lia)
  refine ⟨_, H2.length, qs, ?_, (q2.app (x := .list (qs.map wput))).sub (.cons₂ _ (.cons _ (.cons _ (.refl _)))), q3, by lia⟩
  apply cl_mk rfl rfl
  · unfold b6
    apply s_asg
    · repeat (first | (with_reducible (first | apply e_val | apply e_loc | apply e_item)) | exact rfl)
    · exact rfl
    apply s_ifT
    · repeat (first | (with_reducible (first | apply e_val | apply e_loc | apply e_cmp)) | exact rfl)
    apply s_ret
    apply e_comp
    · repeat (first | assumption | (with_reducible (first | apply e_nil | apply e_val | apply e_loc | apply e_cons | apply e_fn)) | exact rfl)
    · exact it_of hq
    · exact c
  · exact rfl
end
end Mine
end
section
namespace Mine
open PySem
section
variable {d : Nat} {H : AH} {Γ Φ : List (Nat × AObj)} {h ic io iw : Nat} {os W : List AV}
noncomputable abbrev rpO (os : List AV) : List AV := os ++ [encO (.split (os.length + 2)), .none, encO .mark]
theorem rp_al {p : Nd} {x y : AV} (g : Has H (Cd ic io iw os W Φ)) : Has (H ++ [.list [y]] ++ [.list [x, .ref H.length]] ++ [.list [wput p, wemit (encO .gain), wemit (.tup [.str kJump, x]), wb kMeet (H ++ [AObj.list [y]]).length]])
    (((H ++ [AObj.list [y]] ++ [AObj.list [x, .ref H.length]]).length, .list [wput p, wemit (encO .gain), wemit (.tup [.str kJump, x]), wb kMeet (H ++ [AObj.list [y]]).length]) :: Cd ic io iw os W (((H ++ [AObj.list [y]]).length, .list [x, .ref H.length]) :: (H.length, .list [y]) :: Φ)) :=
  (Cd.app (Cd.app g (.list [y])) (.list [x, .ref H.length])).app
inductive Sp8R (d : Nat) (H : AH) (Φ : List (Nat × AObj)) (ic : Nat) (io : Nat) (iw : Nat) (os : List AV) (W : List AV) (p : Nd) : Prop where
  | mk (H' : AH) (il : Nat) (e1 : Nat) (e2 : Nat) (zc1 : Cl (d + 2) 8 [.ref ic, encN p] H (.ref il) H') (zc2 : Has H' ((il, .list [wput p, wemit (encO .gain), wemit (encO (.jump os.length)), wb kMeet e1]) :: Cd ic io iw (rpO os) W ((e1, .list [vI os.length, .ref e2]) :: (e2, .list [vI (os.length + 1)]) :: Φ)))
theorem sp8 {p : Nd} (g : Has H (Cd ic io iw os W Φ)) (hb : os.length + 3 < big) : Sp8R d H Φ ic io iw os W p := by
  have l1 : (os ++ [AV.none]).length = os.length + 1 := by simp
  have l2 : (os ++ [AV.none] ++ [AV.none]).length = os.length + 2 := by simp
  have hc := Cd.c g
  have e1 := sp4 (d := d) (v := .none) hc (Cd.o g) (by lia)
  have g1 := Cd.ord g (os ++ [AV.none])
  have e2 := sp4 (d := d) (v := .none) (Cd.c g1) (Cd.o g1) (by lia)
  rw [l1] at e2
  have g2 := Cd.ord g1 (os ++ [AV.none] ++ [AV.none])
  have hc1 := Cd.c g1
  have hc2 := Cd.c g2
  have ho2 := Cd.o g2
  have q := putI_nat (v := encO (.split (os.length + 2))) ho2 (k := os.length) (by lia)
  have ln : biV ((H.set io (.list (os ++ [AV.none]))).set io (.list (os ++ [AV.none] ++ [AV.none]))) .len [.ref io] = .ok (vI (os.length + 2)) ((H.set io (.list (os ++ [AV.none]))).set io (.list (os ++ [AV.none] ++ [AV.none]))) := (lenL ho2).trans (by rw [l2])
  have g3 := Cd.ord g2 ((os ++ [AV.none] ++ [AV.none]).set os.length (encO (.split (os.length + 2))))
  have e3 := sp4 (d := d) (v := encO .mark) (Cd.c g3) (Cd.o g3) (by simp; lia)
  have g4 := Cd.ord g3 ((os ++ [AV.none] ++ [AV.none]).set os.length (encO (.split (os.length + 2))) ++ [encO .mark])
  have eo : (os ++ [AV.none] ++ [AV.none]).set os.length (encO (.split (os.length + 2))) ++ [encO .mark] = rpO os := by
    rw [List.append_assoc, List.set_append_right _ _ (Nat.le_refl _)]; simp
  have hc3 := Cd.c g3
  rw [eo] at g4 e3
  refine ⟨_, _, _, _, ?_, rp_al (x := vI os.length) (y := vI (os.length + 1)) g4⟩
  apply cl_mk rfl rfl
  · unfold b8
    apply s_asg
    · repeat (first | assumption | (with_reducible (first | apply e_nil | apply e_val | apply e_loc | apply e_cons | apply e_meth)) | exact rfl)
    · exact rfl
    apply s_asg
    · repeat (first | assumption | (with_reducible (first | apply e_nil | apply e_val | apply e_loc | apply e_cons | apply e_meth)) | exact rfl)
    · exact rfl
    apply s_puti
    · repeat (first | assumption | (with_reducible (first | apply e_nil | apply e_val | apply e_loc | apply e_cons | apply e_tup | apply e_attr | apply e_bi)) | exact rfl)
    · repeat (first | assumption | (with_reducible (first | apply e_loc | apply e_attr)) | exact rfl)
    · repeat (first | (with_reducible apply e_loc) | exact rfl)
    · exact q
    repeat (first | assumption | (with_reducible (first | apply e_nil | apply e_val | apply e_loc | apply e_cons | apply e_tup | apply e_list | apply e_meth)) | apply s_expr | apply s_ret | exact rfl)
  · exact rfl
theorem slLast {i : Nat} {l : List AV} {x : AV} (g : H[i]? = some (.list (l ++ [x]))) : sliceV H (.ref i) .none (.int (((l ++ [x]).length : Int) - 1)) .none = .ok (.ref H.length) (H ++ [.list l]) := by
  have e : (((l ++ [x]).length : Nat) : Int) - 1 = ((l.length : Nat) : Int) := by simp
  rw [e, slT g, List.take_left]
noncomputable abbrev trio (e1 : Nat) (p : Nd) : List AV := [wb kOpen e1, wput p, wb kShut e1]
inductive Ch_loopR (d : Nat) (Γ : List (Nat × AObj)) (jq : Nat) (jf : Nat) (e1 : Nat) (x0 : Option AV) (x1 : Option AV) (ts : List Nd) (k : Nat) (n : Nat) (H : AH) (acc : List AV) (x4 : Option AV) : Prop where
  | mk (H' : AH) (y4 : Option AV) (zc1 : foD d f7t f7 n (.list jq k) [x0, x1, some (.ref jf), some (.ref e1), x4] H = .ok .next [x0, x1, some (.ref jf), some (.ref e1), y4] H') (zc2 : Has H' ((jf, .list (acc ++ ts.flatMap (trio e1))) :: Γ))
theorem ch_loop {jq jf e1 : Nat} {T : List Nd} {x0 x1 : Option AV} (hl : (jq, AObj.list (T.map encN)) ∈ Γ) : ∀ (ts : List Nd) (k n : Nat) (H : AH) (acc : List AV) (x4 : Option AV), T.drop k = ts → ts.length < n → acc.length + 3 * ts.length < big → Has H ((jf, .list acc) :: Γ) →
    Ch_loopR d Γ jq jf e1 x0 x1 ts k n H acc x4
  | [], k, n + 1, H, acc, x4, ht, _, _, g => ⟨H, x4, fo_n (it_n (g.at_ _ (.tail _ hl)) (List.getElem?_eq_none (by simpa using ht))), by simpa using g⟩
  | t :: ts, k, n + 1, H, acc, x4, ht, hn, hz, g => by
    have h1 : T[k]? = some t := by rw [← Nat.add_zero k, ← List.getElem?_drop, ht]; rfl
    have h3 : T.drop (k + 1) = ts := by rw [← List.drop_drop, ht]; rfl
    have gj := g.hd
    have g2 := Has.set (Γ := []) (y := .list (acc ++ trio e1 t)) ((g.app (x := .list (trio e1 t))).swap)
    obtain ⟨H', y4, r1, r2⟩ := ch_loop hl ts (k + 1) n _ (acc ++ trio e1 t) (some (encN t)) h3 (by simpa using hn) (by simp at hz ⊢; lia) (g2.sub (.cons₂ _ (.cons _ (.refl _))))
    refine ⟨H', y4, fo_c (it_c (g.at_ _ (.tail _ hl)) (by rw [List.getElem?_map, h1]; rfl)) rfl ?_ r1, by rw [List.flatMap_cons, ← List.append_assoc]; exact r2⟩
    unfold f7
    apply s_expr
    · apply e_lm
      · repeat (first | (with_reducible apply e_loc) | exact rfl)
      · exact gj
      · exact rfl
      · repeat (first | (with_reducible (first | apply e_nil | apply e_val | apply e_loc | apply e_cons | apply e_tup | apply e_list)) | exact rfl)
      · exact gA gj
      · exact extL gE (by simp at hz ⊢; lia)
    · exact rfl
    exact s_nil
theorem trio_len {e1 : Nat} : ∀ ps : List Nd, (ps.flatMap (trio e1)).length = 3 * ps.length
  | [] => rfl
  | p :: ps => by rw [List.flatMap_cons, List.length_append, trio_len ps]; simp; lia
inductive Sp7R (d : Nat) (H : AH) (Γ : List (Nat × AObj)) (ic : Nat) (jp : Nat) (ps : List Nd) (q : Nd) : Prop where
  | mk (H' : AH) (il : Nat) (e1 : Nat) (e2 : Nat) (zc1 : Cl (d + 1) 7 [.ref ic, .ref jp] H (.ref il) H') (zc2 : Has H' ((il, .list (ps.flatMap (trio e1) ++ [wput q, wb kMeet e1])) :: (e1, .list [.int (-1), .ref e2]) :: (e2, .list []) :: Γ))
theorem sp7 {jp : Nat} {ps : List Nd} {q : Nd} (g : Has H Γ) (hl : (jp, AObj.list ((ps ++ [q]).map encN)) ∈ Γ) (hz : ps.length < 10000) : Sp7R d H Γ ic jp ps q := by
  rw [List.map_append] at hl
  have bg : big = 16777216 := rfl
  have g0 := g.at_ _ hl
  have g1 := ((g.app (x := .list [])).app (x := .list [])).app (x := .list [.int (-1), .ref (H ++ [AObj.list []]).length])
  have g2 := g1.app (x := .list (ps.map encN))
  obtain ⟨H', y4, r1, r2⟩ := ch_loop (d := d) (Γ := _ :: _ :: _ :: Γ) (x0 := some (.ref ic)) (x1 := some (.ref jp)) (jf := H.length) (e1 := (H ++ [AObj.list []] ++ [AObj.list []]).length) (.head _) ps 0 NN _ [] none rfl (by unfold NN; lia) (by simp; lia) (g2.perm (List.perm_middle (l₁ := [_, _, _])))
  have fl := trio_len (e1 := (H ++ [AObj.list []] ++ [AObj.list []]).length) ps
  have hp := r2.at_ _ (.tail _ (.tail _ (.tail _ (.tail _ hl))))
  have hf := r2.hd
  rw [List.nil_append] at hf
  have g3 := (r2.app (x := .list [wput q, wb kMeet (H ++ [AObj.list []] ++ [AObj.list []]).length])).app (x := .list (ps.flatMap (trio (H ++ [AObj.list []] ++ [AObj.list []]).length) ++ [wput q, wb kMeet (H ++ [AObj.list []] ++ [AObj.list []]).length]))
  refine ⟨_, _, _, _, ?_, g3.sub (.cons₂ _ (.cons _ (.cons _ (.cons _ (.refl _)))))⟩
  apply cl_mk rfl rfl
  · unfold b7
    apply s_tup
    · repeat (with_reducible (first | apply e_nil | apply e_val | apply e_cons | apply e_tup | apply e_list | apply e_neg))
    · exact rfl
    · exact rfl
    apply s_for
    · repeat (first | assumption | (with_reducible (first | apply e_nil | apply e_val | apply e_loc | apply e_cons | apply e_slice | apply e_bin | apply e_bi | apply lenL | apply gA)) | exact rfl)
      exact slLast (gA (gA (gA g0)))
    · exact it_of gE
    · exact r1
    apply s_ret
    repeat (first | assumption | (with_reducible (first | apply e_nil | apply e_val | apply e_loc | apply e_cons | apply e_tup | apply e_list | apply e_item | apply e_bin | apply e_bi | apply lenL)) | exact rfl)
    · exact itemLast hp
    repeat (first | (with_reducible (first | apply e_nil | apply e_val | apply e_loc | apply e_cons | apply e_tup)) | exact rfl)
    exact binL (gA hf) gE (by rw [fl]; simp; lia)
  · exact rfl
end
end Mine
end
section
namespace Mine
open PySem
noncomputable def plainO (Ψ : List (Nat × AObj)) : Od → Prop
  | .one _ => True
  | .ways _ => True
  | .fence => True
  | .fail => True
  | .abort => True
  | .place r key => (r, nrObj key) ∈ Ψ
  | _ => False
inductive Sg (Ψ : List (Nat × AObj)) : Nat → Nat → List Od → Prop where
  | nil {h b : Nat} : Sg Ψ h b []
  | one {h b : Nat} {o : Od} (p : plainO Ψ o) : Sg Ψ h b [o]
  | app {h b : Nat} {s t : List Od} (x : Sg Ψ h b s) (y : Sg Ψ h (b + s.length) t) : Sg Ψ h b (s ++ t)
  | keep {h b : Nat} {s : List Od} {n : Bool} {r : Nat} {key : List Nat} (k : (r, nrObj key) ∈ Ψ) (x : Sg Ψ h (b + 1) s) : Sg Ψ (h + 1) b (.mark :: (s ++ [if n then .name r else .set r key]))
  | rep {h b : Nat} {s : List Od} (x : Sg Ψ h (b + 3) s) : Sg Ψ (h + 1) b (.split (b + 2) :: .jump (b + s.length + 5) :: .mark :: (s ++ [.gain, .jump b]))
  | alt {h b : Nat} {s t : List Od} (x : Sg Ψ h (b + 1) s) (y : Sg Ψ h (b + s.length + 2) t) : Sg Ψ h b (.split (b + s.length + 2) :: (s ++ .jump (b + s.length + 2 + t.length) :: t))
section
variable {d : Nat} {H H' : AH} {Γ Φ Ψ : List (Nat × AObj)} {h ic io iw c : Nat} {os W : List AV} {x1 : Option AV} {p : Nd}
noncomputable def Rn (d ic iw : Nat) (x1 : Option AV) (c : Nat) (H H' : AH) : Prop := ∀ y3 y4, ∃ z3 z4, ∀ n, whD d w5c w5 (c + n) [some (.ref ic), x1, some (.ref iw), y3, y4] H = whD d w5c w5 n [some (.ref ic), x1, some (.ref iw), z3, z4] H'
theorem Rn.refl : Rn d ic iw x1 0 H H := fun y3 y4 => ⟨y3, y4, fun n => by rw [Nat.zero_add]⟩
theorem Rn.trans {H2 : AH} {c2 : Nat} (a : Rn d ic iw x1 c H H') (b : Rn d ic iw x1 c2 H' H2) : Rn d ic iw x1 (c + c2) H H2 := fun y3 y4 => by
  obtain ⟨z3, z4, e⟩ := a y3 y4
  obtain ⟨u3, u4, f⟩ := b z3 z4
  exact ⟨u3, u4, fun n => by rw [Nat.add_assoc, e, f]⟩
theorem rn_pop {k v : AV} (g : Has H (Cd ic io iw os (W ++ [.tup [k, v]]) Φ)) {H2 : AH} (hb : Es d [some (.ref ic), x1, some (.ref iw), some k, some v] (H.set iw (.list W)) (w5.drop 1) (.ok .next [some (.ref ic), x1, some (.ref iw), some k, some v] H2)) : Rn d ic iw x1 1 H H2 := fun y3 y4 => ⟨some k, some v, fun n => by
  have hw := Cd.w g
  rw [Nat.add_comm]
  refine wh_t (H1 := H) ?_ ?_ rfl
  · unfold w5c; repeat (first | assumption | (with_reducible (first | apply e_nil | apply e_val | apply e_loc | apply e_cons | apply e_cmp | apply e_bi | apply lenL)) | exact rfl)
    exact c_gt (by simp <;> lia)
  · unfold w5
    apply s_tup
    · apply e_lm
      · repeat (first | (with_reducible apply e_loc) | exact rfl)
      · exact hw
      · exact rfl
      · repeat (with_reducible apply e_nil)
      · exact hw
      · exact popL
    · exact rfl
    · exact rfl
    exact hb⟩
inductive Rn_emitR (d : Nat) (H : AH) (Φ : List (Nat × AObj)) (ic : Nat) (io : Nat) (iw : Nat) (os : List AV) (W : List AV) (x1 : Option AV) (v : AV) : Prop where
  | mk (H' : AH) (zc1 : Rn (d + 1) ic iw x1 1 H H') (zc2 : Has H' (Cd ic io iw (os ++ [v]) W Φ))
theorem rn_emit {v : AV} (g : Has H (Cd ic io iw os (W ++ [wemit v]) Φ)) (hb : os.length < big) : Rn_emitR d H Φ ic io iw os W x1 v := by
  have g1 := Cd.wai g W
  have hc := Cd.c g1
  have e4 := sp4 (d := d) (v := v) hc (Cd.o g1) hb
  refine ⟨_, rn_pop g ?_, Cd.ord g1 _⟩
  show Es _ _ _ (w5.drop 1) _
  unfold w5
  repeat (first | assumption | (with_reducible (first | apply e_nil | apply e_loc | apply e_cons | apply e_meth)) | apply s_expr | apply s_nil | exact rfl | (apply s_ifF; (· repeat (first | (with_reducible (first | apply e_val | apply e_loc | apply e_cmp)) | exact rfl))) | (apply s_ifT; (· repeat (first | (with_reducible (first | apply e_val | apply e_loc | apply e_cmp)) | exact rfl))))
inductive Rn_putR (d : Nat) (H : AH) (ic : Nat) (io : Nat) (iw : Nat) (W : List AV) (x1 : Option AV) (os' : List AV) (items : List AV) (Φ' : List (Nat × AObj)) : Prop where
  | mk (H' : AH) (zc1 : Rn d ic iw x1 1 H H') (zc2 : Has H' (Cd ic io iw os' (W ++ items.reverse) Φ'))
theorem rn_put {H2 : AH} {il : Nat} {os' items : List AV} {Φ' : List (Nat × AObj)} (g : Has H (Cd ic io iw os (W ++ [wput p]) Φ)) (e : Cl d 6 [.ref ic, encN p] (H.set iw (.list W)) (.ref il) H2) (g2 : Has H2 ((il, .list items) :: Cd ic io iw os' W Φ')) (hb : W.length + items.length < big) :
    Rn_putR d H ic io iw W x1 os' items Φ' := by
  have g1 := Cd.wai g W
  have hc := Cd.c g1
  have hw := Cd.w g1
  have hl := g2.hd
  have g3 := Cd.app g2.tl (.list items.reverse)
  have hw3 := Cd.w g3
  have g4 := Cd.wai g3 (W ++ items.reverse)
  have q : sliceV H2 (.ref il) .none .none (.int (-1)) = .ok (.ref H2.length) (H2 ++ [.list items.reverse]) := by
    show (match H2[il]? with | some (.list l) => Out.ok (AV.ref H2.length) (H2 ++ [AObj.list (SK.rev.ap l)]) | _ => .bad) = _
    rw [hl]; rfl
  refine ⟨_, rn_pop g ?_, g4.sub (.cons₂ _ (.cons₂ _ (.cons₂ _ (.cons _ (.refl _)))))⟩
  show Es _ _ _ (w5.drop 1) _
  unfold w5
  apply s_ifT
  · repeat (first | (with_reducible (first | apply e_val | apply e_loc | apply e_cmp)) | exact rfl)
  apply s_expr
  · apply e_lm
    · repeat (first | (with_reducible apply e_loc) | exact rfl)
    · exact hw
    · exact rfl
    · repeat (first | assumption | (with_reducible (first | apply e_nil | apply e_val | apply e_loc | apply e_cons | apply e_slice | apply e_neg | apply e_meth)) | exact rfl)
    · exact hw3
    · exact extL gE (by simpa using hb)
  · exact rfl
  exact s_nil
theorem rn_bound {H2 : AH} {k : List Nat} {e1 : Nat} (hk : k = kOpen ∨ k = kShut ∨ k = kMeet) (g : Has H (Cd ic io iw os (W ++ [wb k e1]) Φ)) (e : Cl d 9 [.ref ic, .str k, .ref e1] (H.set iw (.list W)) .none H2) : Rn d ic iw x1 1 H H2 := by
  have g1 := Cd.wai g W
  have hc := Cd.c g1
  refine rn_pop g ?_
  show Es _ _ _ (w5.drop 1) _
  rcases hk with rfl | rfl | rfl <;> (unfold w5; repeat (first | assumption | (with_reducible (first | apply e_nil | apply e_loc | apply e_cons | apply e_meth)) | apply s_expr | apply s_nil | exact rfl | (apply s_ifF; (· repeat (first | (with_reducible (first | apply e_val | apply e_loc | apply e_cmp)) | exact rfl)))))
end
end Mine
end
section
namespace Mine
open PySem
section
variable {d : Nat} {H H' : AH} {Γ Φ Ψ : List (Nat × AObj)} {h ic io iw c : Nat} {os W : List AV} {x1 : Option AV} {p : Nd}
theorem sp6r {il : Nat} (e : Cl (d + 2) 8 [.ref ic, encN p] H (.ref il) H') (hc : H[ic]? = some (cdO io)) : Cl (d + 3) 6 [.ref ic, encN (.arbno p)] H (.ref il) H' := by
  apply cl_mk rfl rfl
  · unfold b6; repeat (first | assumption | (with_reducible (first | apply e_nil | apply e_val | apply e_loc | apply e_cons | apply e_item | apply e_meth)) | apply s_asg | apply s_ret | exact rfl | (apply s_ifF; (· repeat (first | (with_reducible (first | apply e_val | apply e_loc | apply e_cmp)) | exact rfl))) | (apply s_ifT; (· repeat (first | (with_reducible (first | apply e_val | apply e_loc | apply e_cmp)) | exact rfl))))
  · exact rfl
inductive Sp6aR (d : Nat) (H : AH) (Γ : List (Nat × AObj)) (Ψ : List (Nat × AObj)) (h : Nat) (ic : Nat) (a : Nd) (b : Nd) : Prop where
  | mk (H' : AH) (il : Nat) (e1 : Nat) (e2 : Nat) (ps : List Nd) (q : Nd) (zc1 : Cl (d + 2) 6 [.ref ic, encN (.bin false a b)] H (.ref il) H') (zc2 : Has H' ((il, .list (ps.flatMap (trio e1) ++ [wput q, wb kMeet e1])) :: (e1, .list [.int (-1), .ref e2]) :: (e2, .list []) :: Γ)) (zc3 : (∀ p ∈ ps ++ [q], G Ψ h p)) (zc4 : szs (ps ++ [q]) < sz (.bin false a b))
theorem sp6a {a b : Nd} (g : Has H Γ) (hc : H[ic]? = some (cdO io)) (hic : (ic, cdO io) ∈ Γ) (hp : G Ψ h (.bin false a b)) (hz : sz (.bin false a b) < 10000) : Sp6aR d H Γ Ψ h ic a b := by
  obtain ⟨H1, jf, ps, r1, r2, r3, r4, r5⟩ := sp0 (d := d) g hp hz
  rcases List.eq_nil_or_concat ps with rfl | ⟨ps, q, rfl⟩
  · exact absurd rfl r5
  · rw [List.concat_eq_append] at r2 r3 r4
    have hl := len_sz (ps ++ [q])
    have hl1 : (ps ++ [q]).length = ps.length + 1 := by simp
    obtain ⟨H2, il, e1, e2, q1, q2⟩ := sp7 (d := d) (ic := ic) r2 (.head _) (by simp only [szs] at r4; lia)
    refine ⟨H2, il, e1, e2, ps, q, ?_, q2.sub (.cons₂ _ (.cons₂ _ (.cons₂ _ (.cons _ (.refl _))))), r3, r4⟩
    have hc1 := r2.at_ _ (.tail _ hic)
    apply cl_mk rfl rfl
    · unfold b6
      apply s_asg
      · repeat (first | (with_reducible (first | apply e_val | apply e_loc | apply e_item)) | exact rfl)
      · exact rfl
      apply s_ifF
      · repeat (first | (with_reducible (first | apply e_val | apply e_loc | apply e_cmp)) | exact rfl)
      apply s_ifT
      · repeat (first | (with_reducible (first | apply e_val | apply e_loc | apply e_cmp)) | exact rfl)
      repeat (first | assumption | (with_reducible (first | apply e_nil | apply e_val | apply e_loc | apply e_cons | apply e_fn | apply e_meth)) | apply s_ret | exact rfl)
    · exact rfl
theorem fill_left {L : Nat} : ∀ {r : List Nat} {os t : List AV}, (∀ i ∈ r, i < os.length) → fill L r (os ++ t) = fill L r os ++ t
  | [], _, _, _ => rfl
  | i :: r, os, t, hi => by
    show fill L r ((os ++ t).set i _) = _
    rw [List.set_append_left _ _ (hi i (.head _)), fill_left fun j hj => by rw [List.length_set]; exact hi j (.tail _ hj)]; rfl
theorem fill_snoc {L j : Nat} : ∀ {r : List Nat} {os : List AV}, fill L (r ++ [j]) os = (fill L r os).set j (encO (.jump L))
  | [], _ => rfl
  | i :: r, os => fill_snoc (r := r)
inductive Put (d ic io iw : Nat) (x1 : Option AV) (Ψ : List (Nat × AObj)) (h m : Nat) (H : AH) (os W : List AV) (Φ : List (Nat × AObj)) : Prop where
  | mk (H' : AH) (c : Nat) (seg : List Od) (z1 : Rn d ic iw x1 c H H') (z2 : Has H' (Cd ic io iw (os ++ seg.map encO) W Φ)) (z3 : Sg Ψ h os.length seg) (z4 : seg.length ≤ m) (z5 : c ≤ m) : Put d ic io iw x1 Ψ h m H os W Φ
noncomputable def PutN (d ic io iw : Nat) (x1 : Option AV) (Ψ : List (Nat × AObj)) (N : Nat) : Prop := ∀ h p H os W Φ, sz p ≤ N → G Ψ h p → os.length + 8 * sz p ≤ 60000 → W.length + 8 * sz p ≤ 60000 → Has H (Cd ic io iw os (W ++ [wput p]) Φ) → Put d ic io iw x1 Ψ h (8 * sz p - 3) H os W Φ
theorem puts {N : Nat} (ih : PutN d ic io iw x1 Ψ N) : ∀ (qs : List Nd) (H : AH) (os : List AV), szs qs ≤ N → (∀ q ∈ qs, G Ψ h q) → os.length + 8 * szs qs ≤ 60000 → W.length + 8 * szs qs ≤ 60000 → Has H (Cd ic io iw os (W ++ (qs.map wput).reverse) Φ) → Put d ic io iw x1 Ψ h (8 * szs qs) H os W Φ
  | [], H, os, _, _, _, _, g => ⟨H, 0, [], .refl, by simpa using g, .nil, Nat.zero_le _, Nat.zero_le _⟩
  | q :: qs, H, os, hn, hG, ho, hw, g => by
    have hs : szs (q :: qs) = sz q + szs qs := by simp [szs]
    have hl := len_sz qs
    rw [hs] at hn ho hw ⊢
    rw [List.map_cons, List.reverse_cons, ← List.append_assoc] at g
    obtain ⟨H1, c1, s1, r1, r2, r3, r4, r5⟩ := ih h q H os _ Φ (by lia) (hG q (.head _)) (by lia) (by simp only [szs] at hw; simp; lia) g
    obtain ⟨H2, c2, s2, q1, q2, q3, q4, q5⟩ := puts ih qs H1 (os ++ s1.map encO) (by lia) (fun x hx => hG x (.tail _ hx)) (by simp; lia) (by lia) r2
    refine ⟨H2, c1 + c2, s1 ++ s2, r1.trans q1, by rw [List.map_append, ← List.append_assoc]; exact q2, .app r3 (by simpa using q3), by simp; lia, by lia⟩
theorem sap {l : List Nd} {p : Nd} : szs (p :: l) = sz p + szs l := by simp [szs]
inductive AltsR (d : Nat) (Φ : List (Nat × AObj)) (Ψ : List (Nat × AObj)) (h : Nat) (ic : Nat) (io : Nat) (iw : Nat) (W : List AV) (x1 : Option AV) (q : Nd) (ps : List Nd) (H : AH) (os : List AV) (hs : List Nat) : Prop where
  | mk (H' : AH) (c : Nat) (seg : List Od) (zc1 : Rn (d + 3) ic iw x1 c H H') (zc2 : Has H' (Cd ic io iw (fill (os.length + seg.length) hs os ++ seg.map encO) W Φ)) (zc3 : Sg Ψ h os.length seg) (zc4 : seg.length ≤ 8 * szs (ps ++ [q])) (zc5 : c ≤ 8 * szs (ps ++ [q]))
theorem alts {N e1 e2 : Nat} {q : Nd} (ih : PutN (d + 3) ic io iw x1 Ψ N) : ∀ (ps : List Nd) (H : AH) (os : List AV) (hs : List Nat) (x : AV), szs (ps ++ [q]) ≤ N → (∀ p ∈ ps ++ [q], G Ψ h p) → os.length + 8 * szs (ps ++ [q]) ≤ 60000 → W.length + 1 + 8 * szs (ps ++ [q]) ≤ 60000 → hs.length + ps.length < 50000 → (∀ i ∈ hs, i < os.length) →
    Has H (Cd ic io iw os (W ++ (ps.flatMap (trio e1) ++ [wput q, wb kMeet e1]).reverse) ((e1, .list [x, .ref e2]) :: (e2, .list (hs.map vI)) :: Φ)) →
    AltsR d Φ Ψ h ic io iw W x1 q ps H os hs
  | [], H, os, hs, x, hn, hG, ho, hw, hz, hh, g => by
    have hs1 : szs ([] ++ [q]) = sz q := by simp [szs]
    rw [hs1] at hn ho hw
    have hp1 := sz_pos q
    rw [show (([] : List Nd).flatMap (trio e1) ++ [wput q, wb kMeet e1]).reverse = [wb kMeet e1] ++ [wput q] from rfl, ← List.append_assoc] at g
    obtain ⟨H1, c1, s1, r1, r2, r3, r4, r5⟩ := ih h q H os _ _ hn (hG q (.head _)) ho (by simp; lia) g
    obtain ⟨H2, q1, q2⟩ := sp9m (d := d + 2) (Cd.wai r2 W) (fun i hi => by have := hh i hi; simp; lia) (by lia)
    refine ⟨H2, c1 + 1, s1, r1.trans (rn_bound (.inr (.inr rfl)) r2 q1), ?_, r3, by lia, by lia⟩
    have q3 := q2.sub (.cons₂ _ (.cons₂ _ (.cons₂ _ (.cons _ (.cons _ (.refl _))))))
    rw [fill_left hh] at q3
    simpa using q3
  | p :: ps, H, os, hs, x, hn, hG, ho, hw, hz, hh, g => by
    have hs1 : szs ((p :: ps) ++ [q]) = sz p + szs (ps ++ [q]) := sap
    rw [hs1] at hn ho hw
    have hp1 := sz_pos p
    have hpl := len_sz (ps ++ [q])
    have hl1 : (ps ++ [q]).length = ps.length + 1 := by simp
    have bg : big = 16777216 := rfl
    have hrl : ((ps.flatMap (trio e1) ++ [wput q, wb kMeet e1]).reverse).length = 3 * ps.length + 2 := by rw [List.length_reverse, List.length_append, trio_len]; rfl
    rw [show ((p :: ps).flatMap (trio e1) ++ [wput q, wb kMeet e1]).reverse = (ps.flatMap (trio e1) ++ [wput q, wb kMeet e1]).reverse ++ [wb kShut e1] ++ [wput p] ++ [wb kOpen e1] by rw [List.flatMap_cons, List.append_assoc, List.reverse_append]; show _ ++ [wb kShut e1, wput p, wb kOpen e1] = _; simp only [List.append_assoc, List.cons_append, List.nil_append], ← List.append_assoc, ← List.append_assoc, ← List.append_assoc] at g
    generalize hR : (ps.flatMap (trio e1) ++ [wput q, wb kMeet e1]).reverse = R at g hrl
    simp only [szs] at hw ho hn
    obtain ⟨H1, a1, a2⟩ := sp9o (d := d + 1) (Cd.wai g (W ++ R ++ [wb kShut e1] ++ [wput p])) (by lia)
    have b1 := rn_bound (x1 := x1) (.inl rfl) g a1
    obtain ⟨H2, c1, s1, r1, r2, r3, r4, r5⟩ := ih h p H1 (os ++ [.none]) (W ++ R ++ [wb kShut e1]) _ (by lia) (hG p (.head _)) (by rw [List.length_append]; simp only [List.length_singleton]; lia) (by rw [List.length_append, List.length_append, hrl]; simp only [List.length_singleton]; lia) a2
    have hol : (os ++ [AV.none] ++ s1.map encO).length = os.length + 1 + s1.length := by simp; lia
    obtain ⟨H3, q1, q2⟩ := sp9s (d := d + 1) (Cd.wai r2 (W ++ R)) (by lia) (by simp; lia) (by lia)
    have b3 := rn_bound (x1 := x1) (.inr (.inl rfl)) r2 q1
    have ef : ((os ++ [AV.none] ++ s1.map encO) ++ [AV.none]).set os.length (encO (.split ((os ++ [AV.none] ++ s1.map encO).length + 1))) = os ++ ([encO (.split (os.length + s1.length + 2))] ++ (s1.map encO ++ [AV.none])) := by
      rw [hol, List.append_assoc, List.append_assoc, List.set_append_right _ _ (Nat.le_refl _), Nat.sub_self, show os.length + 1 + s1.length + 1 = os.length + s1.length + 2 by lia]; rfl
    rw [ef, show hs.map vI ++ [vI (os ++ [AV.none] ++ s1.map encO).length] = (hs ++ [os.length + 1 + s1.length]).map vI by rw [hol, List.map_append]; rfl] at q2
    have hol2 : (os ++ ([encO (.split (os.length + s1.length + 2))] ++ (s1.map encO ++ [AV.none]))).length = os.length + s1.length + 2 := by simp; lia
    rw [← hR] at q2
    obtain ⟨H4, c2, s2, t1, t2, t3, t4, t5⟩ := alts ih ps H3 _ (hs ++ [os.length + 1 + s1.length]) _ (by simp only [szs]; lia) (fun y hy => hG y (.tail _ hy)) (by rw [hol2]; simp only [szs]; lia) (by simp only [szs]; lia) (by simp at hz ⊢; lia) (fun i hi => by
      rw [hol2]
      rcases List.mem_append.mp hi with hi | hi
      · have := hh i hi; lia
      · obtain rfl := List.mem_singleton.mp hi; lia) q2
    rw [hol2] at t2 t3
    refine ⟨H4, 1 + c1 + 1 + c2, .split (os.length + s1.length + 2) :: (s1 ++ .jump (os.length + s1.length + 2 + s2.length) :: s2), ((b1.trans r1).trans b3).trans t1, ?_, .alt (by simpa using r3) t3, by rw [hs1]; simp; lia, by rw [hs1]; lia⟩
    have eL : os.length + (Od.split (os.length + s1.length + 2) :: (s1 ++ .jump (os.length + s1.length + 2 + s2.length) :: s2)).length = os.length + s1.length + 2 + s2.length := by simp; lia
    rw [eL]
    rw [fill_snoc, fill_left hh, List.set_append_right _ _ (by rw [fill_len]; lia), fill_len, show os.length + 1 + s1.length - os.length = s1.length + 1 by lia] at t2
    have es : ([encO (.split (os.length + s1.length + 2))] ++ (s1.map encO ++ [AV.none])).set (s1.length + 1) (encO (.jump (os.length + s1.length + 2 + s2.length))) = [encO (.split (os.length + s1.length + 2))] ++ (s1.map encO ++ [encO (.jump (os.length + s1.length + 2 + s2.length))]) := by
      show _ :: (s1.map encO ++ [AV.none]).set s1.length _ = _
      rw [List.set_append_right _ _ (by simp)]; simp
    rw [es] at t2
    simpa [List.map_append] using t2
theorem put_leaf {od : Od} (ho : os.length + 8 * sz p ≤ 60000) (hw : W.length + 8 * sz p ≤ 60000) (g : Has H (Cd ic io iw os (W ++ [wput p]) Φ)) (l : Leaf p od) (hp : plainO Ψ od) : Put (d + 3) ic io iw x1 Ψ h (8 * sz p - 3) H os W Φ := by
  have bg : big = 16777216 := rfl
  have hp1 := sz_pos p
  have g1 := Cd.wai g W
  have hc := Cd.c g1
  have ho1 := Cd.o g1
  obtain ⟨H', r, k⟩ := rn_put (x1 := x1) g (sp6l (d := d + 1) l hc ho1 (by lia)) ((Cd.ord g1 _).app) (by simp; lia)
  exact ⟨H', 1, [_], r, by simpa using k, .one hp, by simp; lia, by lia⟩
theorem put_kept {N : Nat} (ih : PutN (d + 3) ic io iw x1 Ψ N) {n : Bool} {a : Nd} {r : Nat} {key : List Nat} (hn : sz p ≤ N + 1) (ho : os.length + 8 * sz p ≤ 60000) (hw : W.length + 8 * sz p ≤ 60000) (g : Has H (Cd ic io iw os (W ++ [wput p]) Φ)) (e : p = (if n then .later a r key else .now a r key)) (hs : sz p = sz a + 1) (hN : NdOk Ψ a) (hh : hm a + 1 ≤ h) (hk : (r, nrObj key) ∈ Ψ) : Put (d + 3) ic io iw x1 Ψ h (8 * sz p - 3) H os W Φ := by
  have bg : big = 16777216 := rfl
  have hp1 := sz_pos p
  have g1 := Cd.wai g W
  have hc := Cd.c g1
  have ho1 := Cd.o g1
  have ha1 := sz_pos a
  obtain ⟨h', rfl⟩ : ∃ k, h = k + 1 := ⟨h - 1, by lia⟩
  subst e
  obtain ⟨H1, r1, k1⟩ := rn_put (x1 := x1) g (sp6k (d := d + 1) (n := n) hc ho1 (by lia)) ((Cd.ord g1 _).app) (by simp; lia)
  rw [show [wput a, wemit (encO (if n = true then .name r else .set r key))].reverse = [wemit (encO (if n = true then .name r else .set r key))] ++ [wput a] from rfl, ← List.append_assoc] at k1
  obtain ⟨H2, c2, s, r2, k2, z2, l2, m2⟩ := ih h' a H1 _ _ _ (by lia) ⟨hN, by lia⟩ (by simp; lia) (by simp; lia) k1
  obtain ⟨H3, r3, k3⟩ := rn_emit (d := d + 2) (x1 := x1) k2 (by simp; lia)
  refine ⟨H3, 1 + c2 + 1, _, (r1.trans r2).trans r3, ?_, .keep (n := n) hk (by simpa using z2), by simp; lia, by lia⟩
  simpa using k3
theorem put_arbno {N : Nat} (ih : PutN (d + 3) ic io iw x1 Ψ N) {a : Nd} (hn : sz (.arbno a) ≤ N + 1) (hG : G Ψ h (.arbno a)) (ho : os.length + 8 * sz (.arbno a) ≤ 60000) (hw : W.length + 8 * sz (.arbno a) ≤ 60000) (g : Has H (Cd ic io iw os (W ++ [wput (.arbno a)]) Φ)) : Put (d + 3) ic io iw x1 Ψ h (8 * sz (.arbno a) - 3) H os W Φ := by
  have bg : big = 16777216 := rfl
  have hp1 := sz_pos (.arbno a)
  have g1 := Cd.wai g W
  have hc := Cd.c g1
  have ho1 := Cd.o g1
  have ha1 := sz_pos a
  obtain ⟨h', rfl⟩ : ∃ k, h = k + 1 := ⟨h - 1, by have : hm a + 1 ≤ h := hG.2; lia⟩
  simp only [sz] at hn ho hw ⊢
  obtain ⟨H0, il, e1, e2, a1, a2⟩ := sp8 (d := d) (p := a) g1 (by lia)
  obtain ⟨H1, r1, k1⟩ := rn_put (x1 := x1) g (sp6r a1 hc) a2 (by simp; lia)
  rw [show [wput a, wemit (encO .gain), wemit (encO (.jump os.length)), wb kMeet e1].reverse = [wb kMeet e1] ++ [wemit (encO (.jump os.length))] ++ [wemit (encO .gain)] ++ [wput a] from rfl, ← List.append_assoc, ← List.append_assoc, ← List.append_assoc] at k1
  have lr : (rpO os).length = os.length + 3 := by simp
  obtain ⟨H2, c2, s, r2, k2, z2, l2, m2⟩ := ih h' a H1 _ _ _ (by lia) ⟨hG.1, by have : hm a + 1 ≤ h' + 1 := hG.2; lia⟩ (by rw [lr]; lia) (by simp; lia) k1
  have lr2 : (rpO os ++ s.map encO).length = os.length + 3 + s.length := by rw [List.length_append, lr, List.length_map]
  obtain ⟨H3, r3, k3⟩ := rn_emit (d := d + 2) (x1 := x1) k2 (by lia)
  obtain ⟨H4, r4, k4⟩ := rn_emit (d := d + 2) (x1 := x1) k3 (by rw [List.length_append, lr2]; simp; lia)
  have l5 : (rpO os ++ s.map encO ++ [encO .gain] ++ [encO (.jump os.length)]).length = os.length + s.length + 5 := by rw [List.length_append, List.length_append, lr2]; simp; lia
  obtain ⟨H5, q1, q2⟩ := sp9m (d := d + 2) (T := [os.length + 1]) (Cd.wai k4 W) (fun i hi => by obtain rfl := List.mem_singleton.mp hi; lia) (by simp)
  have r5 := rn_bound (x1 := x1) (.inr (.inr rfl)) k4 q1
  refine ⟨H5, 1 + c2 + 1 + 1 + 1, _, (((r1.trans r2).trans r3).trans r4).trans r5, ?_, .rep (b := os.length) (lr ▸ z2), by simp; lia, by lia⟩
  have q3 := q2.sub (.cons₂ _ (.cons₂ _ (.cons₂ _ (.cons _ (.cons _ (.refl _))))))
  rw [l5] at q3
  have ef : fill (os.length + s.length + 5) [os.length + 1] (rpO os ++ s.map encO ++ [encO .gain] ++ [encO (.jump os.length)]) = os ++ (Od.split (os.length + 2) :: .jump (os.length + s.length + 5) :: .mark :: (s ++ [.gain, .jump os.length])).map encO := by
    show List.set _ _ _ = _
    simp only [rpO, List.append_assoc]
    rw [List.set_append_right _ _ (by lia), show os.length + 1 - os.length = 1 by lia]
    simp
  rw [ef] at q3
  exact q3
theorem put_cat {N : Nat} (ih : PutN (d + 3) ic io iw x1 Ψ N) {a b : Nd} (hn : sz (.bin true a b) ≤ N + 1) (hG : G Ψ h (.bin true a b)) (ho : os.length + 8 * sz (.bin true a b) ≤ 60000) (hw : W.length + 8 * sz (.bin true a b) ≤ 60000) (g : Has H (Cd ic io iw os (W ++ [wput (.bin true a b)]) Φ)) : Put (d + 3) ic io iw x1 Ψ h (8 * sz (.bin true a b) - 3) H os W Φ := by
  have bg : big = 16777216 := rfl
  have hp1 := sz_pos (.bin true a b)
  have g1 := Cd.wai g W
  have hc := Cd.c g1
  have ho1 := Cd.o g1
  have ha1 := sz_pos a
  have hb1 := sz_pos b
  obtain ⟨H0, il, qs, a1, a2, a3, a4⟩ := sp6c (d := d) (ic := ic) g1 hG (by lia)
  have hl := len_sz qs
  simp only [szs] at a4
  obtain ⟨H1, r1, k1⟩ := rn_put (x1 := x1) g a1 a2 (by simp; lia)
  obtain ⟨H2, c2, s, r2, k2, z2, l2, m2⟩ := puts ih qs H1 os (by simp only [szs]; lia) a3 (by simp only [szs]; lia) (by simp only [szs]; lia) k1
  simp only [szs] at l2 m2
  exact ⟨H2, 1 + c2, s, r1.trans r2, k2, z2, by lia, by lia⟩
theorem put_alt {N : Nat} (ih : PutN (d + 3) ic io iw x1 Ψ N) {a b : Nd} (hn : sz (.bin false a b) ≤ N + 1) (hG : G Ψ h (.bin false a b)) (ho : os.length + 8 * sz (.bin false a b) ≤ 60000) (hw : W.length + 8 * sz (.bin false a b) ≤ 60000) (g : Has H (Cd ic io iw os (W ++ [wput (.bin false a b)]) Φ)) : Put (d + 3) ic io iw x1 Ψ h (8 * sz (.bin false a b) - 3) H os W Φ := by
  have bg : big = 16777216 := rfl
  have hp1 := sz_pos (.bin false a b)
  have g1 := Cd.wai g W
  have hc := Cd.c g1
  have ho1 := Cd.o g1
  have ha1 := sz_pos a
  have hb1 := sz_pos b
  obtain ⟨H0, il, e1, e2, ps, q, a1, a2, a3, a4⟩ := sp6a (d := d + 1) (ic := ic) g1 hc (.head _) hG (by lia)
  have hl := len_sz (ps ++ [q])
  have hl1 : (ps ++ [q]).length = ps.length + 1 := by simp
  simp only [szs] at a4
  have a5 : Has H0 ((il, .list (ps.flatMap (trio e1) ++ [wput q, wb kMeet e1])) :: Cd ic io iw os W ((e1, .list [.int (-1), .ref e2]) :: (e2, .list []) :: Φ)) := by
    refine a2.perm (List.Perm.cons _ ?_)
    exact (List.perm_middle (a := (e1, AObj.list [.int (-1), .ref e2])) (l₁ := (e2, .list []) :: Cd ic io iw os W []) (l₂ := Φ)).symm.trans (List.perm_middle (a := (e2, AObj.list [])) (l₁ := Cd ic io iw os W []) (l₂ := (e1, .list [.int (-1), .ref e2]) :: Φ)).symm |>.trans (by
      refine (List.Perm.append_left (Cd ic io iw os W []) (.swap _ _ _)))
  obtain ⟨H1, r1, k1⟩ := rn_put (x1 := x1) g a1 a5 (by rw [List.length_append, trio_len]; simp; lia)
  obtain ⟨H2, c2, s, r2, k2, z2, l2, m2⟩ := alts ih ps H1 os [] _ (by simp only [szs]; lia) a3 (by simp only [szs]; lia) (by simp only [szs]; lia) (by simp; lia) (fun i hi => by (first | (exact absurd hi Bool.false_ne_true) | (injection hi; done) | (injection hi with j1 j2 j3; subst j1 j2 j3) | (injection hi with j1 j2; subst j1 j2) | (injection hi with j1; injection j1; done) | (injection hi with j1; injection j1 with j1 j2; subst j1 j2) | (injection hi with j1; injection j1 with j1; subst j1) | (injection hi with j1; subst j1) | (subst hi) | (exact absurd hi List.not_mem_nil) | (cases hi))) k1
  simp only [szs] at l2 m2
  exact ⟨H2, 1 + c2, s, r1.trans r2, k2, z2, by lia, by lia⟩
theorem put_is : ∀ N, PutN (d + 3) ic io iw x1 Ψ N
  | 0, h, p, H, os, W, Φ, hn, _, _, _, _ => absurd (Nat.le_trans (sz_pos p) hn) (Nat.not_succ_le_zero 0)
  | N + 1, h, p, H, os, W, Φ, hn, hG, ho, hw, g => by
    have ih := put_is N
    induction p using Mine.Nd.casesOn with
    | one o => exact put_leaf ho hw g (.one o) trivial
    | ways b => exact put_leaf ho hw g (.ways b) trivial
    | fence => exact put_leaf ho hw g .fence trivial
    | abort => exact put_leaf ho hw g .abort trivial
    | fail => exact put_leaf ho hw g .fail trivial
    | cursor r key => exact put_leaf ho hw g (.cursor r key) hG.1
    | later a r key => exact put_kept ih hn ho hw g (n := true) rfl rfl hG.1.1 hG.2 hG.1.2
    | now a r key => exact put_kept ih hn ho hw g (n := false) rfl rfl hG.1.1 hG.2 hG.1.2
    | arbno a => exact put_arbno ih hn hG ho hw g
    | bin c a b =>
      induction c using Bool.casesOn with
      | true => exact put_cat ih hn hG ho hw g
      | false => exact put_alt ih hn hG ho hw g
end
end Mine
end
section
namespace Mine
open PySem
section
variable {d : Nat} {H H' : AH} {Γ Φ Ψ : List (Nat × AObj)} {h : Nat} {os : List Od}
noncomputable def JumpOk (os : List Od) (i : Nat) (od : Od) : Prop := ∀ k, od = .jump k → i < k ∨ ∃ k', os[k]? = some (.split k')
structure GoodAt (Ψ : List (Nat × AObj)) (os : List Od) (m : Int) (i : Nat) : Prop where
  od : ∃ od, os[i]? = some od ∧ od ≠ .done ∧ OdOk Ψ od ∧ OdIn os i od ∧ JumpOk os i od
  lo : ht os i ≤ m
noncomputable def Sub (os : List Od) : Nat → List Od → Prop
  | _, [] => True
  | b, x :: r => os[b]? = some x ∧ Sub os (b + 1) r
theorem sub_app : ∀ {s t : List Od} {b : Nat}, Sub os b (s ++ t) → Sub os b s ∧ Sub os (b + s.length) t
  | [], _, _, h => ⟨trivial, h⟩
  | x :: s, t, b, h => by
    obtain ⟨h1, h2⟩ := sub_app (s := s) h.2
    rw [Nat.add_right_comm] at h2
    exact ⟨⟨h.1, h1⟩, h2⟩
theorem sub_of : ∀ (A : List Od) {s B : List Od}, Sub (A ++ (s ++ B)) A.length s
  | _, [], _ => trivial
  | A, x :: s, B => ⟨by rw [List.getElem?_append_right (Nat.le_refl _), Nat.sub_self]; rfl, by
    have h := sub_of (A ++ [x]) (s := s) (B := B)
    rw [List.append_assoc, List.length_append] at h
    exact h⟩
theorem plain_ok {o : Od} {i : Nat} (p : plainO Ψ o) : o ≠ .done ∧ OdOk Ψ o ∧ OdIn os i o ∧ JumpOk os i o ∧ dl o = 0 := by
  induction o using Mine.Od.casesOn <;> first | exact absurd p id | exact ⟨(by first | (intro h; injection h; done) | (intro k h; injection h; done) | exact nofun), p, trivial, (by first | (intro h; injection h; done) | (intro k h; injection h; done) | exact nofun), rfl⟩ | exact ⟨(by first | (intro h; injection h; done) | (intro k h; injection h; done) | exact nofun), trivial, trivial, (by first | (intro h; injection h; done) | (intro k h; injection h; done) | exact nofun), rfl⟩
theorem sg_ok {b : Nat} {s : List Od} (S : Sg Ψ h b s) : Sub os b s → b + s.length < os.length → 0 ≤ ht os b →
    ht os (b + s.length) = ht os b ∧ ∀ i, b ≤ i → i < b + s.length → GoodAt Ψ os (ht os b + h) i := by
  induction S with
  | nil => exact fun _ _ _ => ⟨rfl, fun i h1 h2 => absurd h2 (Nat.not_lt.mpr h1)⟩
  | @one h b o p =>
    intro e hl h0
    obtain ⟨p1, p2, p3, p4, p5⟩ := plain_ok (os := os) (i := b) p
    have a1 := e.1
    refine ⟨(ht_succ a1).trans (by rw [p5, Int.add_zero]), fun i h1 h2 => ?_⟩
    obtain rfl : i = b := Nat.le_antisymm (Nat.le_of_lt_succ h2) h1
    exact ⟨⟨o, a1, p1, p2, p3, p4⟩, Int.le_add_of_nonneg_right (Int.natCast_nonneg _)⟩
  | @app h b s t x y ix iy =>
    intro e hl h0
    obtain ⟨e1, e2⟩ := sub_app e
    rw [List.length_append, ← Nat.add_assoc] at hl ⊢
    obtain ⟨x1, x2⟩ := ix e1 (Nat.lt_of_le_of_lt (Nat.le_add_right _ _) hl) h0
    obtain ⟨y1, y2⟩ := iy e2 hl (by rw [x1]; exact h0)
    rw [x1] at y1 y2
    refine ⟨y1, fun i h1 h2 => ?_⟩
    by_cases hi : i < b + s.length
    · exact x2 i h1 hi
    · exact y2 i (Nat.le_of_not_lt hi) h2
  | @keep h b s n r key k x ix =>
    intro e hl h0
    obtain ⟨a1, e⟩ := e
    obtain ⟨e1, a2, _⟩ := sub_app e
    have s1 : ht os (b + 1) = ht os b + 1 := ht_succ a1
    have d2 : dl (if n = true then Od.name r else .set r key) = -1 := by induction n using Bool.casesOn <;> rfl
    have s2 := ht_succ a2
    rw [d2] at s2
    have hlen : (Od.mark :: (s ++ [if n = true then Od.name r else .set r key])).length = s.length + 2 := by rw [List.length_cons, List.length_append]; rfl
    rw [hlen] at hl ⊢
    obtain ⟨x1, x2⟩ := ix e1 (by lia) (by rw [s1]; lia)
    rw [x1, s1] at s2
    have s3 : ht os (b + (s.length + 2)) = ht os b := by
      rw [show b + (s.length + 2) = b + 1 + s.length + 1 by lia, s2]; lia
    refine ⟨s3, fun i h1 h2 => ?_⟩
    by_cases h3 : i = b
    · subst h3
      exact ⟨⟨_, a1, (by first | (intro h; injection h; done) | (intro k h; injection h; done) | exact nofun), trivial, trivial, (by first | (intro h; injection h; done) | (intro k h; injection h; done) | exact nofun)⟩, Int.le_add_of_nonneg_right (Int.natCast_nonneg _)⟩
    by_cases h4 : i = b + 1 + s.length
    · subst h4
      refine ⟨⟨_, a2, ?_, ?_, ?_, ?_⟩, by rw [x1, s1]; lia⟩
      · induction n using Bool.casesOn <;> exact (by first | (intro h; injection h; done) | (intro k h; injection h; done) | exact nofun)
      · induction n using Bool.casesOn
        · exact k
        · exact ⟨key, k⟩
      · have : 1 ≤ ht os (b + 1 + s.length) := by rw [x1, s1]; lia
        induction n using Bool.casesOn <;> exact this
      · induction n using Bool.casesOn <;> exact (by first | (intro h; injection h; done) | (intro k h; injection h; done) | exact nofun)
    · have := x2 i (by lia) (by lia)
      exact ⟨this.od, by have := this.lo; rw [s1] at this; lia⟩
  | @rep h b s x ix =>
    intro e hl h0
    obtain ⟨a0, a1, a2, e⟩ := e
    obtain ⟨e1, a3, a4, _⟩ := sub_app e
    have hlen : (Od.split (b + 2) :: .jump (b + s.length + 5) :: .mark :: (s ++ [.gain, .jump b])).length = s.length + 5 := by rw [List.length_cons, List.length_cons, List.length_cons, List.length_append]; rfl
    rw [hlen] at hl ⊢
    have s0 : ht os (b + 1) = ht os b := (ht_succ a0).trans (Int.add_zero _)
    have s1 : ht os (b + 2) = ht os b := (ht_succ a1).trans ((Int.add_zero _).trans s0)
    have s2 : ht os (b + 3) = ht os b + 1 := (ht_succ a2).trans (by rw [show b + 1 + 1 = b + 2 from rfl, s1]; rfl)
    obtain ⟨x1, x2⟩ := ix e1 (by lia) (by rw [s2]; lia)
    rw [s2] at x1 x2
    have s3 : ht os (b + 3 + s.length + 1) = ht os b := (ht_succ a3).trans (by show ht os (b + 3 + s.length) + -1 = _; rw [x1]; lia)
    have s4 : ht os (b + 3 + s.length + 1 + 1) = ht os b := (ht_succ a4).trans ((Int.add_zero _).trans s3)
    have e5 : b + 3 + s.length + 1 + 1 = b + (s.length + 5) := by lia
    rw [e5] at s4
    refine ⟨s4, fun i h1 h2 => ?_⟩
    by_cases h3 : i = b
    · subst h3
      exact ⟨⟨_, a0, (by first | (intro h; injection h; done) | (intro k h; injection h; done) | exact nofun), trivial, ⟨by lia, s1⟩, (by first | (intro h; injection h; done) | (intro k h; injection h; done) | exact nofun)⟩, Int.le_add_of_nonneg_right (Int.natCast_nonneg _)⟩
    by_cases h4 : i = b + 1
    · subst h4
      exact ⟨⟨_, a1, (by first | (intro h; injection h; done) | (intro k h; injection h; done) | exact nofun), trivial, ⟨by lia, by rw [s0]; exact s4⟩, fun k e => by (injection e with j1; subst j1); exact .inl (by lia)⟩, by rw [s0]; exact Int.le_add_of_nonneg_right (Int.natCast_nonneg _)⟩
    by_cases h5 : i = b + 2
    · subst h5
      exact ⟨⟨_, a2, (by first | (intro h; injection h; done) | (intro k h; injection h; done) | exact nofun), trivial, trivial, (by first | (intro h; injection h; done) | (intro k h; injection h; done) | exact nofun)⟩, by rw [s1]; exact Int.le_add_of_nonneg_right (Int.natCast_nonneg _)⟩
    by_cases h6 : i = b + 3 + s.length
    · subst h6
      exact ⟨⟨_, a3, (by first | (intro h; injection h; done) | (intro k h; injection h; done) | exact nofun), trivial, (show 1 ≤ ht os _ by rw [x1]; lia), (by first | (intro h; injection h; done) | (intro k h; injection h; done) | exact nofun)⟩, by rw [x1]; lia⟩
    by_cases h7 : i = b + 3 + s.length + 1
    · subst h7
      exact ⟨⟨_, a4, (by first | (intro h; injection h; done) | (intro k h; injection h; done) | exact nofun), trivial, ⟨by lia, s3.symm⟩, fun k e => by (injection e with j1; subst j1); exact .inr ⟨_, a0⟩⟩, by rw [s3]; exact Int.le_add_of_nonneg_right (Int.natCast_nonneg _)⟩
    · have := x2 i (by lia) (by lia)
      exact ⟨this.od, by have := this.lo; lia⟩
  | @alt h b s t x y ix iy =>
    intro e hl h0
    obtain ⟨a0, e⟩ := e
    obtain ⟨e1, a1, e2⟩ := sub_app e
    have hlen : (Od.split (b + s.length + 2) :: (s ++ .jump (b + s.length + 2 + t.length) :: t)).length = s.length + 2 + t.length := by rw [List.length_cons, List.length_append, List.length_cons]; lia
    rw [hlen] at hl ⊢
    have s0 : ht os (b + 1) = ht os b := (ht_succ a0).trans (Int.add_zero _)
    obtain ⟨x1, x2⟩ := ix e1 (by lia) (by rw [s0]; exact h0)
    rw [s0] at x1 x2
    have e5 : b + 1 + s.length + 1 = b + s.length + 2 := by lia
    have s1 : ht os (b + 1 + s.length + 1) = ht os b := (ht_succ a1).trans ((Int.add_zero _).trans x1)
    rw [e5] at s1 e2
    obtain ⟨y1, y2⟩ := iy e2 (by lia) (by rw [s1]; exact h0)
    rw [s1] at y1 y2
    have e6 : b + (s.length + 2 + t.length) = b + s.length + 2 + t.length := by lia
    rw [e6] at hl ⊢
    refine ⟨y1, fun i h1 h2 => ?_⟩
    by_cases h3 : i = b
    · subst h3
      exact ⟨⟨_, a0, (by first | (intro h; injection h; done) | (intro k h; injection h; done) | exact nofun), trivial, ⟨by lia, s1⟩, (by first | (intro h; injection h; done) | (intro k h; injection h; done) | exact nofun)⟩, Int.le_add_of_nonneg_right (Int.natCast_nonneg _)⟩
    by_cases h4 : i = b + 1 + s.length
    · subst h4
      exact ⟨⟨_, a1, (by first | (intro h; injection h; done) | (intro k h; injection h; done) | exact nofun), trivial, ⟨by lia, by rw [y1, x1]⟩, fun k e => by (injection e with j1; subst j1); exact .inl (by lia)⟩, by rw [x1]; exact Int.le_add_of_nonneg_right (Int.natCast_nonneg _)⟩
    by_cases h5 : i < b + 1 + s.length
    · exact x2 i (by lia) h5
    · exact y2 i (by lia) h2
end
end Mine
end
section
namespace Mine
open PySem
section
variable {d : Nat} {H H' : AH} {Γ Φ Ψ : List (Nat × AObj)} {h : Nat} {os : List Od}
structure Raw (Ψ : List (Nat × AObj)) (os : List Od) (h : Nat) : Prop where
  at_ : ∀ i od, os[i]? = some od → (i + 1 < os.length ∨ od = .done) ∧ OdOk Ψ od ∧ OdIn os i od ∧ JumpOk os i od
  up : ∀ i, ht os i ≤ h
theorem ht_over {i : Nat} (h : os.length ≤ i) : ht os i = ht os os.length := by unfold ht; rw [List.take_of_length_le h, List.take_length]
theorem raw_of {s : List Od} (S : Sg Ψ h 0 s) : Raw Ψ (s ++ [.done]) h := by
  obtain ⟨e, k⟩ := sg_ok (os := s ++ [.done]) S (sub_of [] (B := [.done])) (by simp) (Int.le_refl 0)
  have z : ht (s ++ [.done]) 0 = 0 := rfl
  rw [z, Nat.zero_add] at e
  rw [z] at k
  have a : (s ++ [Od.done])[s.length]? = some .done := by rw [List.getElem?_append_right (Nat.le_refl _), Nat.sub_self]; rfl
  have l : (s ++ [Od.done]).length = s.length + 1 := by simp
  have e2 : ht (s ++ [.done]) (s.length + 1) = 0 := (ht_succ a).trans (by rw [e]; rfl)
  refine ⟨fun i od ho => ?_, fun i => ?_⟩
  · have hi := (List.getElem?_eq_some_iff.mp ho).1
    by_cases h1 : i < s.length
    · obtain ⟨od', o1, o2, o3, o4, o5⟩ := (k i (Nat.zero_le _) (by lia)).od
      rw [o1] at ho; (injection ho with j1; subst j1)
      exact ⟨.inl (by lia), o3, o4, o5⟩
    · obtain rfl : i = s.length := by lia
      rw [a] at ho; (injection ho with j1; subst j1)
      exact ⟨.inr rfl, trivial, trivial, (by first | (intro h; injection h; done) | (intro k h; injection h; done) | exact nofun)⟩
  · by_cases h1 : i < s.length
    · have := (k i (Nat.zero_le _) (by lia)).lo; lia
    by_cases h2 : i = s.length
    · rw [h2, e]; lia
    · rw [ht_over (by lia), l, e2]; lia
/- made straight -/
noncomputable def St (os : List Od) (od od' : Od) : Prop := match od with
  | .split k => ∃ g, od' = .split g ∧ g < os.length ∧ ht os g = ht os k
  | .jump k => ∃ g, od' = .jump g ∧ g < os.length ∧ ht os g = ht os k
  | od => od' = od
noncomputable def Al (os : List Od) : List Od → List Od → Prop
  | [], [] => True
  | a :: x, b :: y => St os a b ∧ Al os x y
  | _, _ => False
noncomputable def isJ : Od → Bool
  | .jump _ => true
  | _ => false
noncomputable def isJS : Od → Bool
  | .jump _ => true
  | .split _ => true
  | _ => false
theorem isJ_of {od : Od} (h : isJ od = true) : ∃ k, od = .jump k := by
  induction od using Od.casesOn with
  | jump k => exact ⟨k, rfl⟩
  | _ => exact absurd h Bool.false_ne_true
theorem it_od {io k : Nat} {od : Od} (ho : H[io]? = some (.list (os.map encO))) (h : os[k]? = some od) : itemV H (.ref io) (vI k) = some (encO od) := itemL ho (by rw [List.getElem?_map, h]; rfl)
theorem kind_jump {od : Od} : cmpV H .Eq (.str (kindO od)) (.str kJump) = some (isJ od) := by induction od using Mine.Od.casesOn <;> exact rfl
inductive W10_isR (d : Nat) (H : AH) (os : List Od) (io : Nat) (x1 : Option AV) (x2 : Option AV) (k : Nat) (f : Nat) : Prop where
  | mk (g : Nat) (zc1 : whD d w10c w10 f [some (.ref io), x1, x2, some (vI k)] H = .ok .next [some (.ref io), x1, x2, some (vI g)] H) (zc2 : g < os.length) (zc3 : ht os g = ht os k)
theorem w10_is {io : Nat} {x1 x2 : Option AV} (R : Raw Ψ os h) (ho : H[io]? = some (.list (os.map encO))) : ∀ (n k f : Nat), os.length ≤ k + n → k < os.length → n + 1 < f → W10_isR d H os io x1 x2 k f
  | 0, k, f, hn, hk, _ => by lia
  | n + 1, k, f + 2, hn, hk, hf => by
    obtain ⟨od, hod⟩ : ∃ od, os[k]? = some od := ⟨_, List.getElem?_eq_getElem hk⟩
    have cond : ∀ {k : Nat} {od : Od}, os[k]? = some od → ∀ {b : Bool}, (isJ od) = b → Ev d [some (.ref io), x1, x2, some (vI k)] H w10c (.bool b) H := fun {k od} hod {b} hb => by
      unfold w10c
      apply e_cmp
      · apply e_item
        · apply e_item
          · repeat (first | (with_reducible apply e_loc) | exact rfl)
          · repeat (first | (with_reducible apply e_loc) | exact rfl)
          · exact it_od ho hod
        · repeat (with_reducible apply e_val)
        · exact item0 od
      · repeat (with_reducible apply e_val)
      · rw [kind_jump, hb]
    cases hb : (isJ od) with
    | false => exact ⟨k, wh_f (cond hod hb), hk, rfl⟩
    | true =>
      obtain ⟨k', rfl⟩ := isJ_of hb
      obtain ⟨_, _, ⟨i1, i2⟩, j⟩ := R.at_ k _ hod
      have body : Es d [some (.ref io), x1, x2, some (vI k)] H w10 (.ok .next [some (.ref io), x1, x2, some (vI k')] H) := by
        unfold w10
        apply s_asg
        · apply e_item
          · apply e_item
            · repeat (first | (with_reducible apply e_loc) | exact rfl)
            · repeat (first | (with_reducible apply e_loc) | exact rfl)
            · exact it_od ho hod
          · repeat (with_reducible apply e_val)
          · exact rfl
        · exact rfl
        exact s_nil
      rcases j k' rfl with j | ⟨k2, j⟩
      · obtain ⟨g, r1, r2, r3⟩ := w10_is R ho n k' (f + 1) (by lia) i1 (by lia)
        exact ⟨g, wh_t (cond hod hb) body r1, r2, r3.trans i2⟩
      · exact ⟨k', wh_t (cond hod hb) body (wh_f (cond j rfl)), i1, i2⟩
theorem kind_in {od : Od} : cmpV H .In (.str (kindO od)) (.tup [.str kJump, .str kSplit]) = some (isJS od) := by induction od using Mine.Od.casesOn <;> exact rfl
inductive F10_isR (d : Nat) (Γ : List (Nat × AObj)) (os : List Od) (io : Nat) (jf : Nat) (ts : List Od) (n : Nat) (H : AH) (acc : List Od) (x2 : Option AV) (x3 : Option AV) : Prop where
  | mk (H' : AH) (os' : List Od) (y2 : Option AV) (y3 : Option AV) (zc1 : foD d f102t f102 n (.list io acc.length) [some (.ref io), some (.ref jf), x2, x3] H = .ok .next [some (.ref io), some (.ref jf), y2, y3] H') (zc2 : Has H' ((jf, .list ((acc ++ os').map encO)) :: Γ)) (zc3 : Al os ts os')
theorem f10_is {io jf : Nat} (R : Raw Ψ os h) (hz : os.length < 60000) (hl : (io, AObj.list (os.map encO)) ∈ Γ) : ∀ (ts : List Od) (n : Nat) (H : AH) (acc : List Od) (x2 x3 : Option AV), os.drop acc.length = ts → ts.length < n → Has H ((jf, .list (acc.map encO)) :: Γ) →
    F10_isR d Γ os io jf ts n H acc x2 x3
  | [], n + 1, H, acc, x2, x3, ht, _, g => ⟨H, [], x2, x3, fo_n (it_n (g.at_ _ (.tail _ hl)) (List.getElem?_eq_none (by simpa using ht))), by rw [List.append_nil]; exact g, trivial⟩
  | t :: ts, n + 1, H, acc, x2, x3, ht, hn, g => by
    have h1 : os[acc.length]? = some t := by rw [← Nat.add_zero acc.length, ← List.getElem?_drop, ht]; rfl
    have h3 : os.drop (acc.length + 1) = ts := by rw [← List.drop_drop, ht]; rfl
    have ho := g.at_ _ (.tail _ hl)
    have gj := g.hd
    have hb : (acc.map encO).length < big := by have : big = 16777216 := rfl; have := (List.getElem?_eq_some_iff.mp h1).1; simp; lia
    have done : ∀ t' : Od, St os t t' → (∃ y3, Es d [some (.ref io), some (.ref jf), some (encO t), x3] H f102 (.ok .next [some (.ref io), some (.ref jf), some (encO t'), y3] (H.set jf (.list (acc.map encO ++ [encO t']))))) → F10_isR d Γ os io jf (t :: ts) (n + 1) H acc x2 x3 := fun t' hs ⟨z3, hb⟩ => by
      have g1 := Has.set (Γ := []) (y := .list ((acc ++ [t']).map encO)) g
      have lt : (acc ++ [t']).length = acc.length + 1 := by simp
      obtain ⟨H', os', y2, y3, r1, r2, r3⟩ := f10_is R hz hl ts n _ (acc ++ [t']) (some (encO t')) z3 (by rw [lt]; exact h3) (by simpa using hn) g1
      rw [lt] at r1
      refine ⟨H', t' :: os', y2, y3, fo_c (it_c ho (by rw [List.getElem?_map, h1]; rfl)) rfl hb ?_, by rw [List.append_assoc] at r2; exact r2, hs, r3⟩
      rw [List.map_append] at r1
      exact r1
    have hodin := (R.at_ _ _ h1).2.2.1
    have pl : isJS t = false → ∃ y3, Es d [some (.ref io), some (.ref jf), some (encO t), x3] H f102 (.ok .next [some (.ref io), some (.ref jf), some (encO t), y3] (H.set jf (.list (acc.map encO ++ [encO t])))) := fun hq => ⟨x3, by
      unfold f102
      apply s_ifF
      · apply e_cmp
        · apply e_item
          · repeat (first | (with_reducible apply e_loc) | exact rfl)
          · repeat (with_reducible apply e_val)
          · exact item0 t
        · repeat (with_reducible (first | apply e_nil | apply e_val | apply e_cons | apply e_tup))
        · rw [kind_in, hq]
      repeat (first | assumption | (with_reducible (first | apply e_loc | apply e_app)) | apply s_expr | apply s_nil | exact rfl)⟩
    induction t using Mine.Od.casesOn with
    | split k =>
      obtain ⟨g', r1, r2, r3⟩ := w10_is (d := d) (x1 := some (.ref jf)) (x2 := some (encO (.split k))) R ho os.length k NN (by lia) hodin.1 (by unfold NN; lia)
      refine done (.split g') ⟨g', rfl, r2, r3⟩ ⟨some (vI g'), ?_⟩
      unfold f102
      apply s_ifT
      · repeat (first | (with_reducible (first | apply e_nil | apply e_val | apply e_loc | apply e_cons | apply e_tup | apply e_item | apply e_cmp)) | exact rfl)
      apply s_asg
      · repeat (first | (with_reducible (first | apply e_val | apply e_loc | apply e_item)) | exact rfl)
      · exact rfl
      apply s_while
      · exact r1
      repeat (first | assumption | (with_reducible (first | apply e_nil | apply e_val | apply e_loc | apply e_cons | apply e_tup | apply e_item | apply e_app)) | apply s_asg | apply s_expr | apply s_nil | exact rfl)
    | jump k =>
      obtain ⟨g', r1, r2, r3⟩ := w10_is (d := d) (x1 := some (.ref jf)) (x2 := some (encO (.jump k))) R ho os.length k NN (by lia) hodin.1 (by unfold NN; lia)
      refine done (.jump g') ⟨g', rfl, r2, r3⟩ ⟨some (vI g'), ?_⟩
      unfold f102
      apply s_ifT
      · repeat (first | (with_reducible (first | apply e_nil | apply e_val | apply e_loc | apply e_cons | apply e_tup | apply e_item | apply e_cmp)) | exact rfl)
      apply s_asg
      · repeat (first | (with_reducible (first | apply e_val | apply e_loc | apply e_item)) | exact rfl)
      · exact rfl
      apply s_while
      · exact r1
      repeat (first | assumption | (with_reducible (first | apply e_nil | apply e_val | apply e_loc | apply e_cons | apply e_tup | apply e_item | apply e_app)) | apply s_asg | apply s_expr | apply s_nil | exact rfl)
    | _ => exact done _ rfl (pl rfl)
theorem st_dl {a b : Od} (h : St os a b) : dl b = dl a := by
  induction a using Mine.Od.casesOn with
  | split k => obtain ⟨g, rfl, _⟩ := h; rfl
  | jump k => obtain ⟨g, rfl, _⟩ := h; rfl
  | _ => rw [show b = _ from h]
theorem al_dl : ∀ {x y : List Od}, Al os x y → y.map dl = x.map dl ∧ y.length = x.length
  | [], [], _ => ⟨rfl, rfl⟩
  | [], _ :: _, h => h.elim
  | _ :: _, [], h => h.elim
  | a :: x, b :: y, h => by
    obtain ⟨e1, e2⟩ := al_dl h.2
    exact ⟨by rw [List.map_cons, List.map_cons, st_dl h.1, e1], by rw [List.length_cons, List.length_cons, e2]⟩
theorem al_at : ∀ {x y : List Od}, Al os x y → ∀ {i : Nat} {b : Od}, y[i]? = some b → ∃ a, x[i]? = some a ∧ St os a b
  | [], [], _, _, _, h => by injection h
  | [], _ :: _, h, _, _, _ => h.elim
  | _ :: _, [], h, _, _, _ => h.elim
  | a :: x, b :: y, h, 0, c, e => by (injection e with j1; subst j1); exact ⟨a, rfl, h.1⟩
  | a :: x, b :: y, h, i + 1, c, e => al_at h.2 (i := i) e
theorem wf_of (R : Raw Ψ os h) (hh : h < 60) {os' : List Od} (a : Al os os os') : Wf os' ∧ (∀ od ∈ os', OdOk Ψ od) ∧ os'.length = os.length := by
  obtain ⟨e1, e2⟩ := al_dl a
  have e3 : ∀ i, ht os' i = ht os i := fun i => by unfold ht; rw [List.map_take, e1, ← List.map_take]
  have k : ∀ i od, os'[i]? = some od → (i + 1 < os'.length ∨ od = .done) ∧ OdIn os' i od ∧ OdOk Ψ od := fun i od ho => by
    obtain ⟨a, h1, h2⟩ := al_at a ho
    obtain ⟨b1, b2, b3, _⟩ := R.at_ i a h1
    rw [e2]
    induction a using Mine.Od.casesOn with
    | split k =>
      obtain ⟨g, rfl, g1, g2⟩ := h2
      exact ⟨.inl (b1.resolve_right (by first | (intro h; injection h; done) | (intro k h; injection h; done) | exact nofun)), ⟨by rw [e2]; exact g1, by rw [e3, e3, g2]; exact b3.2⟩, trivial⟩
    | jump k =>
      obtain ⟨g, rfl, g1, g2⟩ := h2
      exact ⟨.inl (b1.resolve_right (by first | (intro h; injection h; done) | (intro k h; injection h; done) | exact nofun)), ⟨by rw [e2]; exact g1, by rw [e3, e3, g2]; exact b3.2⟩, trivial⟩
    | name r => obtain rfl := (show od = _ from h2); exact ⟨b1, by show 1 ≤ ht os' i; rw [e3]; exact b3, b2⟩
    | set r key => obtain rfl := (show od = _ from h2); exact ⟨b1, by show 1 ≤ ht os' i; rw [e3]; exact b3, b2⟩
    | gain => obtain rfl := (show od = _ from h2); exact ⟨b1, by show 1 ≤ ht os' i; rw [e3]; exact b3, b2⟩
    | _ => obtain rfl := (show od = _ from h2); exact ⟨b1, trivial, b2⟩
  refine ⟨⟨fun i od ho => ⟨(k i od ho).1, (k i od ho).2.1⟩, fun i => by rw [e3]; have := R.up i; lia⟩, fun od ho => ?_, e2⟩
  obtain ⟨i, hi⟩ := List.getElem?_of_mem ho
  exact (k i od hi).2.2
inductive Sp10R (d : Nat) (H : AH) (Γ : List (Nat × AObj)) (os : List Od) (io : Nat) : Prop where
  | mk (H' : AH) (jf : Nat) (os' : List Od) (zc1 : Cl (d + 1) 10 [.ref io] H (.ref jf) H') (zc2 : Has H' ((jf, .list (os'.map encO)) :: Γ)) (zc3 : Al os os os')
theorem sp10 {io : Nat} (R : Raw Ψ os h) (hz : os.length < 60000) (g : Has H Γ) (hl : (io, AObj.list (os.map encO)) ∈ Γ) : Sp10R d H Γ os io := by
  obtain ⟨H', os', y2, y3, r1, r2, r3⟩ := f10_is (d := d) R hz hl os NN _ [] none none rfl (by unfold NN; lia) (g.app (x := .list []))
  refine ⟨H', H.length, os', ?_, r2, r3⟩
  apply cl_mk rfl rfl
  · unfold b10; repeat (first | (with_reducible (first | apply e_nil | apply e_list)) | apply s_asg | exact rfl)
    apply s_for
    · repeat (first | (with_reducible apply e_loc) | exact rfl)
    · exact it_of (gA (g.at_ _ hl))
    · exact r1
    repeat (first | (with_reducible apply e_loc) | apply s_ret | exact rfl)
  · exact rfl
theorem sp3 : Cl (d + 1) 3 [.ref H.length] (H ++ [.inst 0 []]) .none (H ++ [cdO (H.length + 1)] ++ [.list []]) := by
  apply cl_mk rfl rfl
  · unfold b3
    apply s_put
    · repeat (with_reducible (first | apply e_nil | apply e_list))
    · repeat (first | (with_reducible apply e_loc) | exact rfl)
    · repeat (with_reducible (first | exact gE | apply gA))
    · exact rfl
    repeat (apply s_nil)
  · show Out.ok AV.none _ = _
    rw [set_mid, len1]; exact rfl
inductive Sp11R (d : Nat) (H : AH) (Γ : List (Nat × AObj)) (Ψ : List (Nat × AObj)) (p : Nd) : Prop where
  | mk (H' : AH) (jf : Nat) (os : List Od) (zc1 : Cl (d + 5) 11 [encN p] H (.ref jf) H') (zc2 : Has H' ((jf, .list (os.map encO)) :: Γ)) (zc3 : Wf os) (zc4 : (∀ od ∈ os, OdOk Ψ od)) (zc5 : 0 < os.length) (zc6 : os.length < 60000)
theorem sp11 {p : Nd} (g : Has H Γ) (hG : G Ψ h p) (hh : h < 60) (hz : sz p ≤ 5000) : Sp11R d H Γ Ψ p := by
  have hp1 := sz_pos p
  have e3 := sp3 (d := d + 3) (H := H)
  have g1 : Has (H ++ [cdO (H.length + 1)] ++ [.list []]) ((H.length, cdO (H.length + 1)) :: (H.length + 1, .list []) :: Γ) := by
    have := (g.app (x := cdO (H.length + 1))).app (x := .list [])
    rw [len1] at this
    exact this.swap
  have g2 : Has (H ++ [cdO (H.length + 1)] ++ [.list []] ++ [.list [wput p]]) (Cd H.length (H.length + 1) (H.length + 2) [] ([] ++ [wput p]) Γ) := by
    have := g1.app (x := .list [wput p])
    rw [len1, len1] at this
    exact this.perm ((List.Perm.swap _ _ _).trans ((List.Perm.swap _ _ _).cons _))
  obtain ⟨H1, c, s, r1, r2, r3, r4, r5⟩ := put_is (d := d) (x1 := some (encN p)) (sz p) h p _ [] [] Γ (Nat.le_refl _) hG (by simp; lia) (by simp; lia) g2
  obtain ⟨z3, z4, r1⟩ := r1 none none
  have hc1 := Cd.c r2
  have ho1 := Cd.o r2
  rw [List.nil_append] at r2 ho1
  have hw1 := Cd.w r2
  have ew : whD (d + 3) w5c w5 NN [some (.ref H.length), some (encN p), some (.ref (H.length + 2)), none, none] (H ++ [cdO (H.length + 1)] ++ [.list []] ++ [.list [wput p]]) = .ok .next [some (.ref H.length), some (encN p), some (.ref (H.length + 2)), z3, z4] H1 := by
    rw [show NN = c + ((NN - 1 - c) + 1) by unfold NN; lia, r1]
    apply wh_f
    unfold w5c; repeat (first | assumption | (with_reducible (first | apply e_nil | apply e_val | apply e_loc | apply e_cons | apply e_cmp | apply e_bi | apply lenL)) | exact rfl)
  have e5 : Cl (d + 4) 5 [.ref H.length, encN p] (H ++ [cdO (H.length + 1)] ++ [.list []]) .none H1 := by
    apply cl_mk rfl rfl
    · unfold b5; repeat (first | (with_reducible (first | apply e_nil | apply e_val | apply e_loc | apply e_cons | apply e_tup | apply e_list)) | apply s_asg | exact rfl)
      apply s_while
      · rw [len1, len1]; exact ew
      repeat (apply s_nil)
    · exact rfl
  have e4 := sp4 (d := d + 3) (v := encO .done) hc1 ho1 (by have : big = 16777216 := rfl; simp; lia)
  have g3 := Cd.ord r2 (s.map encO ++ [encO .done])
  have em : s.map encO ++ [encO .done] = (s ++ [Od.done]).map encO := by simp
  rw [em] at g3
  have hc3 := Cd.c g3
  obtain ⟨H4, jf, os', q1, q2, q3⟩ := sp10 (d := d + 3) (raw_of r3) (by simp; lia) g3 (.tail _ (.head _))
  rw [← em] at q1 hc3
  obtain ⟨w1, w2, w3⟩ := wf_of (raw_of r3) hh q3
  have hcd : (H ++ [cdO (H.length + 1)] ++ [AObj.list []])[H.length]? = some (cdO (H.length + 1)) := gA gE
  refine ⟨H4, jf, os', ?_, q2.sub (.cons₂ _ (.cons _ (.cons _ (.cons _ (.refl _))))), w1, w2, by rw [w3]; simp, by rw [w3]; simp; lia⟩
  apply cl_mk rfl rfl
  · unfold b11
    apply s_asg
    · repeat (first | assumption | (with_reducible (first | apply e_nil | apply e_cls)) | exact rfl)
    · exact rfl
    repeat (first | assumption | (with_reducible (first | apply e_nil | apply e_val | apply e_loc | apply e_cons | apply e_tup | apply e_attr | apply e_fn | apply e_meth)) | apply s_expr | apply s_ret | exact rfl)
  · exact rfl
/- the heights -/
theorem dg_is (od : Od) : dgetL [([109, 97, 114, 107], 1), ([110, 97, 109, 101], (-1)), ([115, 101, 116], (-1)), ([103, 97, 105, 110], (-1))] (kindO od) 0 = dl od := by induction od using Mine.Od.casesOn <;> exact rfl
inductive F41_isR (d : Nat) (Γ : List (Nat × AObj)) (os : List Od) (io : Nat) (jf : Nat) (x0 : Option AV) (k : Nat) (n : Nat) (H : AH) (x3 : Option AV) : Prop where
  | mk (H' : AH) (y2 : Option AV) (y3 : Option AV) (zc1 : foD d f41t f41 n (.list io k) [x0, some (.ref jf), some (.int (ht os k)), x3] H = .ok .next [x0, some (.ref jf), y2, y3] H') (zc2 : Has H' ((jf, .list ((htsO os).map AV.int)) :: Γ))
theorem f41_is {io jf : Nat} {x0 : Option AV} (hz : os.length < 60000) (hl : (io, AObj.list (os.map encO)) ∈ Γ) : ∀ (ts : List Od) (k n : Nat) (H : AH) (x3 : Option AV), os.drop k = ts → k ≤ os.length → ts.length < n → Has H ((jf, .list (((List.range k).map (ht os)).map AV.int)) :: Γ) →
    F41_isR d Γ os io jf x0 k n H x3
  | [], k, n + 1, H, x3, ht_, hk, _, g => ⟨H, _, x3, fo_n (it_n (g.at_ _ (.tail _ hl)) (List.getElem?_eq_none (by simpa using ht_))), by
    have : k = os.length := by have := congrArg List.length ht_; simp at this; lia
    subst this; exact g⟩
  | t :: ts, k, n + 1, H, x3, ht_, hk, hn, g => by
    have h1 : os[k]? = some t := by rw [← Nat.add_zero k, ← List.getElem?_drop, ht_]; rfl
    have h3 : os.drop (k + 1) = ts := by rw [← List.drop_drop, ht_]; rfl
    have hk1 := (List.getElem?_eq_some_iff.mp h1).1
    have gj := g.hd
    have hb : (((List.range k).map (ht os)).map AV.int).length < big := by have : big = 16777216 := rfl; simp; lia
    have e : ((List.range k).map (ht os)).map AV.int ++ [AV.int (ht os k)] = ((List.range (k + 1)).map (ht os)).map AV.int := by rw [List.range_succ, List.map_append, List.map_append]; rfl
    have g1 := Has.set (Γ := []) (y := .list (((List.range (k + 1)).map (ht os)).map AV.int)) g
    obtain ⟨H', y2, y3, r1, r2⟩ := f41_is hz hl ts (k + 1) n _ (some (encO t)) h3 hk1 (by simpa using hn) g1
    refine ⟨H', y2, y3, fo_c (it_c (g.at_ _ (.tail _ hl)) (by rw [List.getElem?_map, h1]; rfl)) rfl ?_ r1, r2⟩
    rw [← e, ht_succ h1]
    unfold f41
    apply s_expr
    · repeat (first | assumption | (with_reducible (first | apply e_loc | apply e_app)) | exact rfl)
    · exact rfl
    apply s_aug
    · exact rfl
    · repeat (first | (with_reducible (first | apply e_val | apply e_loc | apply e_item | apply e_dget)) | exact rfl)
      exact item0 t
    · rw [dg_is]; exact rfl
    · exact rfl
    exact s_nil
inductive Sp41R (d : Nat) (H : AH) (Γ : List (Nat × AObj)) (os : List Od) (io : Nat) : Prop where
  | mk (H' : AH) (jf : Nat) (zc1 : Cl (d + 1) 41 [.ref io] H (.ref jf) H') (zc2 : Has H' ((jf, .list ((htsO os).map AV.int)) :: Γ))
theorem sp41 {io : Nat} (hz : os.length < 60000) (g : Has H Γ) (hl : (io, AObj.list (os.map encO)) ∈ Γ) : Sp41R d H Γ os io := by
  obtain ⟨H', y2, y3, r1, r2⟩ := f41_is (d := d) (x0 := some (.ref io)) hz hl os 0 NN _ none rfl (Nat.zero_le _) (by unfold NN; lia) (g.app (x := .list []))
  refine ⟨H', H.length, ?_, r2⟩
  apply cl_mk rfl rfl
  · unfold b41
    apply s_tup
    · repeat (with_reducible (first | apply e_nil | apply e_val | apply e_cons | apply e_tup | apply e_list))
    · exact rfl
    · exact rfl
    apply s_for
    · repeat (first | (with_reducible apply e_loc) | exact rfl)
    · exact it_of (gA (g.at_ _ hl))
    · exact r1
    repeat (first | (with_reducible apply e_loc) | apply s_ret | exact rfl)
  · exact rfl
end
end Mine
end
section
namespace Mine
open PySem
section
variable {d : Nat} {H H' : AH} {Γ Φ Ψ Δ : List (Nat × AObj)} {ic : Nat} {cs : List Nat} {l : Loc}
noncomputable abbrev Ce (ic : Nat) (cs : List Nat) (Γ : List (Nat × AObj)) : List (Nat × AObj) := (ic, .list (cs.map vI)) :: Γ
inductive Sp39R (d : Nat) (H : AH) (Γ : List (Nat × AObj)) (ic : Nat) (m : Nat) : Prop where
  | mk (H' : AH) (cs' : List Nat) (x : Nat) (zc1 : Cl (d + 1) 39 [.ref ic, vI m] H (vI x) H') (zc2 : Has H' (Ce ic cs' Γ)) (zc3 : x < m)
theorem sp39 {m : Nat} (hm : 0 < m) (g : Has H (Ce ic cs Γ)) : Sp39R d H Γ ic m := by
  have hc := g.hd
  induction cs using List.casesOn with
  | nil =>
    have hc : H[ic]? = some (.list []) := hc
    refine ⟨H, [], 0, ?_, g, hm⟩
    apply cl_mk rfl rfl
    · unfold b39; repeat (first | (with_reducible apply e_val) | apply s_ret | (apply e_ifF; (· repeat (first | assumption | (with_reducible (first | apply e_nil | apply e_val | apply e_loc | apply e_cons | apply e_cmp | apply e_bi | apply lenL)) | exact rfl))))
    · exact rfl
  | cons c r =>
    refine ⟨_, r, c % m, ?_, Has.set (Γ := []) (y := .list (r.map vI)) g, Nat.mod_lt _ hm⟩
    apply cl_mk rfl rfl
    · unfold b39
      apply s_ret
      apply e_ifT
      · repeat (first | assumption | (with_reducible (first | apply e_nil | apply e_val | apply e_loc | apply e_cons | apply e_cmp | apply e_bi | apply lenL)) | exact rfl)
        exact c_gt (by simp <;> lia)
      apply e_bin
      · apply e_lm
        · repeat (first | (with_reducible apply e_loc) | exact rfl)
        · exact hc
        · exact rfl
        · repeat (with_reducible (first | apply e_nil | apply e_val | apply e_cons))
        · exact hc
        · exact rfl
      · repeat (first | (with_reducible apply e_loc) | exact rfl)
      · exact if_pos (by lia : (0 : Int) < (m : Int))
    · exact rfl
inductive PickR (d : Nat) (H : AH) (Γ : List (Nat × AObj)) (ic : Nat) (l : Loc) (es : List E0) (opts : List AV) (m : Nat) (j : Nat) : Prop where
  | mk (H' : AH) (cs' : List Nat) (v : AV) (zc1 : v ∈ opts) (zc2 : Ev (d + 1) l H (.item (.list es) (.call (.val (.fn 39)) [.loc j, .val (vI m)])) v H') (zc3 : Has H' (Ce ic cs' Γ))
theorem pick {es : List E0} {opts : List AV} {m j : Nat} (hes : Evs (d + 1) l H es opts H) (hl : l[j]? = some (some (.ref ic))) (hm : opts.length = m) (h0 : 0 < m) (g : Has H (Ce ic cs Γ)) : PickR d H Γ ic l es opts m j := by
  obtain ⟨H', cs', x, e, g', hx⟩ := sp39 (d := d) h0 ((g.app (x := .list opts)).swap)
  have hx : x < opts.length := by lia
  refine ⟨H', cs', opts[x], List.getElem_mem hx, ?_, g'.sub (.cons₂ _ (.cons _ (.refl _)))⟩
  exact e_item (e_list hes) (e_fn (e_cons (e_loc hl) (e_cons e_val e_nil)) e) (itemL (g'.at_ _ (.tail _ (.head _))) (List.getElem?_eq_getElem hx))
theorem sp12 {key : List Nat} : Cl (d + 1) 12 [.ref H.length, .str [118, 97, 114], .none, .str key] (H ++ [.inst 1 []]) .none (H ++ [nrObj key]) := by
  apply cl_mk rfl rfl
  · unfold b12; repeat (first | (with_reducible apply e_loc) | apply s_putE | apply s_nil | exact rfl)
  · exact rfl
theorem NdOk.sub : ∀ {p : Nd}, NdOk Φ p → (∀ x ∈ Φ, x ∈ Ψ) → NdOk Ψ p
  | .one _, _, _ => trivial
  | .ways _, _, _ => trivial
  | .fence, _, _ => trivial
  | .abort, _, _ => trivial
  | .fail, _, _ => trivial
  | .cursor _ _, h, q => q _ h
  | .bin _ a b, h, q => ⟨NdOk.sub (p := a) h.1 q, NdOk.sub (p := b) h.2 q⟩
  | .arbno a, h, q => NdOk.sub (p := a) h q
  | .later a _ _, h, q => ⟨NdOk.sub (p := a) h.1 q, q _ h.2⟩
  | .now a _ _, h, q => ⟨NdOk.sub (p := a) h.1 q, q _ h.2⟩
noncomputable def Part (ic : Nat) (k : Nat) (Γ : List (Nat × AObj)) (out : AV → AH → Prop) : Prop :=
  ∃ H' cs' p Δ, out (encN p) H' ∧ Has H' (Ce ic cs' (Δ ++ Γ)) ∧ NdOk Δ p ∧ hm p ≤ k ∧ sz p ≤ 4 ^ (k + 1)
noncomputable def Parts (d ic k : Nat) : Prop := ∀ (H : AH) (cs : List Nat) (Γ : List (Nat × AObj)), Has H (Ce ic cs Γ) → Part ic k Γ fun v H' => Cl d 40 [.ref ic, vI k] H v H'
noncomputable abbrev r40 : List S0 := b40.drop 1
noncomputable abbrev l40 (ic k x : Nat) : Loc := [some (.ref ic), some (vI k), some (vI x)]
theorem pow_ge (k : Nat) : 4 ≤ 4 ^ (k + 1) := by
  have : 0 < 4 ^ k := Nat.pow_pos (by lia)
  rw [Nat.pow_succ]; lia
theorem part_leaf {k x : Nat} (hx : x < 5) (g : Has H (Ce ic cs Γ)) : Part ic k Γ fun v H' => Es (d + 1) (l40 ic k x) H r40 (.ok (.ret v) (l40 ic k x) H') := by
  have p4 := pow_ge k
  have hl : (l40 ic k x)[0]? = some (some (.ref ic)) := rfl
  match x, hx, hl with
  | 0, _, hl =>
    obtain ⟨H1, cs1, v, hv, e, g1⟩ := pick (d := d) (l := l40 ic k 0) (es := [.val (.str [97]), .val (.str [98]), .val (.str [97, 98]), .val (.str [])]) (m := 4) rfl hl rfl (by lia) g
    obtain ⟨t, rfl, ht⟩ : ∃ t, v = .str t ∧ t.length ≤ 2 := by
      simp only [List.mem_cons, List.not_mem_nil, or_false] at hv
      rcases hv with rfl | rfl | rfl | rfl <;> exact ⟨_, rfl, by decide⟩
    refine ⟨H1, cs1, .one (.chars t), [], ?_, g1, trivial, Nat.zero_le _, by show t.length + 1 ≤ _; lia⟩
    show Es _ _ _ (b40.drop 1) (.ok (.ret (.tup [.str kChars, .str t])) _ _)
    unfold b40
    repeat (first | assumption | (with_reducible (first | apply e_nil | apply e_val | apply e_cons | apply e_tup)) | apply s_ret | (apply s_ifT; (· repeat (first | (with_reducible (first | apply e_val | apply e_loc | apply e_cmp)) | exact rfl))))
  | 1, _, hl =>
    obtain ⟨H1, cs1, y, e, g1, _⟩ := sp39 (d := d) (m := 3) (by lia) g
    refine ⟨H1, cs1, .one (.len y), [], ?_, g1, trivial, Nat.zero_le _, by show 0 + 1 ≤ _; lia⟩
    show Es _ _ _ (b40.drop 1) (.ok (.ret (.tup [.str kLen, vI y])) _ _)
    unfold b40
    repeat (first | assumption | (with_reducible (first | apply e_nil | apply e_val | apply e_loc | apply e_cons | apply e_tup | apply e_fn)) | apply s_ret | (apply s_ifF; (· repeat (first | (with_reducible (first | apply e_val | apply e_loc | apply e_cmp)) | exact rfl))) | (apply s_ifT; (· repeat (first | (with_reducible (first | apply e_val | apply e_loc | apply e_cmp)) | exact rfl))))
  | 2, _, hl =>
    obtain ⟨H1, cs1, v, hv, e, g1⟩ := pick (d := d) (l := l40 ic k 2) (es := [.val (.str [97]), .val (.str [97, 98])]) (m := 2) rfl hl rfl (by lia) g
    obtain ⟨t, rfl⟩ : ∃ t, v = .str t := by
      simp only [List.mem_cons, List.not_mem_nil, or_false] at hv
      rcases hv with rfl | rfl <;> exact ⟨_, rfl⟩
    refine ⟨H1, cs1, .one (.any t), [], ?_, g1, trivial, Nat.zero_le _, by show 0 + 1 ≤ _; lia⟩
    show Es _ _ _ (b40.drop 1) (.ok (.ret (.tup [.str kAny, .str t])) _ _)
    unfold b40
    repeat (first | assumption | (with_reducible (first | apply e_nil | apply e_val | apply e_cons | apply e_tup)) | apply s_ret | (apply s_ifF; (· repeat (first | (with_reducible (first | apply e_val | apply e_loc | apply e_cmp)) | exact rfl))) | (apply s_ifT; (· repeat (first | (with_reducible (first | apply e_val | apply e_loc | apply e_cmp)) | exact rfl))))
  | 3, _, hl =>
    obtain ⟨H1, cs1, v, hv, e, g1⟩ := pick (d := d) (l := l40 ic k 3) (es := [.tup [.val (.str kArb)], .tup [.val (.str kBal)], .tup [.val (.str kFence)], .tup [.val (.str kAbort)]]) (opts := [.tup [.str kArb], .tup [.str kBal], .tup [.str kFence], .tup [.str kAbort]]) (m := 4) rfl hl rfl (by lia) g
    obtain ⟨p, rfl, h1, h2, h3⟩ : ∃ p, v = encN p ∧ NdOk [] p ∧ hm p = 0 ∧ sz p = 1 := by
      simp only [List.mem_cons, List.not_mem_nil, or_false] at hv
      rcases hv with rfl | rfl | rfl | rfl
      · exact ⟨.ways true, rfl, trivial, rfl, rfl⟩
      · exact ⟨.ways false, rfl, trivial, rfl, rfl⟩
      · exact ⟨.fence, rfl, trivial, rfl, rfl⟩
      · exact ⟨.abort, rfl, trivial, rfl, rfl⟩
    refine ⟨H1, cs1, p, [], ?_, g1, h1, by lia, by lia⟩
    show Es _ _ _ (b40.drop 1) _
    unfold b40
    repeat (first | assumption | apply s_ret | (apply s_ifF; (· repeat (first | (with_reducible (first | apply e_val | apply e_loc | apply e_cmp)) | exact rfl))) | (apply s_ifT; (· repeat (first | (with_reducible (first | apply e_val | apply e_loc | apply e_cmp)) | exact rfl))))
  | 4, _, hl =>
    have e := sp12 (d := d) (H := H) (key := [67])
    refine ⟨_, cs, .cursor H.length [67], [(H.length, nrObj [67])], ?_, (g.app (x := nrObj [67])).swap, .head _, Nat.zero_le _, by show 1 ≤ _; lia⟩
    show Es _ _ _ (b40.drop 1) (.ok (.ret (.tup [.str kCursor, .ref H.length])) _ _)
    unfold b40
    repeat (first | assumption | (with_reducible (first | apply e_nil | apply e_val | apply e_cons | apply e_tup | apply e_cls)) | apply s_ret | exact rfl | (apply s_ifF; (· repeat (first | (with_reducible (first | apply e_val | apply e_loc | apply e_cmp)) | exact rfl))) | (apply s_ifT; (· repeat (first | (with_reducible (first | apply e_val | apply e_loc | apply e_cmp)) | exact rfl))))
end
end Mine
end
section
namespace Mine
open PySem
section
variable {d : Nat} {H H' : AH} {Γ Φ Ψ Δ : List (Nat × AObj)} {ic : Nat} {cs : List Nat} {l : Loc}
theorem sub1 {k : Nat} : binV H .Sub (vI (k + 1)) (.int 1) = .ok (vI k) H := by
  show Out.ok (AV.int (((k + 1 : Nat) : Int) - 1)) H = _
  rw [show ((k + 1 : Nat) : Int) - 1 = (k : Nat) by lia]
theorem e_dec {k x : Nat} : Ev d (l40 ic (k + 1) x) H (.bin (.loc 1) .Sub (.val (.int 1))) (vI k) H := e_bin (e_loc rfl) e_val sub1
theorem e_40 {k x : Nat} {v : AV} (h : Cl d 40 [.ref ic, vI k] H v H') : Ev d (l40 ic (k + 1) x) H (.call (.val (.fn 40)) [.loc 0, .bin (.loc 1) .Sub (.val (.int 1))]) v H' :=
  e_fn (e_cons (e_loc rfl) (e_cons e_dec e_nil)) h
theorem sk1 {k : Nat} : AV.int (((k + 1 : Nat) : Int) - 1) = vI k := congrArg AV.int (by lia)
theorem pw {k a : Nat} (h : a ≤ 4 ^ (k + 1)) : a + 1 ≤ 4 ^ (k + 1 + 1) := by
  have := pow_ge k
  rw [Nat.pow_succ 4 (k + 1)]; lia
theorem pw2 {k a b : Nat} (h : a ≤ 4 ^ (k + 1)) (h2 : b ≤ 4 ^ (k + 1)) : a + b + 1 ≤ 4 ^ (k + 1 + 1) := by
  have := pow_ge k
  rw [Nat.pow_succ 4 (k + 1)]; lia
theorem part_bin {k x : Nat} (c : Bool) (hx : x = if c then 5 else 6) (IH : Parts (d + 2) ic k) (g : Has H (Ce ic cs Γ)) : Part ic (k + 1) Γ fun v H' => Es (d + 2) (l40 ic (k + 1) x) H r40 (.ok (.ret v) (l40 ic (k + 1) x) H') := by
  obtain ⟨H1, cs1, p, Δ1, e1, g1, n1, h1, s1⟩ := IH _ _ _ (g.app (x := .list [.str kCat, .str kAlt])).swap
  obtain ⟨H2, cs2, q, Δ2, e2, g2, n2, h2, s2⟩ := IH _ _ _ g1
  refine ⟨H2, cs2, .bin c p q, Δ2 ++ Δ1, ?_, g2.sub (.cons₂ _ ?_), ⟨n1.sub fun x hx => List.mem_append_right _ hx, n2.sub fun x hx => List.mem_append_left _ hx⟩, by show max _ _ ≤ _; lia, pw2 s1 s2⟩
  · show Es _ _ _ (b40.drop 1) (.ok (.ret (.tup [.str (if c then kCat else kAlt), encN p, encN q])) _ _)
    induction c using Bool.casesOn with
    | true =>
      obtain rfl : x = 5 := hx
      unfold b40
      repeat (first | (with_reducible (first | apply e_nil | apply e_val | apply e_loc | apply e_cons | apply e_tup | apply e_list | apply e_item | apply e_bin)) | apply s_ret | exact rfl | (apply s_ifF; (· repeat (first | (with_reducible (first | apply e_val | apply e_loc | apply e_cmp)) | exact rfl))) | (apply s_ifT; (· repeat (first | (with_reducible (first | apply e_val | apply e_loc | apply e_cmp)) | exact rfl))))
      · exact itemL (k := 0) gE rfl
      apply e_cons (e_40 e1)
      apply e_cons (e_40 e2)
      repeat (with_reducible apply e_nil)
    | false =>
      obtain rfl : x = 6 := hx
      unfold b40
      repeat (first | (with_reducible (first | apply e_nil | apply e_val | apply e_loc | apply e_cons | apply e_tup | apply e_list | apply e_item | apply e_bin)) | apply s_ret | exact rfl | (apply s_ifF; (· repeat (first | (with_reducible (first | apply e_val | apply e_loc | apply e_cmp)) | exact rfl))) | (apply s_ifT; (· repeat (first | (with_reducible (first | apply e_val | apply e_loc | apply e_cmp)) | exact rfl))))
      · exact itemL (k := 1) gE rfl
      apply e_cons (e_40 e1)
      apply e_cons (e_40 e2)
      repeat (with_reducible apply e_nil)
  · rw [List.append_assoc]
    exact (((List.sublist_cons_self _ _).append_left _).append_left _)
theorem part_arbno {k : Nat} (IH : Parts (d + 2) ic k) (g : Has H (Ce ic cs Γ)) : Part ic (k + 1) Γ fun v H' => Es (d + 2) (l40 ic (k + 1) 7) H r40 (.ok (.ret v) (l40 ic (k + 1) 7) H') := by
  obtain ⟨H1, cs1, p, Δ1, e1, g1, n1, h1, s1⟩ := IH _ _ _ g
  refine ⟨H1, cs1, .arbno p, Δ1, ?_, g1, n1, Nat.succ_le_succ h1, pw s1⟩
  show Es _ _ _ (b40.drop 1) (.ok (.ret (.tup [.str kArbno, encN p])) _ _)
  unfold b40
  repeat (first | (with_reducible (first | apply e_nil | apply e_val | apply e_loc | apply e_cons | apply e_tup | apply e_bin | apply e_fn)) | apply s_ret | exact rfl | (apply s_ifF; (· repeat (first | (with_reducible (first | apply e_val | apply e_loc | apply e_cmp)) | exact rfl))) | (apply s_ifT; (· repeat (first | (with_reducible (first | apply e_val | apply e_loc | apply e_cmp)) | exact rfl))))
  rw [sk1]; exact e1
  repeat (with_reducible apply e_nil)
theorem part_keep {k x : Nat} (c : Bool) (hx : x = if c then 8 else 9) (IH : Parts (d + 2) ic k) (g : Has H (Ce ic cs Γ)) : Part ic (k + 1) Γ fun v H' => Es (d + 2) (l40 ic (k + 1) x) H r40 (.ok (.ret v) (l40 ic (k + 1) x) H') := by
  obtain ⟨H1, cs1, p, Δ1, e1, g1, n1, h1, s1⟩ := IH _ _ _ (g.app (x := .list [.str kLater, .str kNow])).swap
  have e12 := fun key => sp12 (d := d + 1) (H := H1) (key := key)
  have g2 := (g1.app (x := nrObj (if c then [88] else [89]))).swap
  have hk : (H1.length, nrObj (if c then [88] else [89])) ∈ (H1.length, nrObj (if c then [88] else [89])) :: Δ1 := .head _
  refine ⟨_, cs1, if c then .later p H1.length [88] else .now p H1.length [89], (H1.length, nrObj (if c then [88] else [89])) :: Δ1, ?_, g2.sub (.cons₂ _ (.cons₂ _ ((List.sublist_cons_self _ _).append_left _))), ?_, ?_, ?_⟩
  · induction c using Bool.casesOn with
    | true =>
      obtain rfl : x = 8 := hx
      have e := e12 [88]
      show Es _ _ _ (b40.drop 1) (.ok (.ret (.tup [.str kLater, encN p, .ref H1.length])) _ _)
      unfold b40
      repeat (first | (with_reducible (first | apply e_nil | apply e_val | apply e_loc | apply e_cons | apply e_tup | apply e_list | apply e_item | apply e_bin)) | apply s_ret | exact rfl | (apply s_ifF; (· repeat (first | (with_reducible (first | apply e_val | apply e_loc | apply e_cmp)) | exact rfl))))
      · exact itemL (k := 0) gE rfl
      apply e_cons (e_40 e1)
      repeat (first | assumption | (with_reducible (first | apply e_nil | apply e_val | apply e_loc | apply e_cons | apply e_item | apply e_bin | apply e_cls)) | exact rfl)
    | false =>
      obtain rfl : x = 9 := hx
      have e := e12 [89]
      show Es _ _ _ (b40.drop 1) (.ok (.ret (.tup [.str kNow, encN p, .ref H1.length])) _ _)
      unfold b40
      repeat (first | (with_reducible (first | apply e_nil | apply e_val | apply e_loc | apply e_cons | apply e_tup | apply e_list | apply e_item | apply e_bin)) | apply s_ret | exact rfl | (apply s_ifF; (· repeat (first | (with_reducible (first | apply e_val | apply e_loc | apply e_cmp)) | exact rfl))))
      · exact itemL (k := 1) gE rfl
      apply e_cons (e_40 e1)
      repeat (first | assumption | (with_reducible (first | apply e_nil | apply e_val | apply e_loc | apply e_cons | apply e_item | apply e_bin | apply e_cls)) | exact rfl)
  · induction c using Bool.casesOn <;> exact ⟨n1.sub fun x hx => .tail _ hx, hk⟩
  · induction c using Bool.casesOn <;> exact Nat.succ_le_succ h1
  · induction c using Bool.casesOn <;> exact pw s1
theorem part_end {k x m : Nat} {H1 : AH} (e : Cl (d + 1) 39 [.ref ic, vI m] H (vI x) H1) (hm : ∀ H : AH, Ev (d + 1) [some (.ref ic), some (vI k), none] H (.ite (.cmp (.loc 1) [.Gt] [.val (.int 0)]) (.val (.int 10)) (.val (.int 5))) (vI m) H)
    (h : Part ic k Γ fun v H' => Es (d + 1) (l40 ic k x) H1 r40 (.ok (.ret v) (l40 ic k x) H')) : Part ic k Γ fun v H' => Cl (d + 2) 40 [.ref ic, vI k] H v H' := by
  obtain ⟨H', cs', p, Δ, a, b⟩ := h
  refine ⟨H', cs', p, Δ, ?_, b⟩
  apply cl_mk (d := d + 1) rfl rfl (R := .ok (.ret (encN p)) (l40 ic k x) H')
  · show Es _ _ _ (.asg (.name 2) (.call (.val (.fn 39)) [.loc 0, .ite (.cmp (.loc 1) [.Gt] [.val (.int 0)]) (.val (.int 10)) (.val (.int 5))]) :: r40) _
    apply s_asg
    · apply e_fn
      · apply e_cons
        · repeat (first | (with_reducible apply e_loc) | exact rfl)
        apply e_cons (hm _)
        repeat (with_reducible apply e_nil)
      · exact e
    · exact rfl
    exact a
  · rfl
theorem parts : ∀ k, Parts (d + k + 2) ic k
  | 0 => fun H cs Γ g => by
    obtain ⟨H1, cs1, x, e, g1, hx⟩ := sp39 (d := d) (m := 5) (by lia) g
    exact part_end e (fun H => e_ifF (by repeat (first | (with_reducible (first | apply e_val | apply e_loc | apply e_cmp)) | exact rfl)) e_val) (part_leaf hx g1)
  | k + 1 => fun H cs Γ g => by
    have IH := parts k
    obtain ⟨H1, cs1, x, e, g1, hx⟩ := sp39 (d := d + k + 1) (m := 10) (by lia) g
    have hm : ∀ H : AH, Ev (d + k + 1 + 1) [some (.ref ic), some (vI (k + 1)), none] H (.ite (.cmp (.loc 1) [.Gt] [.val (.int 0)]) (.val (.int 10)) (.val (.int 5))) (vI 10) H := fun H => by
      apply e_ifT
      · repeat (first | (with_reducible (first | apply e_val | apply e_loc | apply e_cmp)) | exact rfl)
        exact c_gt (by lia)
      exact e_val
    refine part_end (d := d + k + 1) e hm ?_
    by_cases h5 : x < 5
    · exact part_leaf h5 g1
    by_cases h : x = 5
    · exact part_bin true h IH g1
    by_cases h : x = 6
    · exact part_bin false h IH g1
    by_cases h : x = 7
    · subst h; exact part_arbno IH g1
    by_cases h : x = 8
    · exact part_keep true h IH g1
    · exact part_keep false (by show x = 9; lia) IH g1
end
end Mine
end
section
namespace Mine
open PySem
section
variable {d : Nat} {H H' : AH} {Γ Φ Ψ Δ : List (Nat × AObj)} {ic : Nat} {cs : List Nat} {s : List Nat} {os : List Od}
/- the log -/
noncomputable def LgOk (lg : List AV) : Prop := ∀ x ∈ lg, ∃ key v, x = .tup [.str key, v] ∧ ((∃ t, v = .str t) ∨ ∃ i, v = .int i)
theorem lg_step {od : Od} {w w' : Wy} {ps : List (Option Wy)} {l : List AV} (h : oStep s od w = .go w' ps l) : LgOk l := by
  have nl : LgOk [] := fun x hx => by exact absurd hx List.not_mem_nil
  have keptL : ∀ {f : Nat → List Nat → SR}, kept w f = .go w' ps l → (∀ b ks, f b ks = .go w' ps l → LgOk l) → LgOk l := fun {f} h k => by
    unfold kept at h
    split at h
    · injection h
    · exact k _ _ h
  induction od using Mine.Od.casesOn with
  | one o => change endS w _ = _ at h; cases q : o.ends s w.at_ <;> rw [q] at h <;> (first | (injection h; done) | (injection h with j1 j2 j3; subst j1 j2 j3)); exact nl
  | ways b => change waysS w _ = _ at h; cases q : wyEnds s b w.at_ <;> rw [q] at h <;> (first | (injection h; done) | (injection h with j1 j2 j3; subst j1 j2 j3)); exact nl
  | split k => (injection h with j1 j2 j3; subst j1 j2 j3); exact nl
  | jump k => (injection h with j1 j2 j3; subst j1 j2 j3); exact nl
  | mark => (injection h with j1 j2 j3; subst j1 j2 j3); exact nl
  | name r => exact keptL h fun b ks e => by (injection e with j1 j2 j3; subst j1 j2 j3); exact nl
  | set r key => exact keptL h fun b ks e => by (injection e with j1 j2 j3; subst j1 j2 j3); intro x hx; obtain rfl := List.mem_singleton.mp hx; exact ⟨_, _, rfl, .inl ⟨_, rfl⟩⟩
  | gain =>
    exact keptL h fun b ks e => by
      split at e
      · (injection e with j1 j2 j3; subst j1 j2 j3); exact nl
      · injection e
  | place r key => (injection h with j1 j2 j3; subst j1 j2 j3); intro x hx; obtain rfl := List.mem_singleton.mp hx; exact ⟨_, _, rfl, .inr ⟨_, rfl⟩⟩
  | fence => (injection h with j1 j2 j3; subst j1 j2 j3); exact nl
  | fail => injection h
  | abort => injection h
  | done => injection h
theorem lg_run {n : Nat} {w : Wy} {hist : List (Option Wy)} {lg lf : List AV} {st sf : Nat} {r : Res} (h : Rm s os n w hist lg st r sf lf) : LgOk lg → LgOk lf := by
  induction h with
  | go _ _ _ e _ ih =>
    intro k
    exact ih fun x hx => by
      rcases List.mem_append.mp hx with hx | hx
      · exact k x hx
      · exact lg_step e x hx
  | back _ _ _ _ _ ih => exact ih
  | _ => exact id
theorem lg_same {n : Nat} {lg : List AV} (h : LgOk lg) : all2 (same H (n + 2)) lg lg = true := all2_refl fun x hx => by
  obtain ⟨key, v, rfl, h⟩ := h x hx
  show (same H (n + 1) (.str key) (.str key) && (same H (n + 1) v v && true)) = true
  rw [same_str]
  rcases h with ⟨t, rfl⟩ | ⟨i, rfl⟩
  · rw [same_str]; rfl
  · rw [same_int]; rfl
/- the subject -/
inductive Cp38R (d : Nat) (Γ : List (Nat × AObj)) (ic : Nat) (n : Nat) (a : Nat) (k : Nat) (H : AH) (acc : List (List Nat)) (x1 : Option AV) (x2 : Option AV) : Prop where
  | mk (H' : AH) (cs' : List Nat) (ss : List (List Nat)) (zc1 : cpD (d + 1) c38 c38t [] k (.rng a ((a + n : Nat) : Int)) [some (.ref ic), x1, x2] H (acc.map AV.str) = .ok ((acc ++ ss).map AV.str) H') (zc2 : Has H' (Ce ic cs' Γ)) (zc3 : ss.length = n) (zc4 : ∀ t ∈ ss, t = [97] ∨ t = [98])
theorem cp38 {x2 : Option AV} : ∀ (n a k : Nat) (H : AH) (cs : List Nat) (acc : List (List Nat)) (x1 x2 : Option AV), n < k → acc.length + n < 1000 → Has H (Ce ic cs Γ) →
    Cp38R d Γ ic n a k H acc x1 x2
  | 0, a, k + 1, H, cs, acc, x1, x2, _, _, g => by
    refine ⟨H, cs, [], ?_, g, rfl, fun t h => by exact absurd h List.not_mem_nil⟩
    rw [List.append_nil]
    exact cg_n (by show some (if (a : Int) < ((a + 0 : Nat) : Int) then _ else none) = _; rw [if_neg (by lia)])
  | n + 1, a, k + 1, H, cs, acc, x1, x2, hk, hz, g => by
    obtain ⟨H1, cs1, x, e, g1, hx⟩ := sp39 (d := d) (m := 2) (by lia) g
    obtain ⟨t, ht, hi⟩ : ∃ t, (t = [97] ∨ t = [98]) ∧ itemV H1 (.str [97, 98]) (vI x) = some (.str t) := by
      match x, hx with
      | 0, _ => exact ⟨_, .inl rfl, rfl⟩
      | 1, _ => exact ⟨_, .inr rfl, rfl⟩
    obtain ⟨H', cs', ss, r1, r2, r3, r4⟩ := cp38 (x2 := none) n (a + 1) k H1 cs1 (acc ++ [t]) x1 (some (.int a)) (by lia) (by simp; lia) g1
    refine ⟨H', cs', t :: ss, ?_, r2, by rw [List.length_cons, r3], fun y hy => by
      rcases List.mem_cons.mp hy with rfl | hy
      · exact ht
      · exact r4 y hy⟩
    rw [List.append_assoc, List.map_append, show a + 1 + n = a + (n + 1) by lia] at r1
    refine cg_c (v := .int a) (it' := .rng ((a + 1 : Nat) : Int) ((a + (n + 1) : Nat) : Int)) ?_ rfl ?_ (by have : big = 16777216 := rfl; simp; lia) r1
    · show some (if (a : Int) < ((a + (n + 1) : Nat) : Int) then some (AV.int a, It.rng ((a : Int) + 1) ((a + (n + 1) : Nat) : Int)) else none) = _
      rw [if_pos (by lia)]; rfl
    · unfold c38
      exact e_item e_val (e_fn (e_cons (e_loc rfl) (e_cons e_val e_nil)) e) hi
theorem strs_map : ∀ ss : List (List Nat), strsOf (ss.map AV.str) = some ss
  | [] => rfl
  | a :: r => by show (strsOf (r.map AV.str)).map (a :: ·) = _; rw [strs_map r]; rfl
theorem join_ok : ∀ ss : List (List Nat), (∀ t ∈ ss, t = [97] ∨ t = [98]) → (joinL [] ss).length = ss.length ∧ ∀ c ∈ joinL [] ss, c ≠ 40 ∧ c ≠ 41
  | [], _ => ⟨rfl, fun c h => by exact absurd h List.not_mem_nil⟩
  | [x], h => by rcases h x (.head _) with rfl | rfl <;> exact ⟨rfl, by decide⟩
  | x :: y :: r, h => by
    obtain ⟨h1, h2⟩ := join_ok (y :: r) fun t ht => h t (.tail _ ht)
    have e : joinL [] (x :: y :: r) = x ++ joinL [] (y :: r) := by show x ++ [] ++ joinL [] (y :: r) = _; rw [List.append_nil]
    rw [e]
    refine ⟨?_, fun c hc => ?_⟩
    · rw [List.length_append, h1]
      rcases h x (.head _) with rfl | rfl <;> simp <;> lia
    · rcases List.mem_append.mp hc with hc | hc
      · rcases h x (.head _) with rfl | rfl
        · obtain rfl := List.mem_singleton.mp hc; decide
        · obtain rfl := List.mem_singleton.mp hc; decide
      · exact h2 c hc
theorem joinS {i : Nat} {ss : List (List Nat)} (g : H[i]? = some (.list (ss.map AV.str))) (h : (ss.map (·.length)).sum ≤ 1000) : joinV H [] (.ref i) = .ok (.str (joinL [] ss)) H := by
  show (match H[i]? with | some (.list l) => (match strsOf l with | some x => if (x.map fun t : List Nat => t.length).sum + x.length * ([] : List Nat).length ≤ 16777216 then Out.ok (AV.str (joinL [] x)) H else .bad | none => .bad) | _ => .bad) = _
  rw [g]
  show (match strsOf (ss.map AV.str) with | some x => _ | none => Out.bad) = _
  rw [strs_map]
  exact if_pos (by simp; lia)
/- the cells -/
theorem cp382 {il : Nat} {T : List Int} (hl : H[il]? = some (.list (T.map AV.int))) : ∀ (ts : List Int) (k n : Nat) (l : Loc) (acc : List AV), T.drop k = ts → ts.length < n → l.length = 2 → acc.length + ts.length < 1000 →
    cpD d c382 c382t [] n (.list il k) l H acc = .ok (acc ++ ts.map fun i => vI i.natAbs) H
  | [], k, n + 1, l, acc, ht, _, _, _ => by
    rw [List.map_nil, List.append_nil]
    exact cg_n (it_n hl (List.getElem?_eq_none (by simpa using ht)))
  | p :: ts, k, n + 1, l, acc, ht, hn, h2, hz => by
    have h1 : T[k]? = some p := by rw [← Nat.add_zero k, ← List.getElem?_drop, ht]; rfl
    have h3 : T.drop (k + 1) = ts := by rw [← List.drop_drop, ht]; rfl
    have ih := cp382 hl ts (k + 1) n (l.set 1 (some (.int p))) (acc ++ [vI p.natAbs]) h3 (by simpa using hn) (by simpa using h2) (by simp at hz ⊢; lia)
    rw [List.append_assoc] at ih
    refine cg_c (it_c hl (by rw [List.getElem?_map, h1]; rfl)) (l' := l.set 1 (some (.int p))) (by show setLoc l 1 _ = _; rw [setLoc, if_pos (by lia)]) ?_ (by have : big = 16777216 := rfl; simp at hz; lia) ih
    exact e_bi (e_cons (e_bi (e_cons (e_loc (by rw [List.getElem?_set_self (by lia)])) e_nil) rfl) e_nil) rfl
end
end Mine
end
section
namespace Mine
open PySem
section
variable {d : Nat} {H H' : AH} {Γ Φ Ψ Δ R : List (Nat × AObj)} {ic : Nat} {cs : List Nat} {s : List Nat} {os : List Od} {l : Loc}
theorem Has.pull {x : Nat × AObj} (A : List (Nat × AObj)) (g : Has H (A ++ x :: R)) : Has H (x :: (A ++ R)) := g.perm List.perm_middle
noncomputable abbrev Ho (iho iv ir il : Nat) (Γ : List (Nat × AObj)) : List (Nat × AObj) := (iho, hoObj iv ir il 0) :: (iv, .dict 0) :: (ir, .list []) :: (il, .list []) :: Γ
inductive Host_newR (d : Nat) (H : AH) (Γ : List (Nat × AObj)) : Prop where
  | mk (H' : AH) (iho : Nat) (iv : Nat) (ir : Nat) (il : Nat) (zc1 : (∀ l, Ev (d + 1) l H (.call (.val (.cls 4)) [.dict [] [], .val (.int 90), .list []]) (.ref iho) H')) (zc2 : Has H' (Ho iho iv ir il Γ))
theorem host_new (g : Has H Γ) : Host_newR d H Γ := by
  have e := sp25 (d := d) (H := H ++ [.dict 0] ++ [.list []]) (iv := H.length) (ir := (H ++ [AObj.dict 0]).length)
  have g1 := (((g.app (x := .dict 0)).app (x := .list [])).app (x := hoObj H.length (H ++ [AObj.dict 0]).length ((H ++ [AObj.dict 0] ++ [AObj.list []]).length + 1) 0)).app (x := .list [])
  rw [len1 (H := H ++ [AObj.dict 0] ++ [AObj.list []])] at g1
  refine ⟨_, (H ++ [AObj.dict 0] ++ [AObj.list []]).length, H.length, (H ++ [AObj.dict 0]).length, (H ++ [AObj.dict 0] ++ [AObj.list []]).length + 1, fun l => ?_, Has.pull [_, _, _] (Has.pull [_, _, _] (Has.pull [_, _] g1))⟩
  apply e_cls rfl
  · apply e_cons (rfl : evE _ _ _ _ _ _ = _)
    repeat (with_reducible (first | apply e_nil | apply e_val | apply e_cons | apply e_list))
  · exact e
theorem slI {T : List Int} {n : Nat} : sliceV H (.ilist T) .none (.int n) .none = .ok (.ref H.length) (H ++ [.list ((T.take n).map AV.int)]) := by
  have e : partN (.int (n : Int)) = some (some n) := by simp [partN]
  show (match skOf .none (.int n) .none with | none => Out.bad | some k => _) = _
  rw [show skOf .none (.int n) .none = some (.take n) by unfold skOf; rw [e]; rfl]
  rfl
theorem slD {i n : Nat} {x : List AV} (hx : H[i]? = some (.list x)) : sliceV H (.ref i) (.int n) .none .none = .ok (.ref H.length) (H ++ [.list (x.drop n)]) := by
  have e : partN (.int (n : Int)) = some (some n) := by simp [partN]
  show (match skOf (.int n) .none .none with | none => Out.bad | some k => _) = _
  rw [show skOf (.int n) .none .none = some (.drop n) by unfold skOf; rw [e]; rfl]
  show (match H[i]? with | some (.list l) => Out.ok (AV.ref H.length) (H ++ [AObj.list (SK.ap (.drop n) l)]) | _ => .bad) = _
  rw [hx]; rfl
noncomputable def uN : List Nat := [3, 0, 0, 1, 5, 8, 7, 2, 0, 6, 0, 2, 9, 1, 1, 0, 0, 0, 0, 0, 0, 0, 0, 0, 0, 0]
inductive Law_cellsR (d : Nat) (T : List Int) (x2 : Option AV) (x3 : Option AV) (x4 : Option AV) (x5 : Option AV) (x6 : Option AV) (x7 : Option AV) (x8 : Option AV) (x9 : Option AV) (x10 : Option AV) : Prop where
  | mk (H' : AH) (ic : Nat) (cs : List Nat) (zc1 : Has H' (Ce ic cs [])) (zc2 : ∀ {R}, Es d [some (.ilist T), some (.ref 0), some (.ref ic), x3, x4, x5, x6, x7, x8, x9, x10] H' (b38.drop 2) R → Es d [some (.ilist T), none, x2, x3, x4, x5, x6, x7, x8, x9, x10] [] b38 R)
theorem law_cells {T : List Int} {x2 x3 x4 x5 x6 x7 x8 x9 x10 : Option AV} : Law_cellsR d T x2 x3 x4 x5 x6 x7 x8 x9 x10 := by
  have hl : ((T.take 26).map AV.int).length ≤ 26 := by simp; lia
  have hl2 : ((T.take 26).map fun i => vI i.natAbs).length ≤ 26 := by simp; lia
  have bg : big = 16777216 := rfl
  have hu : uN.length = 26 := rfl
  have c := cp382 (d := d) (H := [.list (uN.map vI)] ++ [.list ((T.take 26).map AV.int)]) (il := 1) (T := T.take 26) rfl (T.take 26) 0 NN [none, none] [] rfl (by unfold NN; simp at hl ⊢; lia) rfl (by simp at hl ⊢; lia)
  rw [List.nil_append] at c
  have ec : (T.take 26).map (fun i => vI i.natAbs) ++ (uN.map vI).drop ((T.take 26).map AV.int).length = (((T.take 26).map Int.natAbs) ++ uN.drop (T.take 26).length).map vI := by
    rw [List.map_append, List.map_map, List.map_drop, List.length_map]; rfl
  refine ⟨[.list (uN.map vI), .list ((T.take 26).map AV.int), .list ((T.take 26).map fun i => vI i.natAbs), .list ((T.take 26).map AV.int), .list ((uN.map vI).drop ((T.take 26).map AV.int).length), .list ((((T.take 26).map Int.natAbs) ++ uN.drop (T.take 26).length).map vI)], 5, _, ⟨by simp, fun p h => by obtain rfl := List.mem_singleton.mp h; rfl⟩, fun {R} hR => ?_⟩
  unfold b38
  apply s_asg
  · repeat (with_reducible (first | apply e_nil | apply e_val | apply e_cons | apply e_list))
  · exact rfl
  apply s_asg
  · apply e_bin
    · apply e_comp
      · apply e_slice
        · repeat (first | (with_reducible apply e_loc) | exact rfl)
        · repeat (with_reducible apply e_val)
        · repeat (with_reducible apply e_val)
        · repeat (with_reducible apply e_val)
        · exact slI (n := 26)
      · exact it_of gE
      · exact c
    · apply e_slice
      · repeat (first | (with_reducible apply e_loc) | exact rfl)
      · apply e_bi
        · apply e_cons
          · apply e_slice
            · repeat (first | (with_reducible apply e_loc) | exact rfl)
            · repeat (with_reducible apply e_val)
            · repeat (with_reducible apply e_val)
            · repeat (with_reducible apply e_val)
            · exact slI (n := 26)
          · repeat (with_reducible apply e_nil)
        · exact lenL gE
      · repeat (with_reducible apply e_val)
      · repeat (with_reducible apply e_val)
      · exact slD (x := uN.map vI) rfl
    · exact binL (x := (T.take 26).map fun i => vI i.natAbs) (y := (uN.map vI).drop ((T.take 26).map AV.int).length) rfl rfl (by simp; lia)
  · exact rfl
  rw [ec]
  exact hR
noncomputable abbrev l38 (x0 x1 : Option AV) (ic : Nat) (s : List Nat) (x4 : Option AV) (io i1 i2 : Nat) (x8 x9 x10 : Option AV) : Loc := [x0, x1, some (.ref ic), some (.str s), x4, some (.ref io), some (.ref i1), some (.ref i2), x8, x9, x10]
inductive Law_madeR (d : Nat) (H : AH) (ic : Nat) (x0 : Option AV) (x1 : Option AV) (x3 : Option AV) (x4 : Option AV) (x5 : Option AV) (x6 : Option AV) (x7 : Option AV) (x8 : Option AV) (x9 : Option AV) (x10 : Option AV) : Prop where
  | mk (H' : AH) (s : List Nat) (y4 : Option AV) (io : Nat) (os : List Od) (o1 : Nat) (v1 : Nat) (r1 : Nat) (l1 : Nat) (o2 : Nat) (v2 : Nat) (r2 : Nat) (l2 : Nat) (Δ : List (Nat × AObj)) (zc1 : (∀ {R}, Es (d + 8) (l38 x0 x1 ic s y4 io o1 o2 x8 x9 x10) H' (b38.drop 6) R → Es (d + 8) [x0, x1, some (.ref ic), x3, x4, x5, x6, x7, x8, x9, x10] H (b38.drop 2) R)) (zc2 : s.length ≤ 8) (zc3 : (∀ c ∈ s, c ≠ 40 ∧ c ≠ 41)) (zc4 : Wf os) (zc5 : (∀ od ∈ os, OdOk Δ od)) (zc6 : 0 < os.length) (zc7 : os.length < 60000) (zc8 : Has H' (Ho o2 v2 r2 l2 (Ho o1 v1 r1 l1 ((io, .list (os.map encO)) :: Δ))))
theorem law_made {x0 x1 x3 x4 x5 x6 x7 x8 x9 x10 : Option AV} (g : Has H (Ce ic cs [])) : Law_madeR d H ic x0 x1 x3 x4 x5 x6 x7 x8 x9 x10 := by
  obtain ⟨H1, cs1, n, e1, g1, hn⟩ := sp39 (d := d + 7) (m := 4) (by lia) g
  obtain ⟨H2, cs2, ss, e2, g2, hlen, hss⟩ := cp38 (d := d + 7) (x2 := none) n 0 NN H1 cs1 [] none none (by unfold NN; lia) (by simp; lia) g1
  rw [Nat.zero_add, List.nil_append] at e2
  obtain ⟨j1, j2⟩ := join_ok ss hss
  have js := joinS (H := H2 ++ [.list (ss.map AV.str)]) (ss := ss) gE (by
    have : ∀ ss : List (List Nat), (∀ t ∈ ss, t = [97] ∨ t = [98]) → (ss.map fun t => t.length).sum = ss.length := fun ss => by
      induction ss with
      | nil => intro _; rfl
      | cons a r ih =>
        intro h
        have := ih fun t ht => h t (.tail _ ht)
        rcases h a (.head _) with rfl | rfl <;> simp [this] <;> lia
    rw [this ss hss]; lia)
  have g3 := (g2.app (x := .list (ss.map AV.str))).tl
  obtain ⟨H4, cs4, p, Δ, e4, g4, n4, h4, s4⟩ := parts (d := d + 3) 3 (H2 ++ [.list (ss.map AV.str)]) cs2 [] g3
  obtain ⟨H5, cs5, v, hv, e5, g5⟩ := pick (d := d + 7) (l := [x0, x1, some (.ref ic), some (.str (joinL [] ss)), some (encN p), x5, x6, x7, x8, x9, x10]) (j := 2) (ic := ic) (es := [.tup [.val (.str kRpos), .val (.int 0)], .tup [.val (.str kFail)], .tup [.val (.str kChars), .val (.str [])]]) (opts := [.tup [.str kRpos, .int 0], .tup [.str kFail], .tup [.str kChars, .str []]]) (m := 3) rfl rfl rfl (by lia) g4
  obtain ⟨q, rfl, q1, q2, q3⟩ : ∃ q, v = encN q ∧ NdOk [] q ∧ hm q = 0 ∧ sz q = 1 := by
    simp only [List.mem_cons, List.not_mem_nil, or_false] at hv
    rcases hv with rfl | rfl | rfl
    · exact ⟨.one (.rpos 0), rfl, trivial, rfl, rfl⟩
    · exact ⟨.fail, rfl, trivial, rfl, rfl⟩
    · exact ⟨.one (.chars []), rfl, trivial, rfl, rfl⟩
  rw [List.append_nil] at g5
  obtain ⟨H6, io, os, e6, g6, w1, w2, w3, w4⟩ := sp11 (d := d + 3) (p := .bin true p q) (Ψ := Δ) (h := 3) g5 ⟨⟨n4, q1.sub fun x hx => by exact absurd hx List.not_mem_nil⟩, by show max _ _ ≤ _; lia⟩ (by lia) (by show sz p + sz q + 1 ≤ 5000; have : 4 ^ (3 + 1) = 256 := rfl; lia)
  obtain ⟨H7, o1, v1, r1, l1, e7, g7⟩ := host_new (d := d + 7) (g6.sub (.cons₂ _ (.cons _ (.refl _))))
  obtain ⟨H8, o2, v2, r2, l2, e8, g8⟩ := host_new (d := d + 7) g7
  refine ⟨H8, joinL [] ss, some (encN p), io, os, o1, v1, r1, l1, o2, v2, r2, l2, Δ, fun {R} hR => ?_, by lia, j2, w1, w2, w3, w4, g8⟩
  show Es _ _ _ (b38.drop 2) _
  unfold b38
  apply s_asg
  · apply e_sm
    · repeat (with_reducible apply e_val)
    · apply e_cons
      · apply e_comp
        · apply e_bi
          · apply e_cons
            · repeat (first | assumption | (with_reducible (first | apply e_nil | apply e_val | apply e_loc | apply e_cons | apply e_fn)) | exact rfl)
            · repeat (with_reducible apply e_nil)
          · exact (by
              show (if (0 : Int) ≤ (n : Int) ∧ (n : Int) ≤ 1000000 then Out.ok (AV.rng 0 n) H1 else .bad) = _
              rw [if_pos ⟨by lia, by lia⟩] : biV H1 .range [vI n] = .ok (.rng 0 n) H1)
        · exact rfl
        · exact e2
      · repeat (with_reducible apply e_nil)
    · exact js
  · exact rfl
  apply s_asg
  · apply e_fn
    · repeat (first | (with_reducible (first | apply e_nil | apply e_val | apply e_loc | apply e_cons)) | exact rfl)
    · exact e4
  · exact rfl
  apply s_asg
  · apply e_fn
    · apply e_cons
      · apply e_tup
        apply e_cons
        · repeat (with_reducible apply e_val)
        apply e_cons
        · repeat (first | (with_reducible apply e_loc) | exact rfl)
        apply e_cons
        · exact e5
        repeat (with_reducible apply e_nil)
      repeat (with_reducible apply e_nil)
    · exact e6
  · exact rfl
  apply s_tup
  · apply e_tup
    apply e_cons (e7 _)
    apply e_cons (e8 _)
    repeat (with_reducible apply e_nil)
  · exact rfl
  · exact rfl
  exact hR
end
end Mine
end
section
namespace Mine
open PySem
section
variable {d : Nat} {H H' : AH} {Γ Φ Ψ Δ R : List (Nat × AObj)} {ic : Nat} {cs : List Nat} {s : List Nat} {os : List Od} {l : Loc}
theorem law_ret {l : Loc} {v8 v10 : AV} {o1 v1 r1 l1 o2 v2 r2 l2 st : Nat} {lg : List AV} (h6 : l[6]? = some (some (.ref o1))) (h7 : l[7]? = some (some (.ref o2))) (h8 : l[8]? = some (some v8)) (h10 : l[10]? = some (some v10)) (q : cmpV H .Eq v8 v10 = some true)
    (a1 : H[o1]? = some (hoObj v1 r1 l1 st)) (a2 : H[o2]? = some (hoObj v2 r2 l2 st)) (b1 : H[l1]? = some (.list lg)) (b2 : H[l2]? = some (.list lg)) (hl : LgOk lg) : Es (d + 8) l H (b38.drop 8) (.ok (.ret (.bool true)) l H) := by
  unfold b38
  show Es _ _ _ [.ret _] _
  apply s_ret
  apply e_andT
  · exact e_cmp (e_loc h8) (e_loc h10) q
  apply e_andT
  · exact e_cmp (e_attr (e_loc h6) a1 rfl) (e_attr (e_loc h7) a2 rfl) (c_eqL b1 b2 (lg_same hl))
  apply e_one
  exact e_cmp (e_attr (e_loc h6) a1 rfl) (e_attr (e_loc h7) a2 rfl) (c_eqi rfl)
theorem law_swap {o1 v1 r1 l1 o2 v2 r2 l2 io : Nat} (g : Has H (Ho o2 v2 r2 l2 (Ho o1 v1 r1 l1 ((io, .list (os.map encO)) :: Δ)))) : Has H (Bg o1 io l1 v1 r1 os ((o2, hoObj v2 r2 l2 0) :: (v2, .dict 0) :: (r2, .list []) :: (l2, .list []) :: Δ)) :=
  Has.pull [_, _, _, _, _, _, _, _] (Has.pull [_, _, _, _, _, _, _, _] (Has.pull [_, _, _, _, _, _, _] (Has.pull [_, _, _, _, _, _, _] (Has.pull [_, _, _, _, _, _, _] g))))
theorem law_swap2 {o1 l1 o2 v2 r2 l2 io : Nat} {x y z : AObj} (g : Has H ((o1, x) :: (io, .list (os.map encO)) :: (l1, y) :: (ic, z) :: (o2, hoObj v2 r2 l2 0) :: (v2, .dict 0) :: (r2, .list []) :: (l2, .list []) :: Δ)) : Has H (Bg o2 io l2 v2 r2 os ((o1, x) :: (l1, y) :: Δ)) :=
  Has.pull [_, _, _, _, _, _] (Has.pull [_, _, _, _] (Has.pull [_, _, _, _, _, _] (Has.pull [_, _, _, _, _, _] (Has.pull [_, _, _, _, _, _] (g.sub (.cons₂ _ (.cons₂ _ (.cons₂ _ (.cons _ (.refl _))))))))))
theorem law_end {x0 x1 y4 : Option AV} {io o1 v1 r1 l1 o2 v2 r2 l2 : Nat} (hs : s.length ≤ 8) (hc : ∀ c ∈ s, c ≠ 40 ∧ c ≠ 41) (F : Wf os) (hos : ∀ od ∈ os, OdOk Δ od) (h0 : 0 < os.length) (hz : os.length < 60000) (g : Has H (Ho o2 v2 r2 l2 (Ho o1 v1 r1 l1 ((io, .list (os.map encO)) :: Δ)))) :
    ∃ H' l', Es (d + 8) (l38 x0 x1 ic s y4 io o1 o2 none none none) H (b38.drop 6) (.ok (.ret (.bool true)) l' H') := by
  have M := ms_init (s := s) (law_swap g)
  obtain ⟨X, g1, up, _, _, _, hio⟩ := M.more
  obtain ⟨H2, ih, e41, g2⟩ := sp41 (d := d + 7) hz g1 (List.mem_append_left _ hio)
  have M2 := up H2 [_] g2
  have hos2 : ∀ {Ψ : List (Nat × AObj)}, (∀ x ∈ Δ, x ∈ Ψ) → ∀ od ∈ os, OdOk Ψ od := fun q od ho => (hos od ho).sub q
  obtain ⟨r, st, lg, rm, k⟩ := sp45 (d := d + 1) F h0 (hos2 fun x hx => .tail _ (.tail _ (.tail _ (.tail _ (.tail _ hx))))) hc hs (.head _) M2
  have hlg := lg_run rm (fun x hx => by exact absurd hx List.not_mem_nil)
  have e15 := sp15 (d := d + 7) (H := H) (s := s) (iho := o1)
  have args : Evs (d + 8) (l38 x0 x1 ic s y4 io o1 o2 none none none) H [.call (.val (.cls 3)) [.loc 3, .loc 6], .call (.val (.cls 2)) [.loc 5, .val (.int 0), .val (.int 0), .val (.none), .val (.none), .val (.none)], .call (.val (.fn 41)) [.loc 5], .loc 6] [.ref H.length, .ref (H.length + 2), .ref ih, .ref o1] H2 := by
    apply e_cons
    · repeat (first | assumption | (with_reducible (first | apply e_nil | apply e_loc | apply e_cons | apply e_cls)) | exact rfl)
    have e2 : (H ++ [mtObj s o1 (H.length + 1)] ++ [AObj.list []]).length = H.length + 2 := by rw [len1, len1]
    rw [← e2]
    apply e_cons
    · repeat (first | (with_reducible (first | apply e_nil | apply e_val | apply e_loc | apply e_cons | apply e_cls)) | exact rfl)
      exact sp13
    repeat (first | assumption | (with_reducible (first | apply e_nil | apply e_loc | apply e_cons | apply e_fn)) | exact rfl)
  have e6 : b38.drop 6 = .try_ (.asg (.name 8) (.call (.val (.fn 45)) [.call (.val (.cls 3)) [.loc 3, .loc 6], .call (.val (.cls 2)) [.loc 5, .val (.int 0), .val (.int 0), .val (.none), .val (.none), .val (.none)], .call (.val (.fn 41)) [.loc 5], .loc 6])) 9 8 :: .try_ (.asg (.name 10) (.call (.val (.fn 24)) [.loc 5, .loc 3, .val (.bool true), .loc 7])) 9 10 :: b38.drop 8 := rfl
  rw [e6]
  have fin2 : ∀ {H3 : AH} {Δ' : List (Nat × AObj)}, (∀ x ∈ Δ, x ∈ Δ') → Has H3 ((o1, hoObj v1 r1 l1 st) :: (io, .list (os.map encO)) :: (l1, .list lg) :: (ih, .list ((htsO os).map AV.int)) :: (o2, hoObj v2 r2 l2 0) :: (v2, .dict 0) :: (r2, .list []) :: (l2, .list []) :: Δ') →
      FolIs ⟨H3.length, o2, io, v2, r2, l2, H3.length + 1⟩ os ((o1, hoObj v1 r1 l1 st) :: (l1, .list lg) :: Δ') st lg (callD P2 NN (d + 8) 24 [.ref io, .str s, .bool true, .ref o2] H3) r := fun q g3 =>
    sp24 (d := d) F h0 (hos2 fun x hx => .tail _ (.tail _ (q x hx))) hc hs rm (law_swap2 g3)
  induction r using Mine.Res.casesOn with
  | met w =>
    obtain ⟨H3, rr, k1, g3, _⟩ := k
    have g4 := g3.perm (List.perm_middle (l₁ := [_, _, _, _, _, _, _, _])).symm
    obtain ⟨H5, r5, k5, g5, n5⟩ := fin2 (fun x hx => .tail _ hx) g4
    refine ⟨H5, _, s_tryN (s_asg (e_fn args ⟨k1⟩) rfl s_nil) (s_tryN (s_asg (e_fn (by repeat (first | (with_reducible (first | apply e_nil | apply e_val | apply e_loc | apply e_cons)) | exact rfl)) ⟨k5⟩) rfl s_nil) (law_ret rfl rfl rfl rfl ?_ (g5.at_ _ (.tail _ (.tail _ (.tail _ (.tail _ (.head _)))))) (g5.at_ _ (.tail _ (.head _))) (g5.at_ _ (.tail _ (.tail _ (.tail _ (.tail _ (.tail _ (.head _))))))) (g5.at_ _ (.tail _ (.tail _ (.tail _ (.head _))))) hlg))⟩
    have m5 := n5.sub fun x hx => List.mem_append_right [(r5, AObj.list w.nm.reverse), (o2, hoObj v2 r2 l2 st), (io, .list (os.map encO)), (l2, .list lg)] hx
    show (if all2 (same H5 8) [.int 0, vI w.at_, .ref rr] [.int 0, vI w.at_, .ref r5] = true then some true else none) = _
    refine if_pos ?_
    show (same H5 8 (.int 0) (.int 0) && (same H5 8 (vI w.at_) (vI w.at_) && (sameR (same H5 7) H5 rr r5 && true))) = true
    rw [same_int, same_int, same_ref (g5.at_ _ (.tail _ (.tail _ (.tail _ (.tail _ (.tail _ (.tail _ (.head _))))))) ) g5.hd (same_nm g5 fun x hx => m5 x (List.mem_reverse.mp hx))]
    rfl
  | non =>
    obtain ⟨H3, k1, g3⟩ := k
    obtain ⟨H5, k5, g5⟩ := fin2 (fun x hx => hx) g3
    exact ⟨H5, _, s_tryN (s_asg (e_fn args ⟨k1⟩) rfl s_nil) (s_tryN (s_asg (e_fn (by repeat (first | (with_reducible (first | apply e_nil | apply e_val | apply e_loc | apply e_cons)) | exact rfl)) ⟨k5⟩) rfl s_nil) (law_ret rfl rfl rfl rfl rfl (g5.at_ _ (.tail _ (.tail _ (.tail _ (.head _))))) (g5.at_ _ (.head _)) (g5.at_ _ (.tail _ (.tail _ (.tail _ (.tail _ (.head _)))))) (g5.at_ _ (.tail _ (.tail _ (.head _)))) hlg))⟩
  | exc =>
    obtain ⟨H3, k1, g3⟩ := k
    obtain ⟨H5, k5, g5⟩ := fin2 (fun x hx => hx) g3
    exact ⟨H5, _, s_tryX (s_asgX (e_fnX args rfl k1)) rfl (s_tryX (s_asgX (e_fnX (by repeat (first | (with_reducible (first | apply e_nil | apply e_val | apply e_loc | apply e_cons)) | exact rfl)) rfl k5)) rfl (law_ret rfl rfl rfl rfl rfl (g5.at_ _ (.tail _ (.tail _ (.tail _ (.head _))))) (g5.at_ _ (.head _)) (g5.at_ _ (.tail _ (.tail _ (.tail _ (.tail _ (.head _)))))) (g5.at_ _ (.tail _ (.tail _ (.head _)))) hlg))⟩
theorem law_is {T : List Int} : ∃ H', callD P2 NN (d + 9) 38 [.ilist T] [] = .ok (.bool true) H' := by
  obtain ⟨H1, ic, cs, g1, k1⟩ := law_cells (d := d + 8) (T := T) (x2 := none) (x3 := none) (x4 := none) (x5 := none) (x6 := none) (x7 := none) (x8 := none) (x9 := none) (x10 := none)
  obtain ⟨H2, s, y4, io, os, o1, v1, r1, l1, o2, v2, r2, l2, Δ, k2, a1, a2, a3, a4, a5, a6, g2⟩ := law_made (d := d) (x0 := some (.ilist T)) (x1 := some (.ref 0)) (x3 := none) (x4 := none) (x5 := none) (x6 := none) (x7 := none) (x8 := none) (x9 := none) (x10 := none) g1
  obtain ⟨H3, l', k3⟩ := law_end (d := d) (x0 := some (.ilist T)) (x1 := some (.ref 0)) (ic := ic) (y4 := y4) a1 a2 a3 a4 a5 a6 g2
  exact ⟨H3, (cl_mk (d := d + 8) (k := 38) (np := 1) (ns := 10) (args := [.ilist T]) rfl rfl (k1 (k2 k3)) rfl).eq⟩
end
end Mine
end
section
namespace Mine
open PySem PySem.W PySem.Calls PyProof.Rows
noncomputable def nm1 : List Str := [Str.ofString "append", Str.ofString "pop", Str.ofString "extend", Str.ofString "insert", Str.ofString "reverse", Str.ofString "join", Str.ofString "get", Str.ofString "told", Str.ofString "number", Str.ofString "orders", Str.ofString "pc", Str.ofString "at", Str.ofString "named", Str.ofString "marks", Str.ofString "calls", Str.ofString "subject", Str.ofString "host", Str.ofString "history", Str.ofString "values", Str.ofString "limit", Str.ofString "refused", Str.ofString "width", Str.ofString "steps", Str.ofString "log", Str.ofString "kind", Str.ofString "owner", Str.ofString "key", Str.ofString "emit", Str.ofString "put", Str.ofString "begun", Str.ofString "choice", Str.ofString "repeat", Str.ofString "bound", Str.ofString "copied", Str.ofString "run", Str.ofString "way_back", Str.ofString "done", Str.ofString "met_once", Str.ofString "ended", Str.ofString "other", Str.ofString "met_often", Str.ofString "asked", Str.ofString "assign", Str.ofString "step", Str.ofString "value_of"]
noncomputable def gt1 : List (Str × AV) := [(Str.ofString "row_of", AV.fn 0), (Str.ofString "is_plain_text", AV.fn 1), (Str.ofString "with_texts_joined", AV.fn 2), (Str.ofString "straightened", AV.fn 10), (Str.ofString "compile_pattern", AV.fn 11), (Str.ofString "named_rows", AV.fn 23), (Str.ofString "match_orders", AV.fn 24), (Str.ofString "chars_end", AV.fn 28), (Str.ofString "len_end", AV.fn 29), (Str.ofString "rpos_end", AV.fn 30), (Str.ofString "any_at", AV.fn 31), (Str.ofString "arb_ends", AV.fn 32), (Str.ofString "bal_end", AV.fn 33), (Str.ofString "bal_ends", AV.fn 34), (Str.ofString "one_end", AV.fn 35), (Str.ofString "plain_end", AV.fn 36), (Str.ofString "ends_of", AV.fn 37), (Str.ofString "law", AV.fn 38), (Str.ofString "_law_pick", AV.fn 39), (Str.ofString "_law_part", AV.fn 40), (Str.ofString "_law_open", AV.fn 41), (Str.ofString "_law_row", AV.fn 42), (Str.ofString "_law_state", AV.fn 43), (Str.ofString "_law_is_sound", AV.fn 44), (Str.ofString "_law_followed", AV.fn 45), (Str.ofString "PatternCode", AV.cls 0), (Str.ofString "NameRef", AV.cls 1), (Str.ofString "Way", AV.cls 2), (Str.ofString "Match", AV.cls 3), (Str.ofString "PlainHost", AV.cls 4), (Str.ofString "SnobolError", AV.cls 5), (Str.ofString "ONE", AV.str [111, 110, 101]), (Str.ofString "WAYS", AV.str [119, 97, 121, 115]), (Str.ofString "SPLIT", AV.str [115, 112, 108, 105, 116]), (Str.ofString "JUMP", AV.str [106, 117, 109, 112]), (Str.ofString "MARK", AV.str [109, 97, 114, 107]), (Str.ofString "NAME", AV.str [110, 97, 109, 101]), (Str.ofString "SET", AV.str [115, 101, 116]), (Str.ofString "GAIN", AV.str [103, 97, 105, 110]), (Str.ofString "PLACE", AV.str [112, 108, 97, 99, 101]), (Str.ofString "ASK", AV.str [97, 115, 107]), (Str.ofString "FENCE", AV.str [102, 101, 110, 99, 101]), (Str.ofString "FAIL", AV.str [102, 97, 105, 108]), (Str.ofString "ABORT", AV.str [97, 98, 111, 114, 116]), (Str.ofString "SUCCEED", AV.str [115, 117, 99, 99, 101, 101, 100]), (Str.ofString "DONE", AV.str [100, 111, 110, 101]), (Str.ofString "PUT", AV.str [112, 117, 116]), (Str.ofString "EMIT", AV.str [101, 109, 105, 116]), (Str.ofString "OPEN", AV.str [111, 112, 101, 110]), (Str.ofString "SHUT", AV.str [115, 104, 117, 116]), (Str.ofString "MEET", AV.str [109, 101, 101, 116]), (Str.ofString "OPENING", AV.str [40]), (Str.ofString "CLOSING", AV.str [41]), (Str.ofString "MET", AV.int 0), (Str.ofString "FAILED", AV.int 1), (Str.ofString "OVER", AV.int 2), (Str.ofString "SINGLE", AV.tup [AV.str [99, 104, 97, 114, 115], AV.str [108, 101, 110], AV.str [112, 111, 115], AV.str [114, 112, 111, 115], AV.str [116, 97, 98], AV.str [114, 116, 97, 98], AV.str [97, 110, 121], AV.str [110, 111, 116, 97, 110, 121], AV.str [115, 112, 97, 110], AV.str [98, 114, 101, 97, 107], AV.str [114, 101, 109]]), (Str.ofString "ALONE", AV.tup [AV.str [102, 101, 110, 99, 101], AV.str [102, 97, 105, 108], AV.str [97, 98, 111, 114, 116], AV.str [115, 117, 99, 99, 101, 101, 100]]), (Str.ofString "len", AV.bi .len), (Str.ofString "isinstance", AV.bi .isi), (Str.ofString "abs", AV.bi .abs), (Str.ofString "int", AV.bi .int), (Str.ofString "range", AV.bi .range), (Str.ofString "sorted", AV.bi .sorted), (Str.ofString "list", AV.bi .list), (Str.ofString "str", AV.bi .str), (Str.ofString "tuple", AV.bi .tuple)]
noncomputable def fnL : List Nat := [23, 30, 37, 51, 58, 65, 70, 77, 84, 91, 105, 112, 205, 439, 446, 467, 474, 481, 488, 495, 502, 509, 516, 537, 544, 558, 572, 579, 306, 313, 327, 355, 390, 397, 404, 411, 418, 425, 636, 593, 600, 607, 614, 621, 626, 631]
noncomputable def clL : List Nat := [94, 208, 449, 526, 582, 132]
noncomputable def fnA1 (k : Nat) : Addr := fnL.getD k 0
noncomputable def clA1 (k : Nat) : Addr := clL.getD k 0
noncomputable def C1 (prog : Program) (w : World) (K : Frag) (base : Heap) : Cx := ⟨prog, w, K, base, nm1, gt1, fnA1, clA1, 5⟩
structure FnData where
  oc : Value
  od : Option Addr
  osl : Array (Option Value)
  fd : FuncData
noncomputable def fnDat (K : Frag) (a : Addr) : FnData := match K.lookup a with
  | some ⟨oc, od, .func fd, osl⟩ => ⟨oc, od, osl, fd⟩
  | _ => ⟨.none, none, #[], default⟩
noncomputable def psOf (fd : FuncData) : List Str := fd.params.args.map (·.arg)
noncomputable def moreOf (fd : FuncData) : List Str := fd.scope.names.filterMap fun n => if (n.2 == .local || n.2 == .cell) && !(psOf fd).contains n.1 then some n.1 else none
noncomputable def bodyOf (nm : List Str) (gt : List (Str × AV)) (fd : FuncData) : List S := match fd.body with
  | .stmts b => erSs nm gt fd.scope (psOf fd ++ moreOf fd) b
  | _ => []
noncomputable def okFn (K : Frag) (fd : FuncData) : Bool :=
  ((codeIn K fd.code fd.qualname && okSs nm1 gt1 5 (bodyOf nm1 gt1 fd) fd.scope (psOf fd ++ moreOf fd)) && (fd.scope.kind == .function && (!fd.scope.isCoroutine && !fd.scope.isGenerator))) && ((fd.closure.isEmpty && (fd.globals == mainGlobals && fd.builtins == builtinsNs)) && (decide (fd.scope.names.map (·.1)).Nodup && ((psOf fd).all (fun x => fd.scope.names.lookup x == some .local) && decide (psOf fd ++ moreOf fd).Nodup)))
noncomputable def obAt (K : Frag) (a : Addr) : Obj := match K.lookup a with
  | some o => o
  | none => ⟨.none, none, .plain, #[]⟩
noncomputable def fdAt (K : Frag) (k : Nat) : FuncData := match (obAt K (fnA1 k)).data with
  | .func fd => fd
  | _ => default
noncomputable def psAt (K : Frag) (k : Nat) : List Str := psOf (fdAt K k)
noncomputable def moAt (K : Frag) (k : Nat) : List Str := moreOf (fdAt K k)
noncomputable def boAt (K : Frag) (k : Nat) : List S := bodyOf nm1 gt1 (fdAt K k)
noncomputable def r46 : List Nat := List.range 46
theorem map_at {α : Type} {f g : Nat → α} (h : r46.map f = r46.map g) {k : Nat} (hk : k < 46) : f k = g k := List.map_inj_left.mp h k (List.mem_range.mpr hk)
theorem take7 {vs : List Value} (h : vs.length ≤ 7) : [vs.getD 0 .none, vs.getD 1 .none, vs.getD 2 .none, vs.getD 3 .none, vs.getD 4 .none, vs.getD 5 .none, vs.getD 6 .none].take vs.length = vs := by
  rcases vs with _ | ⟨a, _ | ⟨b, _ | ⟨c, _ | ⟨d, _ | ⟨e, _ | ⟨f, _ | ⟨g, _ | ⟨x, r⟩⟩⟩⟩⟩⟩⟩⟩ <;> first | rfl | skip
  exact absurd h (by simp only [List.length_cons]; omega)
noncomputable def fldB (K : Frag) (A : Addr) (x : Str) : Bool := (plainGet K A x && hasDictIn K A) && ((findIn K (.ref A) x == some none && plainOver K A) && findIn K (.ref A) "__setattr__" == some (some (.builtin "object.__setattr__")))
noncomputable def clsB (K : Frag) (A B : Addr) : Bool := (keepIn K (.ref A) && makesIn K A) && (findIn K (.ref A) "__init__" == some (some (.ref B)) && typeIn K (.ref B) == some (.type "function"))
noncomputable def mthB (K : Frag) (A B : Addr) (x : Str) : Bool := plainGet K A x && (findIn K (.ref A) x == some (some (.ref B)) && typeIn K (.ref B) == some (.type "function"))
noncomputable def strOk (s : List Nat) : Value → Bool
  | .str t _ => t.cps.toList == s && decide (s.length ≤ big)
  | _ => false
noncomputable def strAny : AV → Value → Bool
  | .str s, v => strOk s v
  | _, _ => false
noncomputable def strsOk : List AV → List Value → Bool
  | [], [] => true
  | a :: r, v :: vs => strAny a v && strsOk r vs
  | _, _ => false
noncomputable def isInt (i : Int) : Value → Bool
  | .int j _ => i == j
  | _ => false
noncomputable def isSeq : Data → Option (Array Value × Nat)
  | .seq vs n => some (vs, n)
  | _ => none
noncomputable def tupB (K : Frag) (l : List AV) (a : Addr) : Bool := match K.lookup a with
  | some o => (match isSeq o.data with | some (vs, _) => o.cls == .type "tuple" && (strsOk l vs.toList && decide (l.length ≤ big)) | none => false)
  | none => false
noncomputable def isRef : Value → Option Addr
  | .ref a => some a
  | _ => none
noncomputable def vOk (K : Frag) (fnA clA : Nat → Addr) (v : AV) (rv : Value) : Bool := match v with
  | .int i => isInt i rv
  | .str s => strOk s rv
  | .fn k => isRef rv == some (fnA k)
  | .cls c => isRef rv == some (clA c)
  | .tup l => (match isRef rv with | some a => tupB K l a | none => false)
  | _ => false
noncomputable def okName (K : Frag) (fnA clA : Nat → Addr) (q : Str × AV) : Bool := match nsIn K mainGlobals q.1, q.2 with
  | some (some rv), v => vOk K fnA clA v rv
  | some none, .bi b => bootBuiltins q.1 == some (biVal b) && q.1 != ("__name__" : Str)
  | _, _ => false
section
variable {C : Cx} {μ : Mu} {h : Heap}
theorem strOk_ok {s : List Nat} {v : Value} (e : strOk s v = true) : VR C μ h (.str s) v := by
  rcases v with _ | _ | _ | _ | _ | _ | _ | _ | _ | _ | _ <;> first | exact absurd e Bool.false_ne_true | skip
  have e := and2 e
  simp only [VR]
  exact ⟨of_decide_eq_true e.2, _, by rw [← beq_iff_eq.mp e.1]⟩
theorem isInt_ok {i : Int} {v : Value} (e : isInt i v = true) : VR C μ h (.int i) v := by
  rcases v with _ | _ | _ | _ | _ | _ | _ | _ | _ | _ | _ <;> first | exact absurd e Bool.false_ne_true | skip
  simp only [VR]
  exact ⟨_, by rw [beq_iff_eq.mp (show (i == _) = true from e)]⟩
theorem isRef_ok {a : Addr} {v : Value} (e : isRef v = some a) : v = .ref a := by
  rcases v with _ | _ | _ | _ | _ | _ | _ | _ | _ | _ | _ <;> first | (injection e; done) | skip
  injection e with e; rw [e]
theorem strAny_ok {a : AV} {v : Value} (e : strAny a v = true) : VR C μ h a v := by
  induction a using AV.casesOn <;> first | exact strOk_ok e | exact absurd e Bool.false_ne_true
theorem strsOk_ok {l : List AV} : ∀ {vs : List Value}, strsOk l vs = true → VRs C μ h l vs := by
  induction l with
  | nil => intro vs e; rcases vs with _ | _; · simp only [VRs]
           · exact absurd e Bool.false_ne_true
  | cons a r ih =>
    intro vs e
    rcases vs with _ | ⟨v, vs⟩
    · exact absurd e Bool.false_ne_true
    · simp only [VRs]; exact ⟨strAny_ok (and2 e).1, ih (and2 e).2⟩
theorem isSeq_ok {d : Data} {p : Array Value × Nat} (e : isSeq d = some p) : d = .seq p.1 p.2 := by
  induction d using Data.casesOn <;> first | (injection e; done) | skip
  injection e with e; rw [← e]
theorem tupB_ok (X : C.K.In C.base) (hst : ∀ b o, C.base.get? b = some o → h.get? b = some o) (hnew : ∀ p ∈ μ, C.base.get? p.1 = none ∧ C.base.get? p.2 = none) {l : List AV} {a : Addr} (e : tupB C.K l a = true) : VR C μ h (.tup l) (.ref a) := by
  unfold tupB at e
  cases ho : C.K.lookup a with
  | none => rw [ho] at e; exact absurd e Bool.false_ne_true
  | some o =>
    rw [ho] at e
    have e : (match isSeq o.data with | some (vs, _) => o.cls == .type "tuple" && (strsOk l vs.toList && decide (l.length ≤ big)) | none => false) = true := e
    cases hs : isSeq o.data with
    | none => rw [hs] at e; exact absurd e Bool.false_ne_true
    | some p =>
    rw [hs] at e
    have e := and2 e
    have e2 := and2 e.2
    simp only [VR]
    refine ⟨of_decide_eq_true e2.2, a, o, p.1, p.2, rfl, fun q => ?_, hst _ _ (X _ _ ho), beq_iff_eq.mp e.1, isSeq_ok hs, strsOk_ok e2.1⟩
    obtain ⟨p, hp, q⟩ := q
    have b := X _ _ ho
    rcases q with rfl | rfl
    · rw [(hnew p hp).1] at b; injection b
    · rw [(hnew p hp).2] at b; injection b
theorem vOk_ok (X : C.K.In C.base) (hst : ∀ b o, C.base.get? b = some o → h.get? b = some o) (hnew : ∀ p ∈ μ, C.base.get? p.1 = none ∧ C.base.get? p.2 = none) {v : AV} {rv : Value} (e : vOk C.K C.fnA C.clA v rv = true) : VR C μ h v rv := by
  induction v using AV.casesOn with
  | int i => exact isInt_ok e
  | str s => exact strOk_ok e
  | fn k => simp only [VR]; exact isRef_ok (beq_iff_eq.mp (show (isRef rv == some (C.fnA k)) = true from e))
  | cls c => simp only [VR]; exact isRef_ok (beq_iff_eq.mp (show (isRef rv == some (C.clA c)) = true from e))
  | tup l =>
    have e : (match isRef rv with | some a => tupB C.K l a | none => false) = true := e
    cases q : isRef rv with
    | none => rw [q] at e; exact absurd e Bool.false_ne_true
    | some a => rw [q] at e; rw [isRef_ok q]; exact tupB_ok X hst hnew e
  | _ => exact absurd e Bool.false_ne_true
set_option tactic.hygienic true
theorem gname_of {mg mb : Str → Option Value} {p : Program} {loose : List Str} (X : C.K.In C.base) (T : TopRead p loose mg mb C.base) (hall : C.gt.all (okName C.K C.fnA C.clA) = true) : GName C mg mb where
  g := T.g
  b := T.b
  ok := fun g x v hg => by
    have e := List.all_eq_true.mp hall (x, v) (List.mem_of_getElem? hg)
    unfold okName at e
    dsimp only at e
    split at e
    · rename_i rv hn
      exact ⟨rv, .inl (mg_of X T.g hn), fun μ h hst hnew => vOk_ok X hst hnew e⟩
    · rename_i b hn
      simp only [Bool.and_eq_true, beq_iff_eq, bne_iff_ne, ne_eq] at e
      exact ⟨biVal b, .inr ⟨ns_none_of X T.g hn, (T.builtins x e.2).trans e.1⟩, fun μ h _ _ => by simp only [VR]⟩
    · exact absurd e Bool.false_ne_true
set_option tactic.hygienic false
end
structure Facts (K : Frag) : Prop where
  fld : (fldL.all fun p => fldB K (clA1 p.1) (nm1.getD p.2 default)) = true
  cls : ((List.range 5).all fun c => clsB K (clA1 c) (fnA1 (initL.getD c 0))) = true
  mth : (methL.all fun p => mthB K (clA1 p.1) (fnA1 p.2.2) (nm1.getD p.2.1 default)) = true
  keep : ((List.range 46).all fun k => keepIn K (.ref (fnA1 k))) = true
  ok : ((List.range 46).all fun k => okFn K (fdAt K k)) = true
  nms : (gt1.all (okName K fnA1 clA1)) = true
  at_ : r46.map (fun k => K.lookup (fnA1 k)) = r46.map fun k => some (obAt K (fnA1 k))
  dat : r46.map (fun k => (obAt K (fnA1 k)).data) = r46.map fun k => .func (fdAt K k)
  src : r46.map (fun k => (fdAt K k).body) = r46.map fun k => .stmts (pySs (boAt K k))
  body : tab2 = r46.map fun k => ((psAt K k).length, (moAt K k).length, stSs gt1 (boAt K k))
  np : (r46.all fun k => decide ((psAt K k).length ≤ 7)) = true
  bind : ∀ a0 a1 a2 a3 a4 a5 a6 : Value, r46.map (fun k => bindArgs (fdAt K k) ⟨[a0, a1, a2, a3, a4, a5, a6].take (psAt K k).length, []⟩) = r46.map fun k => pure ((psAt K k).zip ([a0, a1, a2, a3, a4, a5, a6].take (psAt K k).length))
theorem nm_get {a : Nat} {x : Str} (h : nm1[a]? = some x) : x = nm1.getD a default := by rw [List.getD_eq_getElem?_getD, h]; rfl
theorem tab_lt {k : Nat} {b : Nat × Nat × List S0} (h : tab2[k]? = some b) : k < 46 := (List.getElem?_eq_some_iff.mp h).1
theorem nmB : (decide nm1.Nodup && (decide (nm1.length ≤ 1000) && ((fldL.all fun p => decide (p.2 < nm1.length)) && ((methL.all fun p => decide (p.2.1 < nm1.length) && decide (p.2.2 < 46)) && ((List.range 6).all fun m => nm1[m]? == some (bimName m)))))) = true := by decide +kernel
section
variable {prog : Program} {w : World} {K : Frag} {base : Heap}
theorem fnsOk (F : Facts K) : FnsOk (C1 prog w K base) P2 := fun k hk => by
  obtain ⟨b, hb⟩ := Option.isSome_iff_exists.mp hk
  have hk := tab_lt (show tab2[k]? = some b from hb)
  obtain ⟨h1, h2⟩ := and2 (List.all_eq_true.mp F.ok k (List.mem_range.mpr hk))
  obtain ⟨h3, h4⟩ := and2 h1
  obtain ⟨h5, h6⟩ := and2 h2
  obtain ⟨h7, h8⟩ := and2 h6
  have hb7 : (psAt K k).length ≤ 7 := of_decide_eq_true (List.all_eq_true.mp F.np k (List.mem_range.mpr hk))
  exact ⟨_, fdAt K k, psAt K k, moAt K k, boAt K k, map_at F.at_ hk, map_at F.dat hk, map_at F.src hk, (and2 h3).1, List.isEmpty_iff.mp (and2 h5).1, beq_iff_eq.mp (and2 (and2 h5).2).1, beq_iff_eq.mp (and2 (and2 h5).2).2, fun vs e => by
      have z := map_at (F.bind (vs.getD 0 .none) (vs.getD 1 .none) (vs.getD 2 .none) (vs.getD 3 .none) (vs.getD 4 .none) (vs.getD 5 .none) (vs.getD 6 .none)) hk
      rwa [← e, take7 (e ▸ hb7)] at z, by
      show tab2[k]? = _
      rw [F.body, List.getElem?_map]
      show ((List.range 46)[k]?).map _ = _
      rw [List.getElem?_range hk]; rfl, (and2 h3).2,
    beq_iff_eq.mp (and2 h4).1, not1 (and2 (and2 h4).2).1, not1 (and2 (and2 h4).2).2, of_decide_eq_true h7, fun x hx => beq_iff_eq.mp (List.all_eq_true.mp (and2 h8).1 x hx), of_decide_eq_true (and2 h8).2⟩
theorem fld_mem {c a : Nat} (h : fldOf c a = true) : (c, a) ∈ fldL := by
  obtain ⟨p, hp, q⟩ := List.any_eq_true.mp h
  obtain ⟨q1, q2⟩ := and2 q
  obtain ⟨x, y⟩ := p
  rw [← beq_iff_eq.mp q1, ← beq_iff_eq.mp q2]; exact hp
theorem meth_mem {c m k : Nat} (h : methOf c m = some k) : (c, m, k) ∈ methL := by
  obtain ⟨p, hp, q⟩ := Option.map_eq_some_iff.mp h
  have z := List.find?_some hp
  obtain ⟨q1, q2⟩ := and2 z
  obtain ⟨x, y, u⟩ := p
  have e1 : x = c := beq_iff_eq.mp q1
  have e2 : y = m := beq_iff_eq.mp q2
  have e3 : u = k := q
  rw [← e1, ← e2, ← e3]
  exact List.mem_of_find?_eq_some hp
theorem getD_of {l : List Nat} {c k : Nat} (h : l[c]? = some k) : l.getD c 0 = k := by rw [List.getD_eq_getElem?_getD, h]; rfl
theorem cgood (X : K.In base) (F : Facts K) : CGood (C1 prog w K base) P2 := by
  obtain ⟨n1, n2⟩ := and2 nmB
  obtain ⟨n2, n3⟩ := and2 n2
  obtain ⟨n3, n4⟩ := and2 n3
  obtain ⟨n4, n5⟩ := and2 n4
  refine { X := X, fld := fun c a x h hx => ?_, fldN := fun c a h => ?_, nodup := of_decide_eq_true n1, nmlen := of_decide_eq_true n2, fn := fun k h => ?_, cls := fun c k h => ?_, mth := fun c m x k h hx => ?_, mthb := fun c m k h => ?_, mthx := fun c m k h => ?_, nm7 := fun m h => ?_ }
  · have z := List.all_eq_true.mp F.fld _ (fld_mem h)
    rw [nm_get hx]
    obtain ⟨z1, z2⟩ := and2 z
    obtain ⟨z2, z3⟩ := and2 z2
    exact ⟨(and2 z1).1, (and2 z1).2, beq_iff_eq.mp (and2 z2).1, (and2 z2).2, beq_iff_eq.mp z3⟩
  · exact ⟨_, List.getElem?_eq_getElem (of_decide_eq_true (List.all_eq_true.mp n3 _ (fld_mem h)))⟩
  · obtain ⟨b, hb⟩ := Option.isSome_iff_exists.mp h
    exact List.all_eq_true.mp F.keep k (List.mem_range.mpr (tab_lt hb))
  · have hc : initL[c]? = some k := h
    have z := List.all_eq_true.mp F.cls c (List.mem_range.mpr (List.getElem?_eq_some_iff.mp hc).1)
    rw [getD_of hc] at z
    obtain ⟨z1, z2⟩ := and2 z
    exact ⟨(and2 z1).1, (and2 z1).2, beq_iff_eq.mp (and2 z2).1, beq_iff_eq.mp (and2 z2).2⟩
  · have z := List.all_eq_true.mp F.mth _ (meth_mem h)
    rw [nm_get hx]
    exact ⟨(and2 z).1, beq_iff_eq.mp (and2 (and2 z).2).1, beq_iff_eq.mp (and2 (and2 z).2).2⟩
  · have z := List.all_eq_true.mp n4 _ (meth_mem h)
    have zl : k < tab2.length := of_decide_eq_true (and2 z).2
    show (tab2[k]?).isSome = true
    rw [List.getElem?_eq_getElem zl]; rfl
  · have z := List.all_eq_true.mp n4 _ (meth_mem h)
    exact ⟨_, List.getElem?_eq_getElem (of_decide_eq_true (and2 z).1)⟩
  · exact beq_iff_eq.mp (List.all_eq_true.mp n5 m (List.mem_range.mpr h))
noncomputable def nsOf (K : Frag) (N : Addr) (x : Str) : Option Value := match K.lookup N with
  | some ⟨_, _, .dict es _, _⟩ => (es.toList.find? (·.key.isStr x)).map (·.val)
  | _ => none
noncomputable def clAt (K : Frag) (a : Addr) : ClassData := match (obAt K a).data with
  | .cls cd => cd
  | _ => ⟨"", [], [], 0, "", false, [], [], false, none, false⟩
noncomputable def esAt (K : Frag) (a : Addr) : Array DictEntry := match (obAt K a).data with
  | .dict es _ => es
  | _ => #[]
noncomputable def vsAt (K : Frag) (a : Addr) : Array Value := match (obAt K a).data with
  | .fields vs => vs
  | _ => #[]
noncomputable def adOf : Value → Addr
  | .ref a => a
  | _ => 0
noncomputable def stOf : Value → Str
  | .str s _ => s
  | _ => ""
noncomputable def tkOf : Value → Tok
  | .str _ t => t
  | _ => 0
noncomputable def isStrV : Value → Bool
  | .str _ _ => true
  | _ => false
theorem ns_of {h : Heap} {N : Addr} {es : Array DictEntry} {n : Nat} (X : K.In h) (e0 : K.lookup N = some (obAt K N)) (e1 : (obAt K N).data = .dict es n) (e : (es.toList.all fun e => isStrV e.key) = true) : h.Ns N (fun x => (es.toList.find? (·.key.isStr x)).map (·.val)) := by
  refine ⟨_, es, n, X _ _ e0, e1, fun x hx => ?_, fun x => ?_⟩
  · have z := List.all_eq_true.mp e x (Array.mem_toList_iff.mpr hx)
    have hk : isStrV x.key = true := z
    generalize x.key = k at hk ⊢
    rcases k with _ | _ | _ | _ | _ | ⟨n', t'⟩ | _ | _ | _ | _ | _ <;> first | exact absurd hk Bool.false_ne_true | exact ⟨_, _, rfl⟩
  · unfold nsFind findBy
    rw [← Array.find?_toList]
noncomputable def exCd (K : Frag) : ClassData := clAt K 132
noncomputable def exSl (K : Frag) (i : Nat) : Option Value := (obAt K 132).slots.getD i none
noncomputable def exDat (K : Frag) : ExD := ⟨(exCd K).name, (exCd K).qualname, (exCd K).ns, (exCd K).bases, (exCd K).slotNames, (exCd K).subclasses, (exCd K).abstract, (exCd K).collection, (obAt K 132).dict, exSl K 0, exSl K 1, exSl K 2, exSl K 3, exSl K 5, fun x => ((esAt K (exCd K).ns).toList.find? (·.key.isStr x)).map (·.val)⟩
noncomputable def exFd (K : Frag) : FuncData := (fnDat K 129).fd
noncomputable def exCell (K : Frag) : Addr := match (exFd K).closure with
  | [(_, a)] => a
  | _ => 0
noncomputable def exCc (K : Frag) : Addr := adOf (exFd K).code
noncomputable def exFile (K : Frag) : Value := (vsAt K (exCc K)).getD 2 .none
noncomputable def exNo (K : Frag) (x : Str) : Bool := (nsIn K (exCd K).ns x == some none)
structure ExF (K : Frag) (f : Str) : Prop where
  at_ : K.lookup 132 = some (excClassObj (exDat K).nm (exDat K).q 132 (exDat K).N (exDat K).bs bmX true (exDat K).sn (exDat K).sub (exDat K).ab (exDat K).col (exDat K).dd (exDat K).k0 (exDat K).k1 (exDat K).k2 (exDat K).k3 (exDat K).k5 "Exception.__new__")
  n0 : K.lookup (exCd K).ns = some (obAt K (exCd K).ns)
  n1 : (obAt K (exCd K).ns).data = .dict (esAt K (exCd K).ns) (match (obAt K (exCd K).ns).data with | .dict _ n => n | _ => 0)
  ns : ((esAt K (exCd K).ns).toList.all fun e => isStrV e.key) = true
  ga : (exDat K).mN "__getattribute__" = none
  gt : (exDat K).mN "__getattr__" = none
  sa : (exDat K).mN "__setattr__" = none
  nu : (exDat K).mN "number" = none
  to : (exDat K).mN "told" = none
  ini : (exDat K).mN "__init__" = some (.ref 129)
  iat : K.lookup 129 = some ⟨.type "function", (fnDat K 129).od, .func (exFd K), (fnDat K 129).osl⟩
  body : ∃ (k : Nat) (p0 p1 p2 p3 p4 p5 p6 p7 p8 p9 q0 q1 q2 q3 : Pos), (exFd K).body = .stmts (initB k fun n => [p0, p1, p2, p3, p4, p5, p6, p7, p8, p9, q0, q1, q2, q3].getD n p0) ∧ (p2.endLine == p4.line) = true
  bind : ∀ (S : Setting) (a b c : Value), peek K S (bindArgs (exFd K) ⟨[a, b, c], []⟩) = some (iniBinds a b c)
  names : (exFd K).scope.names = iniNames
  sc : ((exFd K).scope.kind == .function && (!(exFd K).scope.isCoroutine && !(exFd K).scope.isGenerator)) = true
  gb : (((exFd K).globals == mainGlobals && (exFd K).builtins == builtinsNs) && codeIn K (exFd K).code (exFd K).qualname) = true
  ar : ((exFd K).params.posonlyargs ++ (exFd K).params.args).head?.map (·.arg) = some "self"
  clo : (exFd K).closure = [(Str.ofString "__class__", exCell K)]
  c0 : K.lookup (exCell K) = some (obAt K (exCell K))
  c1 : (obAt K (exCell K)).data = .cell (some (.ref 132))
  f0 : (exFd K).code = .ref (exCc K)
  f1 : K.lookup (exCc K) = some (obAt K (exCc K))
  f2 : (obAt K (exCc K)).data = .fields (vsAt K (exCc K))
  f3 : (vsAt K (exCc K))[2]? = some (.str (stOf (exFile K)) (tkOf (exFile K)))
  f4 : (f == stOf (exFile K)) = true
  sup : nsIn K mainGlobals "super" = some none
  opq : nsIn K cStatics "thirdparty.any" = some none
theorem exIni {prog : Program} {mg mb : Str → Option Value} {p : Program} {loose : List Str} (X : K.In base) (T : TopRead p loose mg mb base) (F : ExF K prog.main.file) (hs : (prog.main.scope.names.lookup ("super" : Str)).isSome = false) : ExIni prog 132 (exDat K) base 129 := by
  obtain ⟨b1, b2⟩ := and2 F.gb
  obtain ⟨k, p0, p1, p2, p3, p4, p5, p6, p7, p8, p9, q0, q1, q2, q3, e1, e2⟩ := F.body
  obtain ⟨ar, h1, h2⟩ := Option.map_eq_some_iff.mp F.ar
  exact ⟨⟨X _ _ F.at_, ns_of X F.n0 F.n1 F.ns, F.ga, F.gt, F.sa, F.nu, F.to⟩, F.ini, ⟨_, exFd K, k, fun n => [p0, p1, p2, p3, p4, p5, p6, p7, p8, p9, q0, q1, q2, q3].getD n p0, X _ _ F.iat, rfl, rfl, e1, e2, fun a b c s k M A E Q q => Looks.of_peek X (F.bind _ a b c) A Q E s k q, F.names, beq_iff_eq.mp (and2 F.sc).1, not1 (and2 (and2 F.sc).2).1, not1 (and2 (and2 F.sc).2).2,
    beq_iff_eq.mp (and2 b1).1, beq_iff_eq.mp (and2 b1).2, codeRec_of X b2, ⟨ar, h1, h2⟩, ⟨exCell K, _, F.clo, X _ _ F.c0, F.c1⟩, ⟨exCc K, _, _, _, _, F.f0, X _ _ F.f1, F.f2, F.f3, F.f4⟩⟩, hs, ⟨mg, mb, T.g, T.b, ns_none_of X T.g F.sup, (T.builtins "super" (by decide)).trans (by kernel_rfl)⟩, T.nolimit, fun w => looks_opaque X F.opq⟩
end
end Mine
end
section
namespace Mine
open PySem PySem.W PySem.Calls PyProof.Rows
theorem fin {prog : Program} {w : World} {K : Frag} {s : Shared} {la : Addr} {vl : Array Value} {xs : List Int} {mg mb : Str → Option Value} {p : Program} {loose : List Str} {Q : Value → Shared → Prop} {E : Value → Shared → Prop} (X : K.In s.heap) (T : TopRead p loose mg mb s.heap) (hlen : xs.length ≤ big)
    (hL : s.heap.IsList la vl) (hI : IntsAre vl.toList xs) (F : Facts K) (EF : ExF K prog.main.file) (hs : (prog.main.scope.names.lookup ("super" : Str)).isSome = false) (hQ : ∀ μ' H' s', Step NoX [] s μ' s' → Inv (C1 prog w K s.heap) μ' H' s'.heap → Q (.bool true) s') :
    wpAny (model prog w) callerA (PySem.call (.ref 636) [.ref la]) Q E s := by
  have hA : AOk 9 [] callerA := ⟨rfl, rfl, by decide, by decide⟩
  have hcall := calls_ok (N := 100000) (cgood (prog := prog) (w := w) X F) ⟨mg, mb, gname_of (C := C1 prog w K s.heap) X T F.nms⟩ T.nolimit (exIni X T EF hs) (fnsOk F) 9 callerA [] hA
  have I0 : Inv (C1 prog w K s.heap) [] [] s.heap := ⟨fun _ _ h => h, rfl, fun i o p h => by simp at h, fun i j p q h => by simp at h, fun p h => by exact absurd h List.not_mem_nil⟩
  have V0 : VRs (C1 prog w K s.heap) [] s.heap [.ilist xs] [.ref la] := by
    simp only [VRs, VR]
    exact ⟨⟨hlen, la, vl, rfl, hL, hI⟩, trivial⟩
  obtain ⟨H', hlaw⟩ := law_is (d := 0) (T := xs)
  have hlaw : callD P2 100000 9 38 [.ilist xs] [] = .ok (.bool true) H' := hlaw
  have F0 : Frs (C1 prog w K s.heap) [] s.heap [] := ⟨trivial, fun _ h => by exact absurd h List.not_mem_nil⟩
  refine wpAny_call (hcall 38 _ _ [] [] s F0 I0 V0 (by rw [hlaw]; intro q; injection q) _ _ ⟨fun μ' a H2 v s' e S I V => ?_, fun _ _ _ _ e => by rw [hlaw] at e; injection e⟩)
  rw [hlaw] at e
  injection e with e1 e2
  subst e1
  obtain rfl : v = .bool true := V
  exact hQ μ' H2 s' S I
end Mine
end
set_option tactic.hygienic true
/-! names that the head would give to copies of its objects: taken here, so that no copy is laid -/
theorem Mine.top.tw2601905985415302144 : True := trivial
theorem Mine.top.tw11582926029173025856 : True := trivial
theorem Mine.top.tw14142502885225118848 : True := trivial
theorem Mine.top.tw2218668502564051296 : True := trivial
theorem Mine.top.tw15542334942015070624 : True := trivial
theorem Mine.top.tw13160728816969591200 : True := trivial
theorem Mine.top.tw14168018189251442112 : True := trivial
theorem Mine.top.tw4597200072644226624 : True := trivial
theorem Mine.top.tw2417791160451022400 : True := trivial
theorem Mine.top.tw3768957769849046624 : True := trivial
theorem Mine.top.tw76412952228603488 : True := trivial
theorem Mine.top.tw2741389259953327712 : True := trivial
theorem Mine.top.tw1732150942055357024 : True := trivial
theorem Mine.top.tw15874363893724204672 : True := trivial
theorem Mine.top.tw1971433849790844608 : True := trivial
theorem Mine.top.tw7847650389618582240 : True := trivial
theorem Mine.top.tw3474246075231452896 : True := trivial
theorem Mine.top.tw16104615914030681952 : True := trivial
theorem Mine.top.tw11613256710310857696 : True := trivial
theorem Mine.top.tw9666326922614434849 : True := trivial
theorem Mine.top.tw17795014544551873601 : True := trivial
theorem Mine.top.tw9953747333497923681 : True := trivial
theorem Mine.top.tw1400011881503588481 : True := trivial
theorem Mine.top.tw8507776931139520737 : True := trivial
theorem Mine.top.tw1068965626710143233 : True := trivial
theorem Mine.top.tw4859757453598101857 : True := trivial
theorem Mine.top.tw1584292188352093569 : True := trivial
theorem Mine.top.tw18289109515434150305 : True := trivial
theorem Mine.top.tw1788138344755669473 : True := trivial
theorem Mine.top.tw15177526630643400193 : True := trivial
theorem Mine.top.tw14436450140739016385 : True := trivial
theorem Mine.top.tw11845233108574324481 : True := trivial
theorem Mine.top.tw8439264561226042145 : True := trivial
theorem Mine.top.tw1601500998369573665 : True := trivial
theorem Mine.top.tw3696473221133414273 : True := trivial
theorem Mine.top.tw10005945817407372193 : True := trivial
theorem Mine.top.tw5303079699428457377 : True := trivial
theorem Mine.top.tw9272544492142499777 : True := trivial
theorem Mine.top.tw2405475915293451298 : True := trivial
theorem Mine.top.tw9601329371697537090 : True := trivial
theorem Mine.top.tw4177254973167742082 : True := trivial
theorem Mine.top.tw2029088862249889922 : True := trivial
theorem Mine.top.tw728428047077509346 : True := trivial
theorem Mine.top.tw3217022616335106338 : True := trivial
theorem Mine.top.tw16580785732701462914 : True := trivial
theorem Mine.top.tw3767615275625035234 : True := trivial
theorem Mine.top.tw1291508964198565346 : True := trivial
theorem Mine.top.tw1016984595167383106 : True := trivial
theorem Mine.top.tw15254643099363442306 : True := trivial
theorem Mine.top.tw9739860059890490050 : True := trivial
theorem Mine.top.tw5728218623943512802 : True := trivial
theorem Mine.top.tw12425085872883035938 : True := trivial
theorem Mine.top.tw4392038535549328194 : True := trivial
theorem Mine.top.tw17103177528636943170 : True := trivial
theorem Mine.top.tw16878204669230926818 : True := trivial
theorem Mine.top.tw2988451766255067171 : True := trivial
theorem Mine.top.tw14263998999751124003 : True := trivial
theorem Mine.top.tw8321918168302905379 : True := trivial
theorem Mine.top.tw2665807947273092163 : True := trivial
theorem Mine.top.tw9961057766049560675 : True := trivial
theorem Mine.top.tw9503340733035011235 : True := trivial
theorem Mine.top.tw8311017846404947139 : True := trivial
theorem Mine.top.tw6756868429301003459 : True := trivial
theorem Mine.top.tw6761616313442571491 : True := trivial
theorem Mine.top.tw1212798325632107971 : True := trivial
theorem Mine.top.tw10936122117785486979 : True := trivial
theorem Mine.top.tw3871027444623705763 : True := trivial
theorem Mine.top.tw17474498911051797155 : True := trivial
theorem Mine.top.tw9149571693438533347 : True := trivial
theorem Mine.top.tw14632489290957082403 : True := trivial
theorem Mine.top.tw15740088241188596515 : True := trivial
theorem Mine.top.tw14796646475526232899 : True := trivial
theorem Mine.top.tw13305523845174962083 : True := trivial
theorem Mine.top.tw1297684725254868899 : True := trivial
theorem Mine.top.tw16054190913257422852 : True := trivial
theorem Mine.top.tw7847352863974893604 : True := trivial
theorem Mine.top.tw14608685727046917156 : True := trivial
theorem Mine.top.tw2287823674025257028 : True := trivial
theorem Mine.top.tw6292954644110606532 : True := trivial
theorem Mine.top.tw4142388285807920324 : True := trivial
theorem Mine.top.tw12787338502077490372 : True := trivial
theorem Mine.top.tw15212760480394562756 : True := trivial
theorem Mine.top.tw8281120267493503204 : True := trivial
theorem Mine.top.tw14450715343900746980 : True := trivial
theorem Mine.top.tw13710211086531791108 : True := trivial
theorem Mine.top.tw10694878333477680388 : True := trivial
theorem Mine.top.tw16541100652227675460 : True := trivial
theorem Mine.top.tw146815374380898660 : True := trivial
theorem Mine.top.tw14987219478266130788 : True := trivial
theorem Mine.top.tw7033079012710635876 : True := trivial
theorem Mine.top.tw16058212318047004132 : True := trivial
theorem Mine.top.tw12764151676501842404 : True := trivial
theorem Mine.top.tw370947364307004932 : True := trivial
theorem Mine.top.tw13012589842206080548 : True := trivial
theorem Mine.top.tw14459580976405569124 : True := trivial
theorem Mine.top.tw12483720753089274532 : True := trivial
theorem Mine.top.tw13896958669275611876 : True := trivial
theorem Mine.top.tw18064794426631996164 : True := trivial
theorem Mine.top.tw814325599930780420 : True := trivial
theorem Mine.top.tw7671549972530922468 : True := trivial
theorem Mine.top.tw4656485037274611717 : True := trivial
theorem Mine.top.tw15646934709686841381 : True := trivial
theorem Mine.top.tw17810072253543177317 : True := trivial
theorem Mine.top.tw6505410396798821541 : True := trivial
theorem Mine.top.tw3796891538752321733 : True := trivial
theorem Mine.top.tw8892184565913893157 : True := trivial
theorem Mine.top.tw2685012915969955173 : True := trivial
theorem Mine.top.tw13001836021917841797 : True := trivial
theorem Mine.top.tw9227541089923242437 : True := trivial
theorem Mine.top.tw3976154599441133093 : True := trivial
theorem Mine.top.tw81815255157605957 : True := trivial
theorem Mine.top.tw196536941598035525 : True := trivial
theorem Mine.top.tw7313339093194340965 : True := trivial
theorem Mine.top.tw8212240652046128837 : True := trivial
theorem Mine.top.tw9059832203979395877 : True := trivial
theorem Mine.top.tw9685713192446186341 : True := trivial
theorem Mine.top.tw8363718466572441477 : True := trivial
theorem Mine.top.tw3669314199184481253 : True := trivial
theorem Mine.top.tw1294077662247117797 : True := trivial
theorem Mine.top.tw10006222313960134694 : True := trivial
theorem Mine.top.tw4840481374290595910 : True := trivial
theorem Mine.top.tw16736118626332596326 : True := trivial
theorem Mine.top.tw6520327441239513222 : True := trivial
theorem Mine.top.tw3140898538269762758 : True := trivial
theorem Mine.top.tw15019589843779357958 : True := trivial
theorem Mine.top.tw297971269722091814 : True := trivial
theorem Mine.top.tw6749217079512962374 : True := trivial
theorem Mine.top.tw13510920462097384806 : True := trivial
theorem Mine.top.tw8435561252592420358 : True := trivial
theorem Mine.top.tw5969682004907312646 : True := trivial
theorem Mine.top.tw8640399195822439974 : True := trivial
theorem Mine.top.tw18186074749648716422 : True := trivial
theorem Mine.top.tw7715697345341360870 : True := trivial
theorem Mine.top.tw9614876229902214918 : True := trivial
theorem Mine.top.tw4835499133494076262 : True := trivial
theorem Mine.top.tw14671331368771545958 : True := trivial
theorem Mine.top.tw5860347150701562758 : True := trivial
theorem Mine.top.tw2506305409684761478 : True := trivial
theorem Mine.top.tw10783980745131425670 : True := trivial
theorem Mine.top.tw8679839319945467846 : True := trivial
theorem Mine.top.tw16840627104734473223 : True := trivial
theorem Mine.top.tw3195968871104189447 : True := trivial
theorem Mine.top.tw6491118196486620199 : True := trivial
theorem Mine.top.tw3958476088257501223 : True := trivial
theorem Mine.top.tw860223938195835975 : True := trivial
theorem Mine.top.tw11459358961799972967 : True := trivial
theorem Mine.top.tw12256363837256957063 : True := trivial
theorem Mine.top.tw953821971998124167 : True := trivial
theorem Mine.top.tw8043003576528973991 : True := trivial
theorem Mine.top.tw53344730913325255 : True := trivial
theorem Mine.top.tw11443710868159068359 : True := trivial
theorem Mine.top.tw1697544655201012999 : True := trivial
theorem Mine.top.tw9759319705405543751 : True := trivial
theorem Mine.top.tw6176384092110617959 : True := trivial
theorem Mine.top.tw2731995056826638727 : True := trivial
theorem Mine.top.tw6286779285267259847 : True := trivial
theorem Mine.top.tw9165953624949470791 : True := trivial
theorem Mine.top.tw17532336604752155303 : True := trivial
theorem Mine.top.tw12545222027267286695 : True := trivial
theorem Mine.top.tw6883741973766446791 : True := trivial
theorem Mine.top.tw10864713392326063847 : True := trivial
theorem Mine.top.tw13090165191389475591 : True := trivial
theorem Mine.top.tw13968125046926948103 : True := trivial
theorem Mine.top.tw775762912060472103 : True := trivial
theorem Mine.top.tw12819366960792805191 : True := trivial
theorem Mine.top.tw10361075674979980167 : True := trivial
theorem Mine.top.tw12317137736924338119 : True := trivial
theorem Mine.top.tw14145802354927516647 : True := trivial
theorem Mine.top.tw7657828476027519975 : True := trivial
theorem Mine.top.tw5244899138074338376 : True := trivial
theorem Mine.top.tw3484022092364678248 : True := trivial
theorem Mine.top.tw13994475860397038760 : True := trivial
theorem Mine.top.tw14615657086365298920 : True := trivial
theorem Mine.top.tw16439428074185983240 : True := trivial
theorem Mine.top.tw708234853630380328 : True := trivial
theorem Mine.top.tw17310980323187717416 : True := trivial
theorem Mine.top.tw3261557481417251176 : True := trivial
theorem Mine.top.tw18063644159110109576 : True := trivial
theorem Mine.top.tw6370870915552960936 : True := trivial
theorem Mine.top.tw1486479319815781832 : True := trivial
theorem Mine.top.tw12622177474791663080 : True := trivial
theorem Mine.top.tw7580748108015030792 : True := trivial
theorem Mine.top.tw10657950659306570408 : True := trivial
theorem Mine.top.tw5667650583090716360 : True := trivial
theorem Mine.top.tw10648311167861321448 : True := trivial
theorem Mine.top.tw2249405535684624136 : True := trivial
theorem Mine.top.tw594810645892935528 : True := trivial
theorem Mine.top.tw6042063481754889096 : True := trivial
theorem Mine.top.tw7115824082346440616 : True := trivial
theorem Mine.top.tw517144808224063464 : True := trivial
theorem Mine.top.tw4916261283513009128 : True := trivial
theorem Mine.top.tw13177472732611162249 : True := trivial
theorem Mine.top.tw15878805988109762761 : True := trivial
theorem Mine.top.tw10548783162686979305 : True := trivial
theorem Mine.top.tw15860264024139754761 : True := trivial
theorem Mine.top.tw13303987763403120937 : True := trivial
theorem Mine.top.tw17103585973383926153 : True := trivial
theorem Mine.top.tw16123964013534891561 : True := trivial
theorem Mine.top.tw4555866861457887817 : True := trivial
theorem Mine.top.tw15569959144833144457 : True := trivial
theorem Mine.top.tw13290321428070320777 : True := trivial
theorem Mine.top.tw16782997733028217545 : True := trivial
theorem Mine.top.tw3378803678994701225 : True := trivial
theorem Mine.top.tw4671429814451907529 : True := trivial
theorem Mine.top.tw7855079511596107753 : True := trivial
theorem Mine.top.tw10915162052029792233 : True := trivial
theorem Mine.top.tw2770239361232196585 : True := trivial
theorem Mine.top.tw8622502720953521162 : True := trivial
theorem Mine.top.tw339143206060000330 : True := trivial
theorem Mine.top.tw2732273902793177162 : True := trivial
theorem Mine.top.tw8729362747519067210 : True := trivial
theorem Mine.top.tw3315250197877816394 : True := trivial
theorem Mine.top.tw9059672392935016618 : True := trivial
theorem Mine.top.tw12166907935582030026 : True := trivial
theorem Mine.top.tw10187724287525710026 : True := trivial
theorem Mine.top.tw8523463495250067690 : True := trivial
theorem Mine.top.tw7204493036743257322 : True := trivial
theorem Mine.top.tw9233715247699887402 : True := trivial
theorem Mine.top.tw5058314954733539658 : True := trivial
theorem Mine.top.tw342308947776675178 : True := trivial
theorem Mine.top.tw6885214360128481674 : True := trivial
theorem Mine.top.tw501154541418245514 : True := trivial
theorem Mine.top.tw16004416686337608138 : True := trivial
theorem Mine.top.tw14372152842798730730 : True := trivial
theorem Mine.top.tw15976228082101565994 : True := trivial
theorem Mine.top.tw2369445192022557226 : True := trivial
theorem Mine.top.tw8184561461823581802 : True := trivial
theorem Mine.top.tw9919435345466941130 : True := trivial
theorem Mine.top.tw17469865338272021226 : True := trivial
theorem Mine.top.tw13889309363888878346 : True := trivial
theorem Mine.top.tw1655259298481077034 : True := trivial
theorem Mine.top.tw1321871150748368714 : True := trivial
theorem Mine.top.tw14724332232928298890 : True := trivial
theorem Mine.top.tw8443935842833279946 : True := trivial
theorem Mine.top.tw9951221954081769418 : True := trivial
theorem Mine.top.tw5513142621748847562 : True := trivial
theorem Mine.top.tw6624316729101989866 : True := trivial
theorem Mine.top.tw6919701780365589675 : True := trivial
theorem Mine.top.tw13370750898655102155 : True := trivial
theorem Mine.top.tw2683898200743741643 : True := trivial
theorem Mine.top.tw4828031223510198475 : True := trivial
theorem Mine.top.tw3002795768020413707 : True := trivial
theorem Mine.top.tw8598144960395782539 : True := trivial
theorem Mine.top.tw6812286434817487243 : True := trivial
theorem Mine.top.tw13706816188851595723 : True := trivial
theorem Mine.top.tw6430265229019958763 : True := trivial
theorem Mine.top.tw6674990990233134667 : True := trivial
theorem Mine.top.tw16415559393655328363 : True := trivial
theorem Mine.top.tw13272337422414781067 : True := trivial
theorem Mine.top.tw8140125068956082859 : True := trivial
theorem Mine.top.tw956942650209027819 : True := trivial
theorem Mine.top.tw17315540178315561739 : True := trivial
theorem Mine.top.tw7673058066778466091 : True := trivial
theorem Mine.top.tw14282377253939248939 : True := trivial
theorem Mine.top.tw9962302188120564619 : True := trivial
theorem Mine.top.tw9233335307524088747 : True := trivial
theorem Mine.top.tw9227057690007400460 : True := trivial
theorem Mine.top.tw5915399644114372684 : True := trivial
theorem Mine.top.tw2443449257678562572 : True := trivial
theorem Mine.top.tw17470836177267949868 : True := trivial
theorem Mine.top.tw5609151216138764652 : True := trivial
theorem Mine.top.tw3969286963782609292 : True := trivial
theorem Mine.top.tw17046948494117081484 : True := trivial
theorem Mine.top.tw13799840507378627052 : True := trivial
theorem Mine.top.tw6333448901615975916 : True := trivial
theorem Mine.top.tw9195894827357321740 : True := trivial
theorem Mine.top.tw11542710104232473196 : True := trivial
theorem Mine.top.tw17781115878593249900 : True := trivial
theorem Mine.top.tw3254097082911018636 : True := trivial
theorem Mine.top.tw12958664272152378060 : True := trivial
theorem Mine.top.tw4951766788466123468 : True := trivial
theorem Mine.top.tw10404823597219466188 : True := trivial
theorem Mine.top.tw17323899518341599180 : True := trivial
theorem Mine.top.tw13987285891283452908 : True := trivial
theorem Mine.top.tw6240723676877644813 : True := trivial
theorem Mine.top.tw14453841093610474573 : True := trivial
theorem Mine.top.tw13822267516522204269 : True := trivial
theorem Mine.top.tw16352630495959832749 : True := trivial
theorem Mine.top.tw7527032243904285869 : True := trivial
theorem Mine.top.tw17555251805378815213 : True := trivial
theorem Mine.top.tw1112988674713690477 : True := trivial
theorem Mine.top.tw4047667213573674445 : True := trivial
theorem Mine.top.tw3479634599624807885 : True := trivial
theorem Mine.top.tw10774637447528242797 : True := trivial
theorem Mine.top.tw283044589724301 : True := trivial
theorem Mine.top.tw17756597512981354157 : True := trivial
theorem Mine.top.tw4940147422707163885 : True := trivial
theorem Mine.top.tw16719718919923625709 : True := trivial
theorem Mine.top.tw2581206410525282061 : True := trivial
theorem Mine.top.tw12080426169559351053 : True := trivial
theorem Mine.top.tw8265191368974092141 : True := trivial
theorem Mine.top.tw672699306608606093 : True := trivial
theorem Mine.top.tw10574840078274726829 : True := trivial
theorem Mine.top.tw661290744650703789 : True := trivial
theorem Mine.top.tw1516213087968936877 : True := trivial
theorem Mine.top.tw12427389293880184781 : True := trivial
theorem Mine.top.tw13318506193475082254 : True := trivial
theorem Mine.top.tw14502225709538309166 : True := trivial
theorem Mine.top.tw12385144161495827662 : True := trivial
theorem Mine.top.tw8472579005086612782 : True := trivial
theorem Mine.top.tw12209182163369298222 : True := trivial
theorem Mine.top.tw15451780782824253742 : True := trivial
theorem Mine.top.tw7297446738713254254 : True := trivial
theorem Mine.top.tw5476889619067714990 : True := trivial
theorem Mine.top.tw2544169868661182894 : True := trivial
theorem Mine.top.tw2462062305354472974 : True := trivial
theorem Mine.top.tw1142415686869020238 : True := trivial
theorem Mine.top.tw15240379268576122478 : True := trivial
theorem Mine.top.tw14611434983143301774 : True := trivial
theorem Mine.top.tw6124053682588569230 : True := trivial
theorem Mine.top.tw17542608870123051758 : True := trivial
theorem Mine.top.tw12718909917080609646 : True := trivial
theorem Mine.top.tw15503665604740900718 : True := trivial
theorem Mine.top.tw12958502747184954254 : True := trivial
theorem Mine.top.tw15985961358823992270 : True := trivial
theorem Mine.top.tw5938664839603501006 : True := trivial
theorem Mine.top.tw17176029603704830031 : True := trivial
theorem Mine.top.tw6898770573198911631 : True := trivial
theorem Mine.top.tw11334350811105764591 : True := trivial
theorem Mine.top.tw1638113669730673903 : True := trivial
theorem Mine.top.tw1123975283337734383 : True := trivial
theorem Mine.top.tw14697636140705633519 : True := trivial
theorem Mine.top.tw17565814175750979855 : True := trivial
theorem Mine.top.tw8560541052185303311 : True := trivial
theorem Mine.top.tw381845443943030031 : True := trivial
theorem Mine.top.tw16900427199656544559 : True := trivial
theorem Mine.top.tw9631074621892390191 : True := trivial
theorem Mine.top.tw4655869559712951663 : True := trivial
theorem Mine.top.tw7198060816514059695 : True := trivial
theorem Mine.top.tw13326734554550294991 : True := trivial
theorem Mine.top.tw9913501989792142831 : True := trivial
theorem Mine.top.tw9590735534726013551 : True := trivial
theorem Mine.top.tw5604026686304666287 : True := trivial
theorem Mine.top.tw8369368087495890639 : True := trivial
theorem Mine.top.tw5581607755468803823 : True := trivial
theorem Mine.top.tw9113342356557571855 : True := trivial
theorem Mine.top.tw10567129059001840431 : True := trivial
theorem Mine.top.tw11762496359356365647 : True := trivial
theorem Mine.top.tw2126296398998916975 : True := trivial
theorem Mine.top.tw352232786441526191 : True := trivial
theorem Mine.top.tw9378254376102152143 : True := trivial
theorem Mine.top.tw1040915598704419856 : True := trivial
theorem Mine.top.tw4186445540838780016 : True := trivial
theorem Mine.top.tw1843344800811705456 : True := trivial
theorem Mine.top.tw2145171640123136144 : True := trivial
theorem Mine.top.tw12392516345856041104 : True := trivial
theorem Mine.top.tw390997316461189296 : True := trivial
theorem Mine.top.tw11982747722937265360 : True := trivial
theorem Mine.top.tw8538268897159353584 : True := trivial
theorem Mine.top.tw7414872774492366064 : True := trivial
theorem Mine.top.tw104434173382791472 : True := trivial
theorem Mine.top.tw9382581127745807760 : True := trivial
theorem Mine.top.tw1585457916280141200 : True := trivial
theorem Mine.top.tw8735323631387419056 : True := trivial
theorem Mine.top.tw16044733080236030384 : True := trivial
theorem Mine.top.tw7444641836354208208 : True := trivial
theorem Mine.top.tw7273676953221729872 : True := trivial
theorem Mine.top.tw602653604445443664 : True := trivial
theorem Mine.top.tw14537839394382259888 : True := trivial
theorem Mine.top.tw8410488445778877200 : True := trivial
theorem Mine.top.tw7600245330811189008 : True := trivial
theorem Mine.top.tw15095372191486117680 : True := trivial
theorem Mine.top.tw12342655685612074800 : True := trivial
theorem Mine.top.tw14861896470697024400 : True := trivial
theorem Mine.top.tw4383139521930768336 : True := trivial
theorem Mine.top.tw7429413206186439793 : True := trivial
theorem Mine.top.tw6196800358849779857 : True := trivial
theorem Mine.top.tw3820434133910038737 : True := trivial
theorem Mine.top.tw18086089286151905521 : True := trivial
theorem Mine.top.tw10996937224433265937 : True := trivial
theorem Mine.top.tw1245559373397905713 : True := trivial
theorem Mine.top.tw7250933059871147345 : True := trivial
theorem Mine.top.tw14597223018079223185 : True := trivial
theorem Mine.top.tw7913636548009798097 : True := trivial
theorem Mine.top.tw8204474986945543665 : True := trivial
theorem Mine.top.tw11457754044182789617 : True := trivial
theorem Mine.top.tw9305691244287143441 : True := trivial
theorem Mine.top.tw2835187731363253809 : True := trivial
theorem Mine.top.tw1706793611546318481 : True := trivial
theorem Mine.top.tw9166809390415177425 : True := trivial
theorem Mine.top.tw5225153198818245361 : True := trivial
theorem Mine.top.tw9335426496214029073 : True := trivial
theorem Mine.top.tw13307591127769906961 : True := trivial
theorem Mine.top.tw18008055252877512497 : True := trivial
theorem Mine.top.tw2822501910515967889 : True := trivial
theorem Mine.top.tw4076138812419527698 : True := trivial
theorem Mine.top.tw908825868028484722 : True := trivial
theorem Mine.top.tw16597617366809209970 : True := trivial
theorem Mine.top.tw9259421805112917234 : True := trivial
theorem Mine.top.tw3855276242980373810 : True := trivial
theorem Mine.top.tw15877122091014420850 : True := trivial
theorem Mine.top.tw2907113945770861938 : True := trivial
theorem Mine.top.tw14657780768301432306 : True := trivial
theorem Mine.top.tw427420600052151026 : True := trivial
theorem Mine.top.tw8645369167282567922 : True := trivial
theorem Mine.top.tw705360758644809490 : True := trivial
theorem Mine.top.tw14399976873020721970 : True := trivial
theorem Mine.top.tw13261893007816960818 : True := trivial
theorem Mine.top.tw10987319290404115282 : True := trivial
theorem Mine.top.tw15092371282622821202 : True := trivial
theorem Mine.top.tw12540527436937284434 : True := trivial
theorem Mine.top.tw10090393231696489298 : True := trivial
theorem Mine.top.tw8025738503920905074 : True := trivial
theorem Mine.top.tw16550210197400561554 : True := trivial
theorem Mine.top.tw8148004212497801138 : True := trivial
theorem Mine.top.tw4699463449715708850 : True := trivial
theorem Mine.top.tw17177869089781658578 : True := trivial
theorem Mine.top.tw1483126911874232274 : True := trivial
theorem Mine.top.tw16795567611416646642 : True := trivial
theorem Mine.top.tw887695700811335699 : True := trivial
theorem Mine.top.tw9229161468869434483 : True := trivial
theorem Mine.top.tw5507162329139097715 : True := trivial
theorem Mine.top.tw2007660962349395123 : True := trivial
theorem Mine.top.tw16204670001084760307 : True := trivial
theorem Mine.top.tw11141966352661209427 : True := trivial
theorem Mine.top.tw5088376156974544275 : True := trivial
theorem Mine.top.tw11133666699803404755 : True := trivial
theorem Mine.top.tw6662652255960138227 : True := trivial
theorem Mine.top.tw1275901062530889299 : True := trivial
theorem Mine.top.tw5398424786039705171 : True := trivial
theorem Mine.top.tw877433047237710547 : True := trivial
theorem Mine.top.tw13420762306968818387 : True := trivial
theorem Mine.top.tw12117888159696746259 : True := trivial
theorem Mine.top.tw5278709424875269971 : True := trivial
theorem Mine.top.tw7160873610591055699 : True := trivial
theorem Mine.top.tw1492452104121835379 : True := trivial
theorem Mine.top.tw8874702517807110003 : True := trivial
theorem Mine.top.tw17486766287000646611 : True := trivial
theorem Mine.top.tw7743179893348639699 : True := trivial
theorem Mine.top.tw2758071753971750899 : True := trivial
theorem Mine.top.tw12643491718579748851 : True := trivial
theorem Mine.top.tw4526881389914513428 : True := trivial
theorem Mine.top.tw13783846897844823188 : True := trivial
theorem Mine.top.tw1676862907878916244 : True := trivial
theorem Mine.top.tw15918733279669447828 : True := trivial
theorem Mine.top.tw13975414291046593716 : True := trivial
theorem Mine.top.tw12415523145999629524 : True := trivial
theorem Mine.top.tw1394568958698188020 : True := trivial
theorem Mine.top.tw9442318146202087700 : True := trivial
theorem Mine.top.tw84136930442132756 : True := trivial
theorem Mine.top.tw14789260269991461300 : True := trivial
theorem Mine.top.tw17022078359063049780 : True := trivial
theorem Mine.top.tw11760055953109336660 : True := trivial
theorem Mine.top.tw1617357707322924660 : True := trivial
theorem Mine.top.tw1284575025550258836 : True := trivial
theorem Mine.top.tw4159251561096739476 : True := trivial
theorem Mine.top.tw12535971307161669396 : True := trivial
theorem Mine.top.tw11922380849998532372 : True := trivial
theorem Mine.top.tw16759092144687519636 : True := trivial
theorem Mine.top.tw6694047246710070196 : True := trivial
theorem Mine.top.tw6265701101103706036 : True := trivial
theorem Mine.top.tw13983857475226248213 : True := trivial
theorem Mine.top.tw5225916559131626549 : True := trivial
theorem Mine.top.tw4784893810139332661 : True := trivial
theorem Mine.top.tw2686433634493928565 : True := trivial
theorem Mine.top.tw4796303294375832693 : True := trivial
theorem Mine.top.tw11994683656316670133 : True := trivial
theorem Mine.top.tw7008692893051332821 : True := trivial
theorem Mine.top.tw10562855833978642645 : True := trivial
theorem Mine.top.tw14402358008270493973 : True := trivial
theorem Mine.top.tw3739144386018749749 : True := trivial
theorem Mine.top.tw13549259019975226677 : True := trivial
theorem Mine.top.tw1988063486488863061 : True := trivial
theorem Mine.top.tw11334203419191126389 : True := trivial
theorem Mine.top.tw7386116660499605909 : True := trivial
theorem Mine.top.tw2220570432770164149 : True := trivial
theorem Mine.top.tw575894324575664597 : True := trivial
theorem Mine.top.tw4213018616267185653 : True := trivial
theorem Mine.top.tw11203750815551599093 : True := trivial
theorem Mine.top.tw15004652626996871669 : True := trivial
theorem Mine.top.tw18371284783138465269 : True := trivial
theorem Mine.top.tw72247145696351765 : True := trivial
theorem Mine.top.tw16034636559557993077 : True := trivial
theorem Mine.top.tw10797620697341660853 : True := trivial
theorem Mine.top.tw4058662728301269685 : True := trivial
theorem Mine.top.tw864819663365544661 : True := trivial
theorem Mine.top.tw13345470168829271861 : True := trivial
theorem Mine.top.tw350670483859837877 : True := trivial
theorem Mine.top.tw18367679650794681301 : True := trivial
theorem Mine.top.tw8813761850579938390 : True := trivial
theorem Mine.top.tw13044034144603486326 : True := trivial
theorem Mine.top.tw9800703332001039478 : True := trivial
theorem Mine.top.tw8265311939077410998 : True := trivial
theorem Mine.top.tw10801874191123338550 : True := trivial
theorem Mine.top.tw8054331753737935190 : True := trivial
theorem Mine.top.tw5597187220613765494 : True := trivial
theorem Mine.top.tw17346259052997144950 : True := trivial
theorem Mine.top.tw11116745826364501430 : True := trivial
theorem Mine.top.tw5648408011753718230 : True := trivial
theorem Mine.top.tw4736427724481360342 : True := trivial
theorem Mine.top.tw15362295582089109014 : True := trivial
theorem Mine.top.tw9366391650621772374 : True := trivial
theorem Mine.top.tw15169761463676818070 : True := trivial
theorem Mine.top.tw8694864300669457046 : True := trivial
theorem Mine.top.tw1195175773429642966 : True := trivial
theorem Mine.top.tw4166218997396506358 : True := trivial
theorem Mine.top.tw8657480035899644758 : True := trivial
theorem Mine.top.tw3584897518013459382 : True := trivial
theorem Mine.top.tw10194810499950245846 : True := trivial
theorem Mine.top.tw17492772389151264855 : True := trivial
theorem Mine.top.tw7458633546980236471 : True := trivial
theorem Mine.top.tw16885616592811714743 : True := trivial
theorem Mine.top.tw12318557346453588183 : True := trivial
theorem Mine.top.tw7204998973626084599 : True := trivial
theorem Mine.top.tw3712731000106771831 : True := trivial
theorem Mine.top.tw7381879191629600215 : True := trivial
theorem Mine.top.tw3120133295221510679 : True := trivial
theorem Mine.top.tw2312856594315299383 : True := trivial
theorem Mine.top.tw4299629679881509495 : True := trivial
theorem Mine.top.tw15349318334595610263 : True := trivial
theorem Mine.top.tw8143265674769528471 : True := trivial
theorem Mine.top.tw8139039716903228087 : True := trivial
theorem Mine.top.tw12012865196380796599 : True := trivial
theorem Mine.top.tw7830913209206220567 : True := trivial
theorem Mine.top.tw15722756333993289495 : True := trivial
theorem Mine.top.tw11520865232209809239 : True := trivial
theorem Mine.top.tw3561193834555079511 : True := trivial
theorem Mine.top.tw5868845118606482295 : True := trivial
theorem Mine.top.tw5245862010334584759 : True := trivial
theorem Mine.top.tw4331257952254489624 : True := trivial
theorem Mine.top.tw9843447840031818808 : True := trivial
theorem Mine.top.tw10008474027749305400 : True := trivial
theorem Mine.top.tw11199710921928265848 : True := trivial
theorem Mine.top.tw1139600151236580504 : True := trivial
theorem Mine.top.tw681777741448182936 : True := trivial
theorem Mine.top.tw7512850731694144728 : True := trivial
theorem Mine.top.tw6487610083215253720 : True := trivial
theorem Mine.top.tw9063741608606530840 : True := trivial
theorem Mine.top.tw2812155379371279736 : True := trivial
theorem Mine.top.tw4498253355057717688 : True := trivial
theorem Mine.top.tw12783364522390391256 : True := trivial
theorem Mine.top.tw4551080515912023512 : True := trivial
theorem Mine.top.tw6211089042160764376 : True := trivial
theorem Mine.top.tw13500427573557490136 : True := trivial
theorem Mine.top.tw9768079942903668216 : True := trivial
theorem Mine.top.tw8107780213005350392 : True := trivial
theorem Mine.top.tw2617719716777270872 : True := trivial
theorem Mine.top.tw1149218181149386328 : True := trivial
theorem Mine.top.tw8810280945414196856 : True := trivial
theorem Mine.top.tw8237333600419904120 : True := trivial
theorem Mine.top.tw18164388396756303480 : True := trivial
theorem Mine.top.tw6746510453823603384 : True := trivial
theorem Mine.top.tw16713831800681072344 : True := trivial
theorem Mine.top.tw6572447435987645144 : True := trivial
theorem Mine.top.tw3995942328266245912 : True := trivial
theorem Mine.top.tw17886615442053742456 : True := trivial
theorem Mine.top.tw2722852734226103192 : True := trivial
theorem Mine.top.tw15245507539482535896 : True := trivial
theorem Mine.top.tw5889316905344633881 : True := trivial
theorem Mine.top.tw11546936639936008217 : True := trivial
theorem Mine.top.tw6908635100366463001 : True := trivial
theorem Mine.top.tw16273406610938067001 : True := trivial
theorem Mine.top.tw17030962893124633753 : True := trivial
theorem Mine.top.tw2596539476470345881 : True := trivial
theorem Mine.top.tw10001883323181062329 : True := trivial
theorem Mine.top.tw13359135706311490777 : True := trivial
theorem Mine.top.tw9851269098105209369 : True := trivial
theorem Mine.top.tw8327351992414209593 : True := trivial
theorem Mine.top.tw14349089067433371257 : True := trivial
theorem Mine.top.tw6189502492464219833 : True := trivial
theorem Mine.top.tw3874152929960365753 : True := trivial
theorem Mine.top.tw795583310449317561 : True := trivial
theorem Mine.top.tw11466170419677230873 : True := trivial
theorem Mine.top.tw16325430554902658873 : True := trivial
theorem Mine.top.tw9178861053002065721 : True := trivial
theorem Mine.top.tw10703516329204539289 : True := trivial
theorem Mine.top.tw16196420915677631385 : True := trivial
theorem Mine.top.tw11199532085631943738 : True := trivial
theorem Mine.top.tw9743097575036673082 : True := trivial
theorem Mine.top.tw6973401727384321114 : True := trivial
theorem Mine.top.tw4347277040485782778 : True := trivial
theorem Mine.top.tw10079171474624433434 : True := trivial
theorem Mine.top.tw1047907039808853306 : True := trivial
theorem Mine.top.tw14823308797102314842 : True := trivial
theorem Mine.top.tw3195522803047326042 : True := trivial
theorem Mine.top.tw10448899703829047738 : True := trivial
theorem Mine.top.tw9673933992889287130 : True := trivial
theorem Mine.top.tw5105846836358774362 : True := trivial
theorem Mine.top.tw1108800333578037850 : True := trivial
theorem Mine.top.tw5702910450625016506 : True := trivial
theorem Mine.top.tw16420938139371093754 : True := trivial
theorem Mine.top.tw12105128591322288922 : True := trivial
theorem Mine.top.tw17219337458794519322 : True := trivial
theorem Mine.top.tw15353528756566410042 : True := trivial
theorem Mine.top.tw1886144042066472794 : True := trivial
theorem Mine.top.tw4713442408853163898 : True := trivial
theorem Mine.top.tw13068111086705522682 : True := trivial
theorem Mine.top.tw427269002284569659 : True := trivial
theorem Mine.top.tw10187264123177260123 : True := trivial
theorem Mine.top.tw4773702212245658779 : True := trivial
theorem Mine.top.tw17089494485692210459 : True := trivial
theorem Mine.top.tw17981982808018919739 : True := trivial
theorem Mine.top.tw995497684801637723 : True := trivial
theorem Mine.top.tw10017263926548143515 : True := trivial
theorem Mine.top.tw4134505453457115739 : True := trivial
theorem Mine.top.tw3422688185749166683 : True := trivial
theorem Mine.top.tw16800595933775061595 : True := trivial
theorem Mine.top.tw16821654228018055803 : True := trivial
theorem Mine.top.tw3337584539547039419 : True := trivial
theorem Mine.top.tw11858546649754279707 : True := trivial
theorem Mine.top.tw9152664641465651067 : True := trivial
theorem Mine.top.tw6127594578889010139 : True := trivial
theorem Mine.top.tw13120753694373217308 : True := trivial
theorem Mine.top.tw13134186033006778460 : True := trivial
theorem Mine.top.tw11334415319851112604 : True := trivial
theorem Mine.top.tw5523086135645875356 : True := trivial
theorem Mine.top.tw18245740138792012028 : True := trivial
theorem Mine.top.tw14826035006057030972 : True := trivial
theorem Mine.top.tw13928562000808390012 : True := trivial
theorem Mine.top.tw1869187583165140508 : True := trivial
theorem Mine.top.tw12376051458212225564 : True := trivial
theorem Mine.top.tw13802547742096326172 : True := trivial
theorem Mine.top.tw14917401599646851644 : True := trivial
theorem Mine.top.tw4321519831107876412 : True := trivial
theorem Mine.top.tw8689318265317240412 : True := trivial
theorem Mine.top.tw10195997230039290492 : True := trivial
theorem Mine.top.tw16453443671601555132 : True := trivial
theorem Mine.top.tw216529984938456764 : True := trivial
theorem Mine.top.tw1088946173253831356 : True := trivial
theorem Mine.top.tw15361541807878343388 : True := trivial
theorem Mine.top.tw18034075008235765660 : True := trivial
theorem Mine.top.tw10060563435695780796 : True := trivial
theorem Mine.top.tw3776753064480771068 : True := trivial
theorem Mine.top.tw4547018644641229820 : True := trivial
theorem Mine.top.tw956089473029861405 : True := trivial
theorem Mine.top.tw11240886729373846589 : True := trivial
theorem Mine.top.tw5155950481276406077 : True := trivial
theorem Mine.top.tw2782073688633401757 : True := trivial
theorem Mine.top.tw668136137496459709 : True := trivial
theorem Mine.top.tw2057334267981633021 : True := trivial
theorem Mine.top.tw17355269125676882429 : True := trivial
theorem Mine.top.tw15749434781750407773 : True := trivial
theorem Mine.top.tw10773188271377071773 : True := trivial
theorem Mine.top.tw7325726471975496349 : True := trivial
theorem Mine.top.tw11430207588045935325 : True := trivial
theorem Mine.top.tw18177719399980262173 : True := trivial
theorem Mine.top.tw3730354652608582461 : True := trivial
theorem Mine.top.tw11423202765487971197 : True := trivial
theorem Mine.top.tw1833847959688406909 : True := trivial
theorem Mine.top.tw47109162367338493 : True := trivial
theorem Mine.top.tw14901070454687303710 : True := trivial
theorem Mine.top.tw13091174067606910046 : True := trivial
theorem Mine.top.tw8973803690348224638 : True := trivial
theorem Mine.top.tw14851680436948445374 : True := trivial
theorem Mine.top.tw2555065506035805374 : True := trivial
theorem Mine.top.tw8968299171318014206 : True := trivial
theorem Mine.top.tw6930518751129746686 : True := trivial
theorem Mine.top.tw9361663168868926718 : True := trivial
theorem Mine.top.tw12904532413392791838 : True := trivial
theorem Mine.top.tw7994173218167792958 : True := trivial
theorem Mine.top.tw10579768621468169598 : True := trivial
theorem Mine.top.tw6859976401760118174 : True := trivial
theorem Mine.top.tw9108098604805947806 : True := trivial
theorem Mine.top.tw2878843996050045342 : True := trivial
theorem Mine.top.tw10956490626425055710 : True := trivial
theorem Mine.top.tw788273225186049534 : True := trivial
theorem Mine.top.tw5118827330378232414 : True := trivial
theorem Mine.top.tw105208000716104510 : True := trivial
theorem Mine.top.tw13889484949932952446 : True := trivial
theorem Mine.top.tw5983031951866500094 : True := trivial
theorem Mine.top.tw15058813355848621054 : True := trivial
theorem Mine.top.tw2267912224990424062 : True := trivial
theorem Mine.top.tw14371913498598963198 : True := trivial
theorem Mine.top.tw14390669486469195807 : True := trivial
theorem Mine.top.tw1754339480302792767 : True := trivial
theorem Mine.top.tw7990429038631628895 : True := trivial
theorem Mine.top.tw16975562568813534335 : True := trivial
theorem Mine.top.tw17428532607074087071 : True := trivial
theorem Mine.top.tw2464713573024523455 : True := trivial
theorem Mine.top.tw6187478851450931391 : True := trivial
theorem Mine.top.tw10341860258655708415 : True := trivial
theorem Mine.top.tw18085771088847121727 : True := trivial
theorem Mine.top.tw11279390925490393535 : True := trivial
theorem Mine.top.tw9589608677651300831 : True := trivial
theorem Mine.top.tw14762295962024373759 : True := trivial
theorem Mine.top.tw5766051744304087583 : True := trivial
theorem Mine.top.tw2514443458684651071 : True := trivial
theorem Mine.top.tw12094960947251128927 : True := trivial
theorem Mine.top.tw8345894832289464959 : True := trivial
theorem Mine.top.tw649594095290182367 : True := trivial
theorem Mine.top.tw13369591340354186047 : True := trivial
theorem Mine.top.tw2837373999431856959 : True := trivial
theorem Mine.top.tw10399464001100048223 : True := trivial
theorem Mine.top.tw3207569582813703071 : True := trivial
theorem Mine.top.tw5839659824258004927 : True := trivial
theorem Mine.top.tw12532759684312508863 : True := trivial
section
open PySem PySem.W PyProof.Rows
set_option maxHeartbeats 0 in
set_option Elab.async true in
theorem Mine.top : PySem.Challenge.rw_sj0200_02.Holds := by
  w_on
  o_law
  k_head
  case hw => w_witness2
  intro w s₀ s₁ mg mb G Y fa o pm cd doc dV kV ho hd hcd hD hmg hg args vals as hpre hlay hrd hwl hlo
  have KX := kIn_of Y
  refine Ground.open G ?_
  intro T B D TE TW
  have hmg' : mg (Str.ofString "law") = some (.ref fa) := hmg
  clear hD hcd hd ho hmg
  wrow_args hpre hlay hrd hwl hlo
  rename_i xs _ _ _ _ _ _ _ la vl _ hL _ _ _ hI _ hlen _
  have hfa : fa = 636 := by
    have h1 := mg_of (n := Str.ofString "law") KX T.g (v := .ref 636) (by kernel_rfl)
    rw [hmg'] at h1
    injection h1 with h1; injection h1
  subst hfa
  have hlen' : xs.length ≤ Mine.big := by
    have : Mine.big = 16777216 := rfl
    omega
  refine Mine.fin KX (topRead_of T) hlen' hL (by simpa using hI) ?_ ?_ (by kernel_rfl) fun μ' H2 s' S I => ⟨.inl ⟨_, .bool true, [], rfl, fun _ => rfl, .bool true, by kernel_rfl, unshared_nil⟩, .of_keep I.stays, S.os, .of_eq (S.gens.trans hg)⟩
  · exact ⟨by kernel_rfl, by kernel_rfl, by kernel_rfl, by kernel_rfl, by kernel_rfl, by kernel_rfl, by kernel_rfl, by kernel_rfl, by kernel_rfl, by kernel_rfl, by kernel_rfl, fun a0 a1 a2 a3 a4 a5 a6 => (by kernel_rfl : List.map _ _ = _)⟩
  · exact ⟨by kernel_rfl, by kernel_rfl, by kernel_rfl, by kernel_rfl, by kernel_rfl, by kernel_rfl, by kernel_rfl, by kernel_rfl, by kernel_rfl, by kernel_rfl, by kernel_rfl, ⟨_, _, _, _, _, _, _, _, _, _, _, _, _, _, _, by with_unfolding_all rfl, by kernel_rfl⟩, fun S a b c => (by kernel_rfl : peek _ _ _ = _), by kernel_rfl, by kernel_rfl, by kernel_rfl, by kernel_rfl, by kernel_rfl, by kernel_rfl, by kernel_rfl, by kernel_rfl, by kernel_rfl, by kernel_rfl, by kernel_rfl, by kernel_rfl, by kernel_rfl, by kernel_rfl⟩
end
theorem PySem.Challenge.cw_sj0200_02_holds : PySem.Challenge.rw_sj0200_02.Holds :=
  Mine.top
