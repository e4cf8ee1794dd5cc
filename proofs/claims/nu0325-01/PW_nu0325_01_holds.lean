import PyProof.Rows.All
import Wide.All
import OpenK.AllK
import Wide.FinOn
import PySem.Challenge.RW_nu0325_01
set_option Elab.async false
set_option linter.all false
set_option backward.match.sparseCases false
set_option genSizeOf false
set_option genInjectivity false
set_option autoImplicit false
set_option maxRecDepth 100000
set_option maxHeartbeats 8000000
open PySem PySem.W PyProof.Rows
section
namespace Mine
inductive AV where
  | none
  | bool (b : Bool)
  | int (i : Int)
  | str (s : Str)
  | ref (a : Nat)
  | typ (n : String)
  | bltn (id : String)
  | fn (k : Nat)
  | cls (k : Nat)
inductive AO where
  | list (xs : List AV)
  | tup (xs : List AV)
  | inst (c d : Nat)
  | flds (fs : List (Str × AV))
  | idict (es : List (Int × AV))
  | tdict (es : List ((Str × Str) × Nat × AV)) (held : Bool)
  | cell (v : Option AV)
  | liter (a i : Nat)
  | rng (n : Int)
  | riter (x left : Int)
  | diter (d i n : Nat)
  | rev (a n : Nat)
  | junk
structure St where
  h : List AO
  loc : Str → Option AV
noncomputable def upd (l : Str → Option AV) (x : Str) (v : AV) : Str → Option AV := fun y => if y = x then some v else l y
noncomputable def St.alloc (σ : St) (o : AO) : St := { σ with h := σ.h ++ [o] }
noncomputable def St.put (σ : St) (i : Nat) (o : AO) : St := { σ with h := σ.h.set i o }
structure Cx where
  kind : Str → Option NameKind
  cells : List (Str × Nat)
  inComp : Bool
structure Fn where
  params : List Str
  dflts : List AV
  names : List (Str × NameKind)
  body : List Stmt
structure Cls where
  init : Nat
  meths : List (Str × Nat)
  attrs : List Str
structure Prog where
  glob : Str → Option AV
  fn : Nat → Option Fn
  cls : Nat → Option Cls
inductive Fl where
  | next
  | cont
  | ret (v : AV)
noncomputable def szMax : Nat := 100000
noncomputable def getF (x : Str) : List (Str × AV) → Option AV
  | [] => none
  | (y, v) :: r => if y = x then some v else getF x r
noncomputable def putF (x : Str) (v : AV) : List (Str × AV) → List (Str × AV)
  | [] => [(x, v)]
  | (y, w) :: r => if y = x then (y, v) :: r else (y, w) :: putF x v r
noncomputable def keyP (a b : AV) : Option (Str × Str) := match a with
  | .str x => (match b with
    | .str y => some (x, y)
    | _ => none)
  | _ => none
noncomputable def keyL : List AV → Option (Str × Str)
  | [a, b] => keyP a b
  | _ => none
noncomputable def tupAt (h : List AO) (a : Nat) : Option (List AV) := match h[a]? with
  | some (.tup xs) => some xs
  | _ => none
noncomputable def keyT (h : List AO) (a : Nat) : Option (Str × Str) := (tupAt h a).bind keyL
noncomputable def findI (k : Int) (es : List (Int × AV)) : Option AV := (es.find? fun p => p.1 = k).map (·.2)
noncomputable def putI (k : Int) (v : AV) (es : List (Int × AV)) : List (Int × AV) :=
  if es.any (fun p => p.1 = k) then es.map (fun p => if p.1 = k then (p.1, v) else p) else es ++ [(k, v)]
noncomputable def findT (k : Str × Str) (es : List ((Str × Str) × Nat × AV)) : Option AV := (es.find? fun p => p.1 = k).map (·.2.2)
noncomputable def putT (k : Str × Str) (a : Nat) (v : AV) (es : List ((Str × Str) × Nat × AV)) : List ((Str × Str) × Nat × AV) :=
  if es.any (fun p => p.1 = k) then es.map (fun p => if p.1 = k then (p.1, p.2.1, v) else p) else es ++ [(k, a, v)]
noncomputable def allInts : List AV → Option (List Int)
  | [] => some []
  | .int i :: r => (allInts r).map (i :: ·)
  | _ => none
noncomputable def eqS (x y : AV) : Option Bool := match x with
  | .int a => (match y with
    | .int b => some (a == b)
    | _ => none)
  | .str a => (match y with
    | .str b => some (a == b)
    | _ => none)
  | .bool a => (match y with
    | .bool b => some (a == b)
    | _ => none)
  | _ => none
noncomputable def listAt (h : List AO) (a : Nat) : Option (List AV) := match h[a]? with
  | some (.list xs) => some xs
  | _ => none
noncomputable def eqL (xs ys : List AV) : Option Bool :=
  if ys.isEmpty then some xs.isEmpty else (allInts xs).bind fun ms => (allInts ys).bind fun ns => some (decide (ms = ns))
noncomputable def eqB (h : List AO) (x y : AV) : Option Bool := match x with
  | .ref a => (match y with
    | .ref b => (listAt h a).bind fun xs => (listAt h b).bind fun ys => eqL xs ys
    | _ => none)
  | x => eqS x y
noncomputable def inL (x : AV) : List AV → Option Bool
  | [] => some false
  | y :: r => (eqS y x).bind fun b => (inL x r).map fun c => b || c
noncomputable def inB (h : List AO) (x : AV) : AV → Option Bool
  | .ref a => match h[a]? with
    | some (.list xs) => if xs.length ≤ szMax then inL x xs else none
    | some (.tup xs) => if xs.length ≤ szMax then inL x xs else none
    | some (.idict es) => match x with
      | .int n => some (findI n es).isSome
      | _ => none
    | _ => none
  | _ => none
noncomputable def cmpI (f : Int → Int → Bool) (a b : AV) : Option Bool := match a with
  | .int x => (match b with
    | .int y => some (f x y)
    | _ => none)
  | _ => none
noncomputable def isN (a b : AV) : Option Bool := match b with
  | .none => (match a with
    | .none => some true
    | .ref _ => some false
    | _ => none)
  | _ => none
noncomputable def cmp (op : CmpOp) (a b : AV) (σ : St) : Option Bool := match op with
  | .Eq => eqS a b
  | .NotEq => (eqB σ.h a b).map (!·)
  | .Lt => cmpI (fun x y => decide (x < y)) a b
  | .LtE => cmpI (fun x y => decide (x ≤ y)) a b
  | .Gt => cmpI (fun x y => decide (x > y)) a b
  | .GtE => cmpI (fun x y => decide (x ≥ y)) a b
  | .Is => isN a b
  | .IsNot => (isN a b).map (!·)
  | .In => inB σ.h a b
  | .NotIn => (inB σ.h a b).map (!·)
noncomputable def binI (f : Int → Int → Option Int) (a b : AV) (σ : St) : Option (AV × St) := match a with
  | .int x => (match b with
    | .int y => (f x y).map fun z => (.int z, σ)
    | _ => none)
  | _ => none
noncomputable def addV (a b : AV) (σ : St) : Option (AV × St) := match a with
  | .int x => (match b with
    | .int y => some (.int (x + y), σ)
    | _ => none)
  | .str x => (match b with
    | .str y => if x.length ≤ szMax ∧ y.length ≤ szMax then some (.str (x ++ y), σ) else none
    | _ => none)
  | .ref x => (match b with
    | .ref y => (listAt σ.h x).bind fun xs => (listAt σ.h y).bind fun ys => if xs.length ≤ szMax ∧ ys.length ≤ szMax then some (.ref σ.h.length, σ.alloc (.list (xs ++ ys))) else none
    | _ => none)
  | _ => none
noncomputable def bin (op : Operator) (a b : AV) (σ : St) : Option (AV × St) := match op with
  | .Add => addV a b σ
  | .Sub => binI (fun x y => some (x - y)) a b σ
  | .Mult => binI (fun x y => if y.natAbs < 2 ^ 60 then some (x * y) else none) a b σ
  | .FloorDiv => binI (fun x y => if 0 < y ∧ y < 2 ^ 60 then some (Int.fdiv x y) else none) a b σ
  | .Mod => binI (fun x y => if 0 < y then some (Int.fmod x y) else none) a b σ
  | .Pow => binI (fun x y => if x = 2 ∧ 0 ≤ y ∧ y ≤ 64 then some (2 ^ y.toNat) else none) a b σ
  | _ => none
noncomputable def inpl (op : Operator) (a b : AV) (σ : St) : Option (AV × St) := match op with
  | .Add => (match a with
    | .int x => (match b with
      | .int y => some (.int (x + y), σ)
      | _ => none)
    | .ref x => (match b with
      | .ref y => (listAt σ.h x).bind fun xs => (listAt σ.h y).bind fun ys => if x ≠ y ∧ xs.length ≤ szMax ∧ ys.length ≤ szMax then some (.ref x, σ.put x (.list (xs ++ ys))) else none
      | _ => none)
    | _ => none)
  | _ => none
noncomputable def idx? (n : Nat) (k : Int) : Option Nat :=
  if 0 ≤ k then (if k < n then some k.toNat else none) else (if 0 ≤ k + n then some (k + n).toNat else none)
noncomputable def pickL (xs : List AV) (k : Int) : Option AV := if xs.length ≤ szMax then (idx? xs.length k).bind fun j => xs[j]? else none
noncomputable def itemI (a : Nat) (k : Int) (σ : St) : Option AV := match σ.h[a]? with
  | some (.list xs) => pickL xs k
  | some (.tup xs) => pickL xs k
  | _ => none
noncomputable def tdAt (h : List AO) (a : Nat) : Option (List ((Str × Str) × Nat × AV)) := match h[a]? with
  | some (.tdict es _) => some es
  | _ => none
noncomputable def itemS (s : Str) (k : Int) : Option AV := if 0 ≤ k ∧ k < s.length ∧ s.length ≤ szMax then some (.str ⟨#[s.cps.getD k.toNat 0]⟩) else none
noncomputable def item (o i : AV) (σ : St) : Option AV := match o with
  | .ref a => (match i with
    | .int k => itemI a k σ
    | .ref b => (tdAt σ.h a).bind fun es => (keyT σ.h b).bind fun k => findT k es
    | _ => none)
  | .str s => (match i with
    | .int k => itemS s k
    | _ => none)
  | _ => none
noncomputable def sliceL (lo hi : AV) (xs : List AV) : Option (List AV) := match lo with
  | .none => (match hi with
    | .int b => if 0 ≤ b then some (xs.take b.toNat) else none
    | _ => none)
  | .int a => (match hi with
    | .none => if 0 ≤ a then some (xs.drop a.toNat) else none
    | .int b => if 0 ≤ a ∧ 0 ≤ b then some ((xs.take b.toNat).drop a.toNat) else none
    | _ => none)
  | _ => none
noncomputable def slice (o lo hi : AV) (σ : St) : Option (AV × St) := match o with
  | .ref a => (listAt σ.h a).bind fun xs => if xs.length ≤ szMax then (sliceL lo hi xs).map fun ys => (.ref (σ.h.length + 1), (σ.alloc .junk).alloc (.list ys)) else none
  | _ => none
noncomputable def setI (a : Nat) (k : Int) (v : AV) (σ : St) : Option St := match σ.h[a]? with
  | some (.list xs) => if xs.length ≤ szMax ∧ 0 ≤ k ∧ k < xs.length then some (σ.put a (.list (xs.set k.toNat v))) else none
  | some (.idict es) => if es.length ≤ szMax then some (σ.put a (.idict (putI k v es))) else none
  | _ => none
noncomputable def setT (a b : Nat) (k : Str × Str) (v : AV) (σ : St) : Option St := match σ.h[a]? with
  | some (.idict es) => if es.isEmpty then some (σ.put a (.tdict [(k, b, v)] false)) else none
  | some (.tdict es held) => if held = false ∧ es.length ≤ szMax then some (σ.put a (.tdict (putT k b v es) false)) else none
  | _ => none
noncomputable def setItem (o i v : AV) (σ : St) : Option St := match o with
  | .ref a => (match i with
    | .int k => setI a k v σ
    | .ref b => (keyT σ.h b).bind fun k => setT a b k v σ
    | _ => none)
  | _ => none
noncomputable def notF (v : AV) : Option AV := match v with
  | .bltn _ => none
  | v => some v
noncomputable def instAt (h : List AO) (o : AV) : Option (Nat × Nat × Nat) := match o with
  | .ref a => (match h[a]? with
    | some (.inst c d) => some (a, c, d)
    | _ => none)
  | _ => none
noncomputable def fldsAt (h : List AO) (d : Nat) : Option (List (Str × AV)) := match h[d]? with
  | some (.flds fs) => some fs
  | _ => none
noncomputable def attr (P : Prog) (o : AV) (x : Str) (σ : St) : Option AV := (instAt σ.h o).bind fun q => (P.cls q.2.1).bind fun k => (fldsAt σ.h q.2.2).bind fun fs =>
  if k.attrs.contains x then (getF x fs).bind notF else none
noncomputable def setAttr (P : Prog) (o : AV) (x : Str) (v : AV) (σ : St) : Option St := (instAt σ.h o).bind fun q => (P.cls q.2.1).bind fun k => (fldsAt σ.h q.2.2).bind fun fs =>
  if k.attrs.contains x ∧ fs.length ≤ 100 then some (σ.put q.2.2 (.flds (putF x v fs))) else none
noncomputable def iterAt (a : Nat) (σ : St) : Option (AO × St) := match σ.h[a]? with
  | some (.list xs) => if xs.length ≤ szMax then some (.liter a 0, σ) else none
  | some (.rng n) => if -1000 ≤ n ∧ n ≤ 1000 then some (.riter 0 (if 0 < n then n else 0), σ) else none
  | some (.tdict es held) => if held = false then some (.diter a 0 es.length, σ.put a (.tdict es true)) else none
  | _ => none
noncomputable def mkIter (o : AV) (σ : St) : Option (AV × St) := match o with
  | .ref a => (iterAt a σ).map fun q => (.ref q.2.h.length, q.2.alloc q.1)
  | _ => none
noncomputable def nextL (j a i : Nat) (σ : St) : Option (Option AV × St) := (listAt σ.h a).bind fun xs => if xs.length ≤ szMax then (match xs[i]? with
  | some v => some (some v, σ.put j (.liter a (i + 1)))
  | none => some (none, σ.put j .junk)) else none
noncomputable def nextR (j : Nat) (x l : Int) (σ : St) : Option (Option AV × St) := if 0 < l then some (some (.int x), σ.put j (.riter (x + 1) (l - 1))) else some (none, σ.put j .junk)
noncomputable def heldAt (h : List AO) (d : Nat) : Option (List ((Str × Str) × Nat × AV)) := match h[d]? with
  | some (.tdict es held) => if held = true then some es else none
  | _ => none
noncomputable def nextD (j d i n : Nat) (σ : St) : Option (Option AV × St) := (heldAt σ.h d).bind fun es => if es.length = n then (match es[i]? with
  | some e => some (some (.ref e.2.1), σ.put j (.diter d (i + 1) n))
  | none => some (none, σ.put j .junk)) else none
noncomputable def nextAt (j : Nat) (σ : St) : Option (Option AV × St) := match σ.h[j]? with
  | some (.liter a i) => nextL j a i σ
  | some (.riter x l) => nextR j x l σ
  | some (.diter d i n) => nextD j d i n σ
  | _ => none
noncomputable def next (it : AV) (σ : St) : Option (Option AV × St) := match it with
  | .ref j => nextAt j σ
  | _ => none
noncomputable def ofInts (l : List Int) : List AV := l.map .int
noncomputable def lenV (v : AV) (σ : St) : Option (AV × St) := match v with
  | .str s => if s.length ≤ szMax then some (.int s.length, σ) else none
  | .ref a => (listAt σ.h a).bind fun xs => if xs.length ≤ szMax then some (.int xs.length, σ) else none
  | _ => none
noncomputable def sumV (v : AV) (σ : St) : Option (AV × St) := match v with
  | .ref a => (listAt σ.h a).bind fun xs => (allInts xs).bind fun ns => if xs.length ≤ 63 then some (.int ns.sum, σ) else none
  | _ => none
noncomputable def sortedV (v : AV) (σ : St) : Option (AV × St) := match v with
  | .ref a => (listAt σ.h a).bind fun xs => (allInts xs).bind fun ns => if xs.length ≤ 63 then some (.ref σ.h.length, σ.alloc (.list (ofInts (ns.mergeSort fun x y => decide (x ≤ y))))) else none
  | _ => none
noncomputable def maxV (v w : AV) (σ : St) : Option (AV × St) := match v with
  | .int x => (match w with
    | .int y => some (.int (if x < y then y else x), σ)
    | _ => none)
  | _ => none
noncomputable def isStrV (v : AV) (σ : St) : Option (AV × St) := match v with
  | .str _ => some (.bool true, σ)
  | .ref a => (listAt σ.h a).map fun _ => (.bool false, σ)
  | _ => none
noncomputable def instV (v w : AV) (σ : St) : Option (AV × St) := match w with
  | .typ n => if n = "str" then isStrV v σ else none
  | _ => none
noncomputable def strV (v : AV) (σ : St) : Option (AV × St) := match v with
  | .int i => if 0 ≤ i ∧ i ≤ 1000 then some (.str (Str.ofString (toString i)), σ) else none
  | _ => none
noncomputable def tupleV (v : AV) (σ : St) : Option (AV × St) := match v with
  | .ref a => (tupAt σ.h a).map fun _ => (.ref a, σ)
  | _ => none
noncomputable def rangeV (v : AV) (σ : St) : Option (AV × St) := match v with
  | .int n => if -1000 ≤ n ∧ n ≤ 1000 then some (.ref σ.h.length, σ.alloc (.rng n)) else none
  | _ => none
noncomputable def revV (v : AV) (σ : St) : Option (AV × St) := match v with
  | .ref a => (listAt σ.h a).bind fun xs => if xs.length ≤ szMax then some (.ref σ.h.length, σ.alloc (.rev a xs.length)) else none
  | _ => none
noncomputable def callBl (id : String) (args : List AV) (σ : St) : Option (AV × St) := match args with
  | [v] => if id = "len" then lenV v σ else if id = "sum" then sumV v σ else if id = "sorted" then sortedV v σ else none
  | [v, w] => if id = "max" then maxV v w σ else if id = "isinstance" then instV v w σ else none
  | _ => none
noncomputable def callTy (id : String) (args : List AV) (σ : St) : Option (AV × St) := match args with
  | [v] => if id = "str" then strV v σ else if id = "tuple" then tupleV v σ else if id = "range" then rangeV v σ else if id = "reversed" then revV v σ else none
  | _ => none
noncomputable def callB (f : AV) (args : List AV) (σ : St) : Option (AV × St) := match f with
  | .bltn id => callBl id args σ
  | .typ id => callTy id args σ
  | _ => none
noncomputable def appendL (a : Nat) (xs args : List AV) (σ : St) : Option (AV × St) := match args with
  | [v] => some (.none, σ.put a (.list (xs ++ [v])))
  | _ => none
noncomputable def insertL (a : Nat) (xs args : List AV) (σ : St) : Option (AV × St) := match args with
  | [i, v] => (match i with
    | .int k => if k = 0 then some (.none, σ.put a (.list (v :: xs))) else none
    | _ => none)
  | _ => none
noncomputable def popL (a : Nat) (xs args : List AV) (σ : St) : Option (AV × St) := match args with
  | [] => (match xs.reverse with
    | v :: r => some (v, σ.put a (.list r.reverse))
    | _ => none)
  | _ => none
noncomputable def revAt (h : List AO) (v : AV) : Option (Nat × Nat × Nat) := match v with
  | .ref j => (match h[j]? with
    | some (.rev b n) => some (j, b, n)
    | _ => none)
  | _ => none
noncomputable def extendL (a : Nat) (xs args : List AV) (σ : St) : Option (AV × St) := match args with
  | [v] => (revAt σ.h v).bind fun q => (listAt σ.h q.2.1).bind fun ys => if a ≠ q.2.1 ∧ ys.length = q.2.2 ∧ q.2.2 ≤ szMax then some (.none, (σ.put a (.list (xs ++ ys.reverse))).put q.1 .junk) else none
  | _ => none
noncomputable def listM (x : Str) (a : Nat) (args : List AV) (σ : St) : Option (AV × St) := (listAt σ.h a).bind fun xs =>
  if ¬ xs.length ≤ szMax then none else
  if x = "append" then appendL a xs args σ
  else if x = "insert" then insertL a xs args σ
  else if x = "pop" then popL a xs args σ
  else if x = "extend" then extendL a xs args σ
  else none
structure R where
  ev : Cx → Expr → St → Option (AV × St)
  tr : Cx → Expr → St → Option (Bool × St)
  ex : Cx → Stmt → St → Option (Fl × St)
  fn : Nat → List AV → St → Option (AV × St)
noncomputable def R.bot : R := ⟨fun _ _ _ => none, fun _ _ _ => none, fun _ _ _ => none, fun _ _ _ => none⟩
noncomputable def tagE : Expr → Nat
  | .Starred .. => 1
  | .Set .. => 2
  | .ListComp .. => 3
  | .SetComp .. => 3
  | .DictComp .. => 3
  | .Call .. => 4
  | .Tuple .. => 5
  | _ => 0
noncomputable def isStar (e : Expr) : Bool := tagE e == 1
noncomputable def isSet (e : Expr) : Bool := tagE e == 2
noncomputable def isComp (e : Expr) : Bool := tagE e == 3
noncomputable def isCall (e : Expr) : Bool := tagE e == 4
noncomputable def isTup (e : Expr) : Bool := tagE e == 5
noncomputable def evs (r : R) (c : Cx) : List Expr → St → Option (List AV × St)
  | [], σ => some ([], σ)
  | e :: es, σ => if isStar e then none else (r.ev c e σ).bind fun p => (evs r c es p.2).bind fun q => some (p.1 :: q.1, q.2)
noncomputable def exs (r : R) (c : Cx) : List Stmt → St → Option (Fl × St)
  | [], σ => some (.next, σ)
  | s :: ss, σ => (r.ex c s σ).bind fun p => match p.1 with
    | .next => exs r c ss p.2
    | f => some (f, p.2)
noncomputable def whileN (t : St → Option (Bool × St)) (b : St → Option (Fl × St)) : Nat → St → Option (Fl × St)
  | 0, _ => none
  | n + 1, σ => (t σ).bind fun p => if p.1 then (b p.2).bind fun q => match q.1 with
      | .ret v => some (.ret v, q.2)
      | _ => whileN t b n q.2
    else some (.next, p.2)
noncomputable def forN (x : Str) (it : AV) (b : St → Option (Fl × St)) : Nat → St → Option (Fl × St)
  | 0, _ => none
  | n + 1, σ => (next it σ).bind fun p => match p.1 with
    | none => some (.next, p.2)
    | some v => (b { p.2 with loc := upd p.2.loc x v }).bind fun q => match q.1 with
      | .ret v => some (.ret v, q.2)
      | _ => forN x it b n q.2
noncomputable def trs (r : R) (c : Cx) : List Expr → St → Option (Bool × St)
  | [], σ => some (true, σ)
  | e :: es, σ => (r.tr c e σ).bind fun p => if p.1 then trs r c es p.2 else some (false, p.2)
noncomputable def compN (x : Str) (it : AV) (acc : Nat) (t : St → Option (Bool × St)) (elt : St → Option (AV × St)) : Nat → St → Option St
  | 0, _ => none
  | n + 1, σ => (next it σ).bind fun p => match p.1 with
    | none => some p.2
    | some v => (t { p.2 with loc := upd p.2.loc x v }).bind fun q =>
      if q.1 then (elt q.2).bind fun e => (listM "append" acc [e.1] e.2).bind fun z => compN x it acc t elt n z.2
      else compN x it acc t elt n q.2
noncomputable def orAll (r : R) (c : Cx) (op : BoolOp) : List Expr → St → Option (AV × St)
  | [], _ => none
  | [e], σ => r.ev c e σ
  | e :: es, σ => (r.ev c e σ).bind fun p => match p.1 with
    | .bool b => (match op, b with
      | .And, false => some p
      | .Or, true => some p
      | _, _ => orAll r c op es p.2)
    | _ => none
noncomputable def trAll (r : R) (c : Cx) (op : BoolOp) : List Expr → St → Option (Bool × St)
  | [], σ => some (match op with | .And => true | .Or => false, σ)
  | e :: es, σ => (r.tr c e σ).bind fun p => match op, p.1 with
    | .And, false => some (false, p.2)
    | .Or, true => some (true, p.2)
    | _, _ => trAll r c op es p.2
noncomputable def loops : Nat := 1000000
noncomputable def compKind (c : Cx) (names : List (Str × NameKind)) (x : Str) : Option NameKind := match names.lookup x with
  | some .free => if c.kind x = some .cell then some .cell else some .free
  | k => k
noncomputable def compOk (c : Cx) (x : Str) (names : List (Str × NameKind)) : Bool :=
  names.lookup x == some .local && names.all fun p => p.2 == .globalImplicit || (p.2 == .local && names.lookup p.1 == some .local) || (p.2 == .free && c.kind p.1 == some .cell && (c.cells.lookup p.1).isSome)
noncomputable def compCx (c : Cx) (names : List (Str × NameKind)) : Cx := ⟨compKind c names, c.cells, true⟩
noncomputable def compE (r : R) (c : Cx) (elt : Expr) (x : Str) (iter : Expr) (ifs : List Expr) (scope : Scope) (σ : St) : Option (AV × St) :=
  if c.inComp || isSet iter || !(scope.kind == .function) || !compOk c x scope.names then none else
  (r.ev c iter σ).bind fun p => (mkIter p.1 p.2).bind fun q =>
    let acc := q.2.h.length
    (compN x q.1 acc (trs r (compCx c scope.names) ifs) (r.ev (compCx c scope.names) elt) loops { (q.2.alloc (.list [])) with loc := fun _ => none }).bind fun z => some (.ref acc, { z with loc := q.2.loc })
noncomputable def cellAt (h : List AO) (a : Nat) : Option (Option AV) := match h[a]? with
  | some (.cell v) => some v
  | _ => none
noncomputable def nameV (P : Prog) (c : Cx) (x : Str) (σ : St) : Option AV := if x = Str.ofString "__debug__" then none else match c.kind x with
  | some .local => σ.loc x
  | some .cell => (c.cells.lookup x).bind fun a => (cellAt σ.h a).bind id
  | some .globalImplicit => P.glob x
  | _ => none
noncomputable def storeN (c : Cx) (x : Str) (v : AV) (σ : St) : Option St := match c.kind x with
  | some .local => some { σ with loc := upd σ.loc x v }
  | some .cell => (c.cells.lookup x).bind fun a => (cellAt σ.h a).map fun _ => σ.put a (.cell (some v))
  | _ => none
noncomputable def callC (r : R) (k : Nat) (K : Cls) (args : List AV) (σ : St) : Option (AV × St) :=
  (r.fn K.init (.ref (σ.h.length + 1) :: args) ((σ.alloc (.flds [])).alloc (.inst k σ.h.length))).bind fun p => match p.1 with
    | .none => some (.ref (σ.h.length + 1), p.2)
    | _ => none
noncomputable def callV (P : Prog) (r : R) (c : Cx) (f : AV) (args : List AV) (σ : St) : Option (AV × St) := match f with
  | .fn k => if c.inComp then none else r.fn k args σ
  | .cls k => if c.inComp || σ.h.isEmpty then none else (P.cls k).bind fun K => callC r k K args σ
  | f => callB f args σ
noncomputable def constV : Const → Option AV
  | .none => some .none
  | .bool b => some (.bool b)
  | .int i => some (.int i)
  | .str s => some (.str s)
  | _ => none
noncomputable def evBin (r : R) (c : Cx) (a : Expr) (op : Operator) (b : Expr) (σ : St) : Option (AV × St) := (r.ev c a σ).bind fun p => (r.ev c b p.2).bind fun q => bin op p.1 q.1 q.2
noncomputable def negV (p : AV × St) : Option (AV × St) := match p.1 with
  | .int i => some (.int (-i), p.2)
  | _ => none
noncomputable def notV (p : AV × St) : Option (AV × St) := match p.1 with
  | .bool b => some (.bool !b, p.2)
  | _ => none
noncomputable def evUn (r : R) (c : Cx) (op : UnaryOp) (a : Expr) (σ : St) : Option (AV × St) := match op with
  | .USub => (r.ev c a σ).bind negV
  | .Not => (r.ev c a σ).bind notV
  | _ => none
noncomputable def evIf (r : R) (c : Cx) (t a b : Expr) (σ : St) : Option (AV × St) := (r.tr c t σ).bind fun p => if p.1 then r.ev c a p.2 else r.ev c b p.2
noncomputable def cmp1 (r : R) (c : Cx) (a : Expr) (op : CmpOp) (b : Expr) (σ : St) : Option (Bool × St) := if isSet b then none else (r.ev c a σ).bind fun p => (r.ev c b p.2).bind fun q => (cmp op p.1 q.1 q.2).map fun v => (v, q.2)
noncomputable def one {α : Type} : List α → Option α
  | [x] => some x
  | _ => none
noncomputable def evCmp (r : R) (c : Cx) (a : Expr) (ops : List CmpOp) (bs : List Expr) (σ : St) : Option (AV × St) := (one ops).bind fun op => (one bs).bind fun b =>
  if isSet b then none else (r.ev c a σ).bind fun p => (r.ev c b p.2).bind fun q => (cmp op p.1 q.1 q.2).map fun v => (.bool v, q.2)
noncomputable def methV (P : Prog) (r : R) (c : Cx) (x : Str) (args : List Expr) (v : AV) (σ : St) : Option (AV × St) := match v with
  | .ref a => (match σ.h[a]? with
    | some (.inst k d) => (P.cls k).bind fun K => (fldsAt σ.h d).bind fun fs => if c.inComp || (getF x fs).isSome then none else (K.meths.lookup x).bind fun f => (evs r c args σ).bind fun q => r.fn f (.ref a :: q.1) q.2
    | some (.list _) => (evs r c args σ).bind fun q => listM x a q.1 q.2
    | _ => none)
  | _ => none
noncomputable def evMeth (P : Prog) (r : R) (c : Cx) (o : Expr) (x : Str) (ap : Pos) (args : List Expr) (pos : Pos) (σ : St) : Option (AV × St) :=
  if 5 < args.length || isCall o || !(ap.endLine == pos.line) then none else (r.ev c o σ).bind fun p => methV P r c x args p.1 p.2
noncomputable def evPlain (P : Prog) (r : R) (c : Cx) (f : Expr) (args : List Expr) (σ : St) : Option (AV × St) :=
  if 9 < args.length then none else (r.ev c f σ).bind fun p => (evs r c args p.2).bind fun q => callV P r c p.1 q.1 q.2
noncomputable def evCall (P : Prog) (r : R) (c : Cx) (f : Expr) (args : List Expr) (kws : List Keyword) (pos : Pos) (σ : St) : Option (AV × St) := match kws with
  | [] => (match f with
    | .Attribute o x ap => evMeth P r c o x ap args pos σ
    | .Name g fp => evPlain P r c (.Name g fp) args σ
    | _ => none)
  | _ => none
noncomputable def evAtt (P : Prog) (r : R) (c : Cx) (o : Expr) (x : Str) (σ : St) : Option (AV × St) := if isCall o then none else (r.ev c o σ).bind fun p => (attr P p.1 x p.2).map fun v => (v, p.2)
noncomputable def evPart (r : R) (c : Cx) (x : Option Expr) (σ : St) : Option (AV × St) := match x with
  | some e => r.ev c e σ
  | none => some (.none, σ)
noncomputable def evSlc (r : R) (c : Cx) (o : Expr) (lo hi st : Option Expr) (σ : St) : Option (AV × St) := if st.isSome then none else
  (r.ev c o σ).bind fun p => (evPart r c lo p.2).bind fun q => (evPart r c hi q.2).bind fun z => slice p.1 q.1 z.1 z.2
noncomputable def evItem (r : R) (c : Cx) (o i : Expr) (σ : St) : Option (AV × St) := (r.ev c o σ).bind fun p => (r.ev c i p.2).bind fun q => (item p.1 q.1 q.2).map fun v => (v, q.2)
noncomputable def evSub (r : R) (c : Cx) (o i : Expr) (σ : St) : Option (AV × St) := match i with
  | .Slice lo hi st _ => evSlc r c o lo hi st σ
  | i => evItem r c o i σ
noncomputable def evList (r : R) (c : Cx) (es : List Expr) (σ : St) : Option (AV × St) := (evs r c es σ).bind fun p => if es.length ≤ 1000 then some (.ref p.2.h.length, p.2.alloc (.list p.1)) else none
noncomputable def evTup (r : R) (c : Cx) (es : List Expr) (σ : St) : Option (AV × St) := (evs r c es σ).bind fun p => if es.length ≤ 1000 then some (.ref p.2.h.length, p.2.alloc (.tup p.1)) else none
noncomputable def evDict (ks : List (Option Expr)) (vs : List Expr) (σ : St) : Option (AV × St) := if ks.isEmpty && vs.isEmpty then some (.ref σ.h.length, σ.alloc (.idict [])) else none
noncomputable def evGen (r : R) (c : Cx) (elt : Expr) (g : Comprehension) (scope : Scope) (σ : St) : Option (AV × St) := match g.target with
  | .Name x _ => if g.is_async = 0 then compE r c elt x g.iter g.ifs scope σ else none
  | _ => none
noncomputable def evComp (r : R) (c : Cx) (elt : Expr) (gs : List Comprehension) (scope : Scope) (σ : St) : Option (AV × St) := (one gs).bind fun g => evGen r c elt g scope σ
noncomputable def evStep (P : Prog) (r : R) (c : Cx) (e : Expr) (σ : St) : Option (AV × St) := match e with
  | .Constant k _ _ => (constV k).map fun v => (v, σ)
  | .Name x _ => (nameV P c x σ).map fun v => (v, σ)
  | .BoolOp op es _ => orAll r c op es σ
  | .BinOp a op b _ => evBin r c a op b σ
  | .UnaryOp op a _ => evUn r c op a σ
  | .IfExp t a b _ => evIf r c t a b σ
  | .Compare a ops bs _ => evCmp r c a ops bs σ
  | .Call f args kws pos => evCall P r c f args kws pos σ
  | .Attribute o x _ => evAtt P r c o x σ
  | .Subscript o i _ => evSub r c o i σ
  | .List es _ => evList r c es σ
  | .Tuple es _ _ => evTup r c es σ
  | .Dict ks vs _ => evDict ks vs σ
  | .ListComp elt gs scope _ => evComp r c elt gs scope σ
  | _ => none
noncomputable def trIf (r : R) (c : Cx) (t a b : Expr) (σ : St) : Option (Bool × St) := (r.tr c t σ).bind fun p => if p.1 then r.tr c a p.2 else r.tr c b p.2
noncomputable def trCmp (r : R) (c : Cx) (a : Expr) (ops : List CmpOp) (bs : List Expr) (σ : St) : Option (Bool × St) := (one ops).bind fun op => (one bs).bind fun b => cmp1 r c a op b σ
noncomputable def boolV (p : AV × St) : Option (Bool × St) := match p.1 with
  | .bool b => some (b, p.2)
  | _ => none
noncomputable def trVal (r : R) (c : Cx) (e : Expr) (σ : St) : Option (Bool × St) := (r.ev c e σ).bind boolV
noncomputable def trStep (r : R) (c : Cx) (e : Expr) (σ : St) : Option (Bool × St) := match e with
  | .UnaryOp op a _ => (match op with
    | .Not => (r.tr c a σ).map fun p => (!p.1, p.2)
    | _ => none)
  | .BoolOp op es _ => trAll r c op es σ
  | .IfExp t a b _ => trIf r c t a b σ
  | .Compare a ops bs _ => trCmp r c a ops bs σ
  | e => trVal r c e σ
noncomputable def asAtt (P : Prog) (r : R) (c : Cx) (o : Expr) (x : Str) (v : AV) (σ : St) : Option St := if isCall o then none else (r.ev c o σ).bind fun p => setAttr P p.1 x v p.2
noncomputable def asItem (r : R) (c : Cx) (o i : Expr) (v : AV) (σ : St) : Option St := (r.ev c o σ).bind fun p => (r.ev c i p.2).bind fun q => setItem p.1 q.1 v q.2
noncomputable def assign (P : Prog) (r : R) (c : Cx) (t : Expr) (v : AV) (σ : St) : Option St := match t with
  | .Name x _ => storeN c x v σ
  | .Attribute o x _ => asAtt P r c o x v σ
  | .Subscript o i _ => asItem r c o i v σ
  | _ => none
noncomputable def pairAt (h : List AO) (v : AV) : Option (Nat × AV × AV) := match v with
  | .ref a => (tupAt h a).bind fun xs => (match xs with
    | [x, y] => some (a, x, y)
    | _ => none)
  | _ => none
noncomputable def exTup (P : Prog) (r : R) (c : Cx) (ts : List Expr) (e : Expr) (σ : St) : Option (Fl × St) := match ts with
  | [t₁, t₂] => if isComp e || isTup e then none else (r.ev c e σ).bind fun p => (pairAt p.2.h p.1).bind fun q => (assign P r c t₁ q.2.1 p.2).bind fun σ₁ => (assign P r c t₂ q.2.2 σ₁).map fun σ₂ => (.next, σ₂)
  | _ => none
noncomputable def exKept (r : R) (c : Cx) (y : Str) (elt : Expr) (gs : List Comprehension) (scope : Scope) (σ : St) : Option (Fl × St) := (evComp r c elt gs scope σ).bind fun p => (storeN c y p.1 p.2).map fun σ' => (.next, σ')
noncomputable def exSet (P : Prog) (r : R) (c : Cx) (t e : Expr) (σ : St) : Option (Fl × St) := if isComp e || isTup t then none else (r.ev c e σ).bind fun p => (assign P r c t p.1 p.2).map fun σ' => (.next, σ')
noncomputable def exName (P : Prog) (r : R) (c : Cx) (y : Str) (yp : Pos) (e : Expr) (σ : St) : Option (Fl × St) := match e with
  | .ListComp elt gs scope _ => exKept r c y elt gs scope σ
  | e => exSet P r c (.Name y yp) e σ
noncomputable def exAsg (P : Prog) (r : R) (c : Cx) (t e : Expr) (σ : St) : Option (Fl × St) := match t with
  | .Tuple ts _ _ => exTup P r c ts e σ
  | .Name y yp => exName P r c y yp e σ
  | t => exSet P r c t e σ
noncomputable def augN (P : Prog) (r : R) (c : Cx) (x : Str) (op : Operator) (e : Expr) (σ : St) : Option (Fl × St) := (nameV P c x σ).bind fun old => (r.ev c e σ).bind fun p => (inpl op old p.1 p.2).bind fun q => (storeN c x q.1 q.2).map fun σ' => (.next, σ')
noncomputable def augA (P : Prog) (r : R) (c : Cx) (o : Expr) (x : Str) (op : Operator) (e : Expr) (σ : St) : Option (Fl × St) := (r.ev c o σ).bind fun p => (attr P p.1 x p.2).bind fun old => (r.ev c e p.2).bind fun q => (inpl op old q.1 q.2).bind fun z => (setAttr P p.1 x z.1 z.2).map fun σ' => (.next, σ')
noncomputable def exAug (P : Prog) (r : R) (c : Cx) (t : Expr) (op : Operator) (e : Expr) (σ : St) : Option (Fl × St) := match t with
  | .Name x _ => augN P r c x op e σ
  | .Attribute o x _ => augA P r c o x op e σ
  | _ => none
noncomputable def exIf (r : R) (c : Cx) (t : Expr) (a b : List Stmt) (σ : St) : Option (Fl × St) := (r.tr c t σ).bind fun p => if p.1 then exs r c a p.2 else exs r c b p.2
noncomputable def exFor (r : R) (c : Cx) (x : Str) (iter : Expr) (body : List Stmt) (σ : St) : Option (Fl × St) :=
  if isSet iter then none else if c.kind x = some .local then (r.ev c iter σ).bind fun p => (mkIter p.1 p.2).bind fun q => forN x q.1 (exs r c body) loops q.2 else none
noncomputable def exLoop (r : R) (c : Cx) (t iter : Expr) (body els : List Stmt) (σ : St) : Option (Fl × St) := match els with
  | [] => (match t with
    | .Name x _ => exFor r c x iter body σ
    | _ => none)
  | _ => none
noncomputable def exWhile (r : R) (c : Cx) (t : Expr) (body els : List Stmt) (σ : St) : Option (Fl × St) := match els with
  | [] => whileN (r.tr c t) (exs r c body) loops σ
  | _ => none
noncomputable def exStep (P : Prog) (r : R) (c : Cx) (s : Stmt) (σ : St) : Option (Fl × St) := match s with
  | .Expr e _ => if isComp e then none else (r.ev c e σ).map fun p => (.next, p.2)
  | .Continue _ => some (.cont, σ)
  | .Return v _ => v.bind fun e => (r.ev c e σ).map fun p => (.ret p.1, p.2)
  | .Assign ts e _ => (one ts).bind fun t => exAsg P r c t e σ
  | .AugAssign t op e _ => exAug P r c t op e σ
  | .If t a b _ => exIf r c t a b σ
  | .While t body els _ => exWhile r c t body els σ
  | .For t iter body els _ => exLoop r c t iter body els σ
  | _ => none
noncomputable def kindsOf (names : List (Str × NameKind)) (x : Str) : Option NameKind := names.lookup x
noncomputable def bindFn (f : Fn) (args : List AV) : Option (Str → Option AV) :=
  if args.length ≤ f.params.length ∧ f.dflts.length ≤ f.params.length ∧ f.params.length ≤ args.length + f.dflts.length then
    some fun x => (f.params.zip (args ++ f.dflts.drop (args.length + f.dflts.length - f.params.length))).lookup x
  else none
noncomputable def fnStep (P : Prog) (r : R) (k : Nat) (args : List AV) (σ : St) : Option (AV × St) := (P.fn k).bind fun f => (bindFn f args).bind fun l =>
  (exs r ⟨kindsOf f.names, [], false⟩ f.body ⟨σ.h, l⟩).bind fun p => match p.1 with
    | .ret v => some (v, { p.2 with loc := σ.loc })
    | .next => some (.none, { p.2 with loc := σ.loc })
    | .cont => none
noncomputable def step (P : Prog) (r : R) : R := ⟨evStep P r, trStep r, exStep P r, fnStep P r⟩
noncomputable def run (P : Prog) : Nat → R
  | 0 => R.bot
  | n + 1 => step P (run P n)
end Mine
end
section
namespace Mine
noncomputable def constsOf : List Expr → List AV
  | [] => []
  | .Constant k _ _ :: r => (constV k).getD .none :: constsOf r
  | _ :: r => .none :: constsOf r
noncomputable def defIn (x : String) : List Stmt → Option Fn
  | [] => none
  | .FunctionDef y a body _ _ _ sc _ _ _ :: r => if y = Str.ofString x then some ⟨a.args.map (·.arg), constsOf a.defaults, sc.names, body⟩ else defIn x r
  | _ :: r => defIn x r
noncomputable def bodyIn (x : String) : List Stmt → List Stmt
  | [] => []
  | .ClassDef y _ _ body _ _ _ _ _ _ _ :: r => if y = Str.ofString x then body else bodyIn x r
  | _ :: r => bodyIn x r
noncomputable def top : List Stmt := PySem.Challenge.pw_nu0325_01.main.body
noncomputable def fnTab : List (String × String) := [("", "shown_fields"), ("", "next_types"), ("", "bases_first"), ("Walk", "__init__"), ("Walk", "reach"), ("", "number_exports"),
  ("Type", "__init__"), ("Obj", "__init__"), ("Types", "__init__"), ("Types", "new"), ("Types", "string"), ("ModuleTree", "__init__"),
  ("", "alignment"), ("", "align"), ("", "whole_words"), ("", "place_fields"), ("", "param_words"), ("", "place_params"),
  ("", "_law_pick"), ("", "_law_record"), ("", "_law_procedure"), ("", "_law_pool"), ("", "_law_constant"), ("", "_law_module"), ("", "_law_parts"), ("", "_law_met"), ("", "law")]
noncomputable def fnOfRow : String × String → Option Fn
  | (c, f) => if c = "" then defIn f top else defIn f (bodyIn c top)
noncomputable def typeAttrs : List Str := [Str.ofString "number", Str.ofString "form", Str.ofString "size", Str.ofString "base", Str.ofString "length", Str.ofString "fields", Str.ofString "level", Str.ofString "params", Str.ofString "module", Str.ofString "label", Str.ofString "hidden", Str.ofString "exno"]
noncomputable def objAttrs : List Str := [Str.ofString "name", Str.ofString "kind", Str.ofString "type", Str.ofString "place", Str.ofString "exported", Str.ofString "readonly", Str.ofString "level", Str.ofString "module", Str.ofString "value", Str.ofString "slot", Str.ofString "offset", Str.ofString "number", Str.ofString "isparam", Str.ofString "narrowed"]
noncomputable def typesAttrs : List Str := [Str.ofString "counter", Str.ofString "known", Str.ofString "boolean", Str.ofString "char", Str.ofString "byte", Str.ofString "integer", Str.ofString "mask", Str.ofString "nil", Str.ofString "none"]
noncomputable def treeAttrs : List Str := [Str.ofString "name", Str.ofString "imports", Str.ofString "objs", Str.ofString "procs", Str.ofString "body", Str.ofString "records", Str.ofString "place"]
noncomputable def walkAttrs : List Str := [Str.ofString "module", Str.ofString "met", Str.ofString "records"]
noncomputable def clsOf : Nat → Option Cls
  | 0 => some ⟨3, [(Str.ofString "reach", 4)], walkAttrs⟩
  | 1 => some ⟨6, [], typeAttrs⟩
  | 2 => some ⟨7, [], objAttrs⟩
  | 3 => some ⟨8, [(Str.ofString "new", 9), (Str.ofString "string", 10)], typesAttrs⟩
  | 4 => some ⟨11, [], treeAttrs⟩
  | _ => none
noncomputable def globTab : List (Str × AV) := [(Str.ofString "shown_fields", .fn 0), (Str.ofString "next_types", .fn 1), (Str.ofString "bases_first", .fn 2), (Str.ofString "number_exports", .fn 5),
  (Str.ofString "alignment", .fn 12), (Str.ofString "align", .fn 13), (Str.ofString "whole_words", .fn 14), (Str.ofString "place_fields", .fn 15), (Str.ofString "param_words", .fn 16), (Str.ofString "place_params", .fn 17),
  (Str.ofString "_law_pick", .fn 18), (Str.ofString "_law_record", .fn 19), (Str.ofString "_law_procedure", .fn 20), (Str.ofString "_law_pool", .fn 21), (Str.ofString "_law_constant", .fn 22), (Str.ofString "_law_module", .fn 23), (Str.ofString "_law_parts", .fn 24), (Str.ofString "_law_met", .fn 25),
  (Str.ofString "Walk", .cls 0), (Str.ofString "Type", .cls 1), (Str.ofString "Obj", .cls 2), (Str.ofString "Types", .cls 3), (Str.ofString "ModuleTree", .cls 4),
  (Str.ofString "len", .bltn "len"), (Str.ofString "sum", .bltn "sum"), (Str.ofString "sorted", .bltn "sorted"), (Str.ofString "max", .bltn "max"), (Str.ofString "isinstance", .bltn "isinstance"),
  (Str.ofString "str", .typ "str"), (Str.ofString "tuple", .typ "tuple"), (Str.ofString "range", .typ "range"), (Str.ofString "reversed", .typ "reversed")]
noncomputable def theP : Prog := ⟨fun x => globTab.lookup x, fun k => (fnTab[k]?).bind fnOfRow, clsOf⟩
end Mine
end
section
namespace Mine
noncomputable def theQ : Prog := { theP with fn := fun k => if k < 26 then theP.fn k else none }
noncomputable def lawF : Fn := (defIn "law" top).getD ⟨[], [], [], []⟩
noncomputable def lawHead : Stmt := lawF.body.headD (.Pass default)
noncomputable def lawRest : List Stmt := lawF.body.drop 1
noncomputable def lawK : Cx := ⟨kindsOf lawF.names, [(Str.ofString "held_ones", 0), (Str.ofString "types", 1)], false⟩
noncomputable abbrev SE := St → Option (AV × St)
noncomputable abbrev STt := St → Option (Bool × St)
noncomputable abbrev SS := St → Option (Fl × St)
noncomputable abbrev SF := Nat → List AV → St → Option (AV × St)
noncomputable def lit (v : AV) : SE := fun σ => some (v, σ)
noncomputable def var (x : Str) : SE := fun σ => (σ.loc x).map fun v => (v, σ)
noncomputable def celv (i : Nat) : SE := fun σ => ((cellAt σ.h i).bind id).map fun v => (v, σ)
noncomputable def att (e : SE) (x : Str) : SE := fun σ => (e σ).bind fun p => (attr theQ p.1 x p.2).map fun v => (v, p.2)
noncomputable def bino (op : Operator) (a b : SE) : SE := fun σ => (a σ).bind fun p => (b p.2).bind fun q => bin op p.1 q.1 q.2
noncomputable def negE (a : SE) : SE := fun σ => (a σ).bind negV
noncomputable def notE (a : SE) : SE := fun σ => (a σ).bind notV
noncomputable def ifE (t : STt) (a b : SE) : SE := fun σ => (t σ).bind fun p => if p.1 then a p.2 else b p.2
noncomputable def cmpE (op : CmpOp) (a b : SE) : SE := fun σ => (a σ).bind fun p => (b p.2).bind fun q => (cmp op p.1 q.1 q.2).map fun v => (.bool v, q.2)
noncomputable def bopE (op : BoolOp) (a b : SE) : SE := fun σ => (a σ).bind fun p => match p.1 with
  | .bool c => (match op, c with
    | .And, false => some p
    | .Or, true => some p
    | _, _ => b p.2)
  | _ => none
noncomputable def evl : List SE → St → Option (List AV × St)
  | [], σ => some ([], σ)
  | e :: es, σ => (e σ).bind fun p => (evl es p.2).bind fun q => some (p.1 :: q.1, q.2)
noncomputable def methE (fn : SF) (x : Str) (args : List SE) (v : AV) (σ : St) : Option (AV × St) := match v with
  | .ref a => (match σ.h[a]? with
    | some (.inst k d) => (theQ.cls k).bind fun K => (fldsAt σ.h d).bind fun fs => if (getF x fs).isSome then none else (K.meths.lookup x).bind fun f => (evl args σ).bind fun q => fn f (.ref a :: q.1) q.2
    | some (.list _) => (evl args σ).bind fun q => listM x a q.1 q.2
    | _ => none)
  | _ => none
noncomputable def meth (fn : SF) (o : SE) (x : Str) (args : List SE) : SE := fun σ => (o σ).bind fun p => methE fn x args p.1 p.2
noncomputable def newc (fn : SF) (k i : Nat) (args : List SE) : SE := fun σ => (evl args σ).bind fun q => if q.2.h.isEmpty then none else
  (fn i (.ref (q.2.h.length + 1) :: q.1) ((q.2.alloc (.flds [])).alloc (.inst k q.2.h.length))).bind fun p => match p.1 with
    | .none => some (.ref (q.2.h.length + 1), p.2)
    | _ => none
noncomputable def callf (fn : SF) (k : Nat) (args : List SE) : SE := fun σ => (evl args σ).bind fun q => fn k q.1 q.2
noncomputable def bcall (f : AV) (args : List SE) : SE := fun σ => (evl args σ).bind fun q => callB f q.1 q.2
noncomputable def sub (o i : SE) : SE := fun σ => (o σ).bind fun p => (i p.2).bind fun q => (item p.1 q.1 q.2).map fun v => (v, q.2)
noncomputable def slc (o lo hi : SE) : SE := fun σ => (o σ).bind fun p => (lo p.2).bind fun q => (hi q.2).bind fun z => slice p.1 q.1 z.1 z.2
noncomputable def lst (es : List SE) : SE := fun σ => (evl es σ).bind fun p => some (.ref p.2.h.length, p.2.alloc (.list p.1))
noncomputable def tupE (es : List SE) : SE := fun σ => (evl es σ).bind fun p => some (.ref p.2.h.length, p.2.alloc (.tup p.1))
noncomputable def dictE : SE := fun σ => some (.ref σ.h.length, σ.alloc (.idict []))
noncomputable def trl : List STt → STt
  | [], σ => some (true, σ)
  | t :: ts, σ => (t σ).bind fun p => if p.1 then trl ts p.2 else some (false, p.2)
noncomputable def comp (x : Str) (iter : SE) (ts : List STt) (elt : SE) : SE := fun σ => (iter σ).bind fun p => (mkIter p.1 p.2).bind fun q =>
  (compN x q.1 q.2.h.length (trl ts) elt loops { (q.2.alloc (.list [])) with loc := fun _ => none }).bind fun z => some (.ref q.2.h.length, { z with loc := q.2.loc })
noncomputable def tval (e : SE) : STt := fun σ => (e σ).bind boolV
noncomputable def tnot (t : STt) : STt := fun σ => (t σ).map fun p => (!p.1, p.2)
noncomputable def tAll (op : BoolOp) : List STt → STt
  | [], σ => some (match op with | .And => true | .Or => false, σ)
  | t :: ts, σ => (t σ).bind fun p => match op, p.1 with
    | .And, false => some (false, p.2)
    | .Or, true => some (true, p.2)
    | _, _ => tAll op ts p.2
noncomputable def tif (t a b : STt) : STt := fun σ => (t σ).bind fun p => if p.1 then a p.2 else b p.2
noncomputable def tcmp (op : CmpOp) (a b : SE) : STt := fun σ => (a σ).bind fun p => (b p.2).bind fun q => (cmp op p.1 q.1 q.2).map fun v => (v, q.2)
noncomputable def seq : List SS → SS
  | [], σ => some (.next, σ)
  | s :: ss, σ => (s σ).bind fun p => match p.1 with
    | .next => seq ss p.2
    | f => some (f, p.2)
noncomputable def sE (e : SE) : SS := fun σ => (e σ).map fun p => (.next, p.2)
noncomputable def sCont : SS := fun σ => some (.cont, σ)
noncomputable def sRet (e : SE) : SS := fun σ => (e σ).map fun p => (.ret p.1, p.2)
noncomputable def setl (x : Str) (e : SE) : SS := fun σ => (e σ).bind fun p => some (.next, { p.2 with loc := upd p.2.loc x p.1 })
noncomputable def asgC (i : Nat) (v : AV) (σ : St) : Option St := (cellAt σ.h i).map fun _ => σ.put i (.cell (some v))
noncomputable def setc (i : Nat) (e : SE) : SS := fun σ => (e σ).bind fun p => (asgC i p.1 p.2).map fun σ' => (.next, σ')
noncomputable def asgA (o : SE) (x : Str) (v : AV) (σ : St) : Option St := (o σ).bind fun q => setAttr theQ q.1 x v q.2
noncomputable def seta (o : SE) (x : Str) (e : SE) : SS := fun σ => (e σ).bind fun p => (asgA o x p.1 p.2).map fun σ' => (.next, σ')
noncomputable def asgI (o i : SE) (v : AV) (σ : St) : Option St := (o σ).bind fun p => (i p.2).bind fun q => setItem p.1 q.1 v q.2
noncomputable def seti (o i e : SE) : SS := fun σ => (e σ).bind fun p => (asgI o i p.1 p.2).map fun σ' => (.next, σ')
noncomputable def set2 (t₁ t₂ : AV → St → Option St) (e : SE) : SS := fun σ => (e σ).bind fun p => (pairAt p.2.h p.1).bind fun q => (t₁ q.2.1 p.2).bind fun σ₁ => (t₂ q.2.2 σ₁).map fun σ₂ => (.next, σ₂)
noncomputable def augl (x : Str) (op : Operator) (e : SE) : SS := fun σ => (σ.loc x).bind fun old => (e σ).bind fun p => (inpl op old p.1 p.2).bind fun q => some (.next, { q.2 with loc := upd q.2.loc x q.1 })
noncomputable def augc (i : Nat) (op : Operator) (e : SE) : SS := fun σ => ((cellAt σ.h i).bind id).bind fun old => (e σ).bind fun p => (inpl op old p.1 p.2).bind fun q => (asgC i q.1 q.2).map fun σ' => (.next, σ')
noncomputable def auga (o : SE) (x : Str) (op : Operator) (e : SE) : SS := fun σ => (o σ).bind fun p => (attr theQ p.1 x p.2).bind fun old => (e p.2).bind fun q => (inpl op old q.1 q.2).bind fun z => (setAttr theQ p.1 x z.1 z.2).map fun σ' => (.next, σ')
noncomputable def iff' (t : STt) (a b : List SS) : SS := fun σ => (t σ).bind fun p => if p.1 then seq a p.2 else seq b p.2
noncomputable def whl (t : STt) (b : List SS) : SS := fun σ => whileN t (seq b) loops σ
noncomputable def forl (x : Str) (e : SE) (b : List SS) : SS := fun σ => (e σ).bind fun p => (mkIter p.1 p.2).bind fun q => forN x q.1 (seq b) loops q.2
noncomputable def env (l : List (Str × AV)) : Str → Option AV := fun x => l.lookup x
noncomputable def frun (b : SS) (l : Str → Option AV) (σ : St) : Option (AV × St) := (b ⟨σ.h, l⟩).bind fun p => match p.1 with
  | .ret v => some (v, { p.2 with loc := σ.loc })
  | .next => some (.none, { p.2 with loc := σ.loc })
  | .cont => none
end Mine
end
section
namespace Mine
noncomputable def B6 : List SS := [(seta (var (Str.ofString "self")) (Str.ofString "number") (var (Str.ofString "number"))), (seta (var (Str.ofString "self")) (Str.ofString "form") (var (Str.ofString "form"))), (seta (var (Str.ofString "self")) (Str.ofString "size") (var (Str.ofString "size"))), (seta (var (Str.ofString "self")) (Str.ofString "base") (lit .none)), (seta (var (Str.ofString "self")) (Str.ofString "length") (lit (.int 0))), (seta (var (Str.ofString "self")) (Str.ofString "fields") (lst [])), (seta (var (Str.ofString "self")) (Str.ofString "level") (lit (.int 0))), (seta (var (Str.ofString "self")) (Str.ofString "params") (lst [])), (seta (var (Str.ofString "self")) (Str.ofString "module") (lit (.str (Str.ofString "")))), (seta (var (Str.ofString "self")) (Str.ofString "label") (lit (.str (Str.ofString "")))), (seta (var (Str.ofString "self")) (Str.ofString "hidden") (lst [])), (seta (var (Str.ofString "self")) (Str.ofString "exno") (lit (.int 0)))]
theorem fn6 (n : Nat) (v0 v1 v2 v3 : AV) (σ : St) : (run theQ (n + 3)).fn 6 [v0, v1, v2, v3] σ = frun (seq B6) (env [((Str.ofString "self"), v0), ((Str.ofString "number"), v1), ((Str.ofString "form"), v2), ((Str.ofString "size"), v3)]) σ := by kernel_rfl
noncomputable def B7 : List SS := [(seta (var (Str.ofString "self")) (Str.ofString "name") (var (Str.ofString "name"))), (seta (var (Str.ofString "self")) (Str.ofString "kind") (var (Str.ofString "kind"))), (seta (var (Str.ofString "self")) (Str.ofString "type") (var (Str.ofString "type_of"))), (seta (var (Str.ofString "self")) (Str.ofString "place") (var (Str.ofString "place"))), (seta (var (Str.ofString "self")) (Str.ofString "exported") (lit (.bool false))), (seta (var (Str.ofString "self")) (Str.ofString "readonly") (lit (.bool false))), (seta (var (Str.ofString "self")) (Str.ofString "level") (lit (.int 0))), (seta (var (Str.ofString "self")) (Str.ofString "module") (lit (.str (Str.ofString "")))), (seta (var (Str.ofString "self")) (Str.ofString "value") (lit .none)), (seta (var (Str.ofString "self")) (Str.ofString "slot") (lit (.int 0))), (seta (var (Str.ofString "self")) (Str.ofString "offset") (lit (.int 0))), (seta (var (Str.ofString "self")) (Str.ofString "number") (lit (.int 0))), (seta (var (Str.ofString "self")) (Str.ofString "isparam") (lit (.bool false))), (seta (var (Str.ofString "self")) (Str.ofString "narrowed") (lit .none))]
theorem fn7 (n : Nat) (v0 v1 v2 v3 v4 : AV) (σ : St) : (run theQ (n + 3)).fn 7 [v0, v1, v2, v3, v4] σ = frun (seq B7) (env [((Str.ofString "self"), v0), ((Str.ofString "name"), v1), ((Str.ofString "kind"), v2), ((Str.ofString "type_of"), v3), ((Str.ofString "place"), v4)]) σ := by kernel_rfl
noncomputable def B11 : List SS := [(seta (var (Str.ofString "self")) (Str.ofString "name") (var (Str.ofString "name"))), (seta (var (Str.ofString "self")) (Str.ofString "imports") (lst [])), (seta (var (Str.ofString "self")) (Str.ofString "objs") (lst [])), (seta (var (Str.ofString "self")) (Str.ofString "procs") (lst [])), (seta (var (Str.ofString "self")) (Str.ofString "body") (lit .none)), (seta (var (Str.ofString "self")) (Str.ofString "records") (lst [])), (seta (var (Str.ofString "self")) (Str.ofString "place") (lit (.int 0)))]
theorem fn11 (n : Nat) (v0 v1 : AV) (σ : St) : (run theQ (n + 3)).fn 11 [v0, v1] σ = frun (seq B11) (env [((Str.ofString "self"), v0), ((Str.ofString "name"), v1)]) σ := by kernel_rfl
noncomputable def B3 : List SS := [(seta (var (Str.ofString "self")) (Str.ofString "module") (var (Str.ofString "module"))), (seta (var (Str.ofString "self")) (Str.ofString "met") dictE), (seta (var (Str.ofString "self")) (Str.ofString "records") (lst []))]
theorem fn3 (n : Nat) (v0 v1 : AV) (σ : St) : (run theQ (n + 3)).fn 3 [v0, v1] σ = frun (seq B3) (env [((Str.ofString "self"), v0), ((Str.ofString "module"), v1)]) σ := by kernel_rfl
noncomputable def B9 (n : Nat) : List SS := [(auga (var (Str.ofString "self")) (Str.ofString "counter") .Add (lit (.int 1))), (setl (Str.ofString "made") (newc ((run theQ (n + 3)).fn) 1 6 [(att (var (Str.ofString "self")) (Str.ofString "counter")), (var (Str.ofString "form")), (var (Str.ofString "size"))])), (seta (var (Str.ofString "made")) (Str.ofString "module") (var (Str.ofString "module"))), (seta (var (Str.ofString "made")) (Str.ofString "label") (var (Str.ofString "label"))), (iff' (tcmp .NotEq (var (Str.ofString "label")) (lit (.str (Str.ofString "")))) [(seti (att (var (Str.ofString "self")) (Str.ofString "known")) (tupE [(var (Str.ofString "module")), (var (Str.ofString "label"))]) (var (Str.ofString "made")))] []), (sRet (var (Str.ofString "made")))]
theorem fn9 (n : Nat) (v0 v1 v2 v3 v4 : AV) (σ : St) : (run theQ (n + 6)).fn 9 [v0, v1, v2, v3, v4] σ = frun (seq (B9 n)) (env [((Str.ofString "self"), v0), ((Str.ofString "form"), v1), ((Str.ofString "size"), v2), ((Str.ofString "module"), v3), ((Str.ofString "label"), v4)]) σ := by kernel_rfl
theorem fn9_1 (n : Nat) (v0 v1 v2 v3 : AV) (σ : St) : (run theQ (n + 6)).fn 9 [v0, v1, v2, v3] σ = frun (seq (B9 n)) (env [((Str.ofString "self"), v0), ((Str.ofString "form"), v1), ((Str.ofString "size"), v2), ((Str.ofString "module"), v3), ((Str.ofString "label"), .str (Str.ofString ""))]) σ := by kernel_rfl
theorem fn9_2 (n : Nat) (v0 v1 v2 : AV) (σ : St) : (run theQ (n + 6)).fn 9 [v0, v1, v2] σ = frun (seq (B9 n)) (env [((Str.ofString "self"), v0), ((Str.ofString "form"), v1), ((Str.ofString "size"), v2), ((Str.ofString "module"), .str (Str.ofString "")), ((Str.ofString "label"), .str (Str.ofString ""))]) σ := by kernel_rfl
noncomputable def B10 (n : Nat) : List SS := [(setl (Str.ofString "made") (meth ((run theQ (n + 6)).fn) (var (Str.ofString "self")) (Str.ofString "new") [(lit (.str (Str.ofString "string"))), (var (Str.ofString "length"))])), (seta (var (Str.ofString "made")) (Str.ofString "length") (var (Str.ofString "length"))), (seta (var (Str.ofString "made")) (Str.ofString "base") (att (var (Str.ofString "self")) (Str.ofString "char"))), (sRet (var (Str.ofString "made")))]
theorem fn10 (n : Nat) (v0 v1 : AV) (σ : St) : (run theQ (n + 9)).fn 10 [v0, v1] σ = frun (seq (B10 n)) (env [((Str.ofString "self"), v0), ((Str.ofString "length"), v1)]) σ := by kernel_rfl
noncomputable def B8 (n : Nat) : List SS := [(seta (var (Str.ofString "self")) (Str.ofString "counter") (lit (.int 0))), (seta (var (Str.ofString "self")) (Str.ofString "known") dictE), (seta (var (Str.ofString "self")) (Str.ofString "boolean") (meth ((run theQ (n + 6)).fn) (var (Str.ofString "self")) (Str.ofString "new") [(lit (.str (Str.ofString "boolean"))), (lit (.int 1))])), (seta (var (Str.ofString "self")) (Str.ofString "char") (meth ((run theQ (n + 6)).fn) (var (Str.ofString "self")) (Str.ofString "new") [(lit (.str (Str.ofString "char"))), (lit (.int 1))])), (seta (var (Str.ofString "self")) (Str.ofString "byte") (meth ((run theQ (n + 6)).fn) (var (Str.ofString "self")) (Str.ofString "new") [(lit (.str (Str.ofString "byte"))), (lit (.int 1))])), (seta (var (Str.ofString "self")) (Str.ofString "integer") (meth ((run theQ (n + 6)).fn) (var (Str.ofString "self")) (Str.ofString "new") [(lit (.str (Str.ofString "integer"))), (lit (.int 4))])), (seta (var (Str.ofString "self")) (Str.ofString "mask") (meth ((run theQ (n + 6)).fn) (var (Str.ofString "self")) (Str.ofString "new") [(lit (.str (Str.ofString "set"))), (lit (.int 4))])), (seta (var (Str.ofString "self")) (Str.ofString "nil") (meth ((run theQ (n + 6)).fn) (var (Str.ofString "self")) (Str.ofString "new") [(lit (.str (Str.ofString "nil"))), (lit (.int 4))])), (seta (var (Str.ofString "self")) (Str.ofString "none") (meth ((run theQ (n + 6)).fn) (var (Str.ofString "self")) (Str.ofString "new") [(lit (.str (Str.ofString "none"))), (lit (.int 0))]))]
theorem fn8 (n : Nat) (v0 : AV) (σ : St) : (run theQ (n + 9)).fn 8 [v0] σ = frun (seq (B8 n)) (env [((Str.ofString "self"), v0)]) σ := by kernel_rfl
noncomputable def B0 : List SS := [(sRet (comp (Str.ofString "field") (att (var (Str.ofString "record")) (Str.ofString "fields")) [(tval (att (var (Str.ofString "field")) (Str.ofString "exported")))] (var (Str.ofString "field"))))]
theorem fn0 (n : Nat) (v0 : AV) (σ : St) : (run theQ (n + 6)).fn 0 [v0] σ = frun (seq B0) (env [((Str.ofString "record"), v0)]) σ := by kernel_rfl
noncomputable def B1 (n : Nat) : List SS := [(iff' (tAll .Or [(tcmp .Eq (att (var (Str.ofString "t")) (Str.ofString "form")) (lit (.str (Str.ofString "array")))), (tcmp .Eq (att (var (Str.ofString "t")) (Str.ofString "form")) (lit (.str (Str.ofString "pointer"))))]) [(sRet (lst [(att (var (Str.ofString "t")) (Str.ofString "base"))]))] []), (iff' (tcmp .Eq (att (var (Str.ofString "t")) (Str.ofString "form")) (lit (.str (Str.ofString "record")))) [(sRet (comp (Str.ofString "field") (callf ((run theQ (n + 6)).fn) 0 [(var (Str.ofString "t"))]) [] (att (var (Str.ofString "field")) (Str.ofString "type"))))] []), (iff' (tcmp .Eq (att (var (Str.ofString "t")) (Str.ofString "form")) (lit (.str (Str.ofString "proc")))) [(sRet (bino .Add (comp (Str.ofString "par") (att (var (Str.ofString "t")) (Str.ofString "params")) [] (att (var (Str.ofString "par")) (Str.ofString "type"))) (lst [(att (var (Str.ofString "t")) (Str.ofString "base"))])))] []), (sRet (lst []))]
theorem fn1 (n : Nat) (v0 : AV) (σ : St) : (run theQ (n + 11)).fn 1 [v0] σ = frun (seq (B1 n)) (env [((Str.ofString "t"), v0)]) σ := by kernel_rfl
noncomputable def L2_0 (n : Nat) : List SS := [(setl (Str.ofString "t") (att (var (Str.ofString "t")) (Str.ofString "base"))), (sE (meth ((run theQ (n + 2)).fn) (var (Str.ofString "row")) (Str.ofString "insert") [(lit (.int 0)), (var (Str.ofString "t"))]))]
noncomputable def B2 (n : Nat) : List SS := [(setl (Str.ofString "row") (lst [(var (Str.ofString "t"))])), (whl (tAll .And [(tcmp .Eq (att (var (Str.ofString "t")) (Str.ofString "form")) (lit (.str (Str.ofString "record")))), (tcmp .IsNot (att (var (Str.ofString "t")) (Str.ofString "base")) (lit .none))]) (L2_0 n)), (sRet (var (Str.ofString "row")))]
theorem fn2 (n : Nat) (v0 : AV) (σ : St) : (run theQ (n + 6)).fn 2 [v0] σ = frun (seq (B2 n)) (env [((Str.ofString "t"), v0)]) σ := by kernel_rfl
noncomputable def L4_0 (n : Nat) : List SS := [(iff' (tcmp .NotIn (att (var (Str.ofString "one")) (Str.ofString "number")) (att (var (Str.ofString "self")) (Str.ofString "met"))) [(seti (att (var (Str.ofString "self")) (Str.ofString "met")) (att (var (Str.ofString "one")) (Str.ofString "number")) (lit (.bool true))), (iff' (tAll .And [(tcmp .Eq (att (var (Str.ofString "one")) (Str.ofString "form")) (lit (.str (Str.ofString "record")))), (tcmp .Eq (att (var (Str.ofString "one")) (Str.ofString "module")) (att (var (Str.ofString "self")) (Str.ofString "module")))]) [(sE (meth ((run theQ (n + 12)).fn) (att (var (Str.ofString "self")) (Str.ofString "records")) (Str.ofString "append") [(var (Str.ofString "one"))]))] []), (sE (meth ((run theQ (n + 13)).fn) (var (Str.ofString "waiting")) (Str.ofString "extend") [(bcall (.typ "reversed") [(callf ((run theQ (n + 11)).fn) 1 [(var (Str.ofString "one"))])])]))] [])]
noncomputable def L4_1 (n : Nat) : List SS := [(forl (Str.ofString "one") (callf ((run theQ (n + 15)).fn) 2 [(meth ((run theQ (n + 14)).fn) (var (Str.ofString "waiting")) (Str.ofString "pop") [])]) (L4_0 n))]
noncomputable def B4 (n : Nat) : List SS := [(setl (Str.ofString "waiting") (lst [(var (Str.ofString "t"))])), (whl (tcmp .Gt (bcall (.bltn "len") [(var (Str.ofString "waiting"))]) (lit (.int 0))) (L4_1 n))]
theorem fn4 (n : Nat) (v0 v1 : AV) (σ : St) : (run theQ (n + 19)).fn 4 [v0, v1] σ = frun (seq (B4 n)) (env [((Str.ofString "self"), v0), ((Str.ofString "t"), v1)]) σ := by kernel_rfl
noncomputable def L5_0 (n : Nat) : List SS := [(sE (meth ((run theQ (n + 18)).fn) (var (Str.ofString "rows")) (Str.ofString "append") [(tupE [(lit (.str (Str.ofString "record"))), (var (Str.ofString "record"))])])), (seta (var (Str.ofString "record")) (Str.ofString "exno") (bcall (.bltn "len") [(var (Str.ofString "rows"))]))]
noncomputable def L5_1 (n : Nat) : List SS := [(iff' (tnot (tval (att (var (Str.ofString "obj")) (Str.ofString "exported")))) [sCont] []), (setl (Str.ofString "known") (bcall (.bltn "len") [(att (var (Str.ofString "walk")) (Str.ofString "records"))])), (sE (meth ((run theQ (n + 19)).fn) (var (Str.ofString "walk")) (Str.ofString "reach") [(att (var (Str.ofString "obj")) (Str.ofString "type"))])), (forl (Str.ofString "record") (slc (att (var (Str.ofString "walk")) (Str.ofString "records")) (var (Str.ofString "known")) (lit .none)) (L5_0 n)), (iff' (tAll .Or [(tcmp .Eq (att (var (Str.ofString "obj")) (Str.ofString "kind")) (lit (.str (Str.ofString "var")))), (tcmp .Eq (att (var (Str.ofString "obj")) (Str.ofString "kind")) (lit (.str (Str.ofString "proc"))))]) [(sE (meth ((run theQ (n + 18)).fn) (var (Str.ofString "rows")) (Str.ofString "append") [(tupE [(att (var (Str.ofString "obj")) (Str.ofString "kind")), (var (Str.ofString "obj"))])])), (seta (var (Str.ofString "obj")) (Str.ofString "number") (bcall (.bltn "len") [(var (Str.ofString "rows"))]))] [])]
noncomputable def B5 (n : Nat) : List SS := [(setl (Str.ofString "walk") (newc ((run theQ (n + 20)).fn) 0 3 [(att (var (Str.ofString "tree")) (Str.ofString "name"))])), (setl (Str.ofString "rows") (lst [])), (forl (Str.ofString "obj") (att (var (Str.ofString "tree")) (Str.ofString "objs")) (L5_1 n)), (sRet (var (Str.ofString "rows")))]
theorem fn5 (n : Nat) (v0 : AV) (σ : St) : (run theQ (n + 23)).fn 5 [v0] σ = frun (seq (B5 n)) (env [((Str.ofString "tree"), v0)]) σ := by kernel_rfl
noncomputable def L12_0 : List SS := [(setl (Str.ofString "t") (att (var (Str.ofString "t")) (Str.ofString "base")))]
noncomputable def B12 : List SS := [(whl (tcmp .Eq (att (var (Str.ofString "t")) (Str.ofString "form")) (lit (.str (Str.ofString "array")))) L12_0), (sRet (ifE (tcmp .In (att (var (Str.ofString "t")) (Str.ofString "form")) (tupE [(lit (.str (Str.ofString "boolean"))), (lit (.str (Str.ofString "char"))), (lit (.str (Str.ofString "byte")))])) (lit (.int 1)) (lit (.int 4))))]
theorem fn12 (n : Nat) (v0 : AV) (σ : St) : (run theQ (n + 6)).fn 12 [v0] σ = frun (seq B12) (env [((Str.ofString "t"), v0)]) σ := by kernel_rfl
noncomputable def B13 (n : Nat) : List SS := [(setl (Str.ofString "step") (callf ((run theQ (n + 6)).fn) 12 [(var (Str.ofString "t"))])), (sRet (bino .Mult (bino .FloorDiv (bino .Sub (bino .Add (var (Str.ofString "offset")) (var (Str.ofString "step"))) (lit (.int 1))) (var (Str.ofString "step"))) (var (Str.ofString "step"))))]
theorem fn13 (n : Nat) (v0 v1 : AV) (σ : St) : (run theQ (n + 9)).fn 13 [v0, v1] σ = frun (seq (B13 n)) (env [((Str.ofString "offset"), v0), ((Str.ofString "t"), v1)]) σ := by kernel_rfl
noncomputable def B14 : List SS := [(sRet (bino .Mult (bino .FloorDiv (bino .Add (var (Str.ofString "size")) (lit (.int 3))) (lit (.int 4))) (lit (.int 4))))]
theorem fn14 (n : Nat) (v0 : AV) (σ : St) : (run theQ (n + 6)).fn 14 [v0] σ = frun (seq B14) (env [((Str.ofString "size"), v0)]) σ := by kernel_rfl
noncomputable def L15_0 (n : Nat) : List SS := [(setl (Str.ofString "offset") (callf ((run theQ (n + 9)).fn) 13 [(var (Str.ofString "offset")), (att (var (Str.ofString "field")) (Str.ofString "type"))])), (seta (var (Str.ofString "field")) (Str.ofString "offset") (var (Str.ofString "offset"))), (augl (Str.ofString "offset") .Add (att (att (var (Str.ofString "field")) (Str.ofString "type")) (Str.ofString "size")))]
noncomputable def B15 (n : Nat) : List SS := [(setl (Str.ofString "offset") (lit (.int 0))), (seta (var (Str.ofString "record")) (Str.ofString "level") (lit (.int 0))), (iff' (tcmp .IsNot (att (var (Str.ofString "record")) (Str.ofString "base")) (lit .none)) [(setl (Str.ofString "offset") (att (att (var (Str.ofString "record")) (Str.ofString "base")) (Str.ofString "size"))), (seta (var (Str.ofString "record")) (Str.ofString "level") (bino .Add (att (att (var (Str.ofString "record")) (Str.ofString "base")) (Str.ofString "level")) (lit (.int 1))))] []), (forl (Str.ofString "field") (att (var (Str.ofString "record")) (Str.ofString "fields")) (L15_0 n)), (seta (var (Str.ofString "record")) (Str.ofString "size") (bcall (.bltn "max") [(lit (.int 4)), (callf ((run theQ (n + 9)).fn) 14 [(var (Str.ofString "offset"))])]))]
theorem fn15 (n : Nat) (v0 : AV) (σ : St) : (run theQ (n + 13)).fn 15 [v0] σ = frun (seq (B15 n)) (env [((Str.ofString "record"), v0)]) σ := by kernel_rfl
noncomputable def B16 : List SS := [(iff' (tcmp .Eq (att (var (Str.ofString "par")) (Str.ofString "kind")) (lit (.str (Str.ofString "par")))) [(iff' (tAll .Or [(tcmp .Eq (att (att (var (Str.ofString "par")) (Str.ofString "type")) (Str.ofString "form")) (lit (.str (Str.ofString "record")))), (tAll .And [(tcmp .Eq (att (att (var (Str.ofString "par")) (Str.ofString "type")) (Str.ofString "form")) (lit (.str (Str.ofString "array")))), (tcmp .Lt (att (att (var (Str.ofString "par")) (Str.ofString "type")) (Str.ofString "length")) (lit (.int 0)))])]) [(sRet (lit (.int 2)))] [])] []), (sRet (lit (.int 1)))]
theorem fn16 (n : Nat) (v0 : AV) (σ : St) : (run theQ (n + 9)).fn 16 [v0] σ = frun (seq B16) (env [((Str.ofString "par"), v0)]) σ := by kernel_rfl
noncomputable def L17_0 (n : Nat) : List SS := [(seta (sub (var (Str.ofString "params")) (var (Str.ofString "slot"))) (Str.ofString "slot") (var (Str.ofString "slot"))), (seta (sub (var (Str.ofString "params")) (var (Str.ofString "slot"))) (Str.ofString "isparam") (lit (.bool true))), (seta (sub (var (Str.ofString "params")) (var (Str.ofString "slot"))) (Str.ofString "offset") (bino .Mult (lit (.int 4)) (var (Str.ofString "words")))), (augl (Str.ofString "words") .Add (callf ((run theQ (n + 9)).fn) 16 [(sub (var (Str.ofString "params")) (var (Str.ofString "slot")))]))]
noncomputable def B17 (n : Nat) : List SS := [(setl (Str.ofString "words") (ifE (tval (var (Str.ofString "linked"))) (lit (.int 1)) (lit (.int 0)))), (forl (Str.ofString "slot") (bcall (.typ "range") [(bcall (.bltn "len") [(var (Str.ofString "params"))])]) (L17_0 n)), (sRet (var (Str.ofString "words")))]
theorem fn17 (n : Nat) (v0 v1 : AV) (σ : St) : (run theQ (n + 13)).fn 17 [v0, v1] σ = frun (seq (B17 n)) (env [((Str.ofString "params"), v0), ((Str.ofString "linked"), v1)]) σ := by kernel_rfl
noncomputable def B18 : List SS := [(iff' (tcmp .Eq (sub (var (Str.ofString "hand")) (lit (.int 2))) (lit (.int 0))) [(iff' (tcmp .Eq (sub (var (Str.ofString "hand")) (lit (.int 1))) (bcall (.bltn "len") [(sub (var (Str.ofString "hand")) (lit (.int 0)))])) [(seti (var (Str.ofString "hand")) (lit (.int 3)) (bino .Mod (bino .Mult (sub (var (Str.ofString "hand")) (lit (.int 3))) (lit (.int 48271))) (lit (.int 2147483647)))), (sRet (bino .Mod (bino .FloorDiv (sub (var (Str.ofString "hand")) (lit (.int 3))) (lit (.int 7))) (var (Str.ofString "limit"))))] []), (setl (Str.ofString "figure") (sub (sub (var (Str.ofString "hand")) (lit (.int 0))) (sub (var (Str.ofString "hand")) (lit (.int 1))))), (seti (var (Str.ofString "hand")) (lit (.int 1)) (bino .Add (sub (var (Str.ofString "hand")) (lit (.int 1))) (lit (.int 1)))), (seti (var (Str.ofString "hand")) (lit (.int 2)) (ifE (tcmp .GtE (var (Str.ofString "figure")) (lit (.int 0))) (var (Str.ofString "figure")) (negE (var (Str.ofString "figure")))))] []), (setl (Str.ofString "digit") (bino .Mod (sub (var (Str.ofString "hand")) (lit (.int 2))) (var (Str.ofString "limit")))), (seti (var (Str.ofString "hand")) (lit (.int 2)) (bino .FloorDiv (sub (var (Str.ofString "hand")) (lit (.int 2))) (var (Str.ofString "limit")))), (sRet (var (Str.ofString "digit")))]
theorem fn18 (n : Nat) (v0 v1 : AV) (σ : St) : (run theQ (n + 8)).fn 18 [v0, v1] σ = frun (seq B18) (env [((Str.ofString "hand"), v0), ((Str.ofString "limit"), v1)]) σ := by kernel_rfl
noncomputable def L19_0 (n : Nat) : List SS := [(setl (Str.ofString "held") (sub (var (Str.ofString "pool")) (callf ((run theQ (n + 11)).fn) 18 [(var (Str.ofString "hand")), (bcall (.bltn "len") [(var (Str.ofString "pool"))])]))), (iff' (tcmp .Eq (callf ((run theQ (n + 11)).fn) 18 [(var (Str.ofString "hand")), (lit (.int 4))]) (lit (.int 3))) [(setl (Str.ofString "held") (meth ((run theQ (n + 11)).fn) (var (Str.ofString "types")) (Str.ofString "new") [(lit (.str (Str.ofString "pointer"))), (lit (.int 4)), (var (Str.ofString "module")), (bino .Add (bino .Add (var (Str.ofString "label")) (lit (.str (Str.ofString ".")))) (bcall (.typ "str") [(var (Str.ofString "at"))]))])), (seta (var (Str.ofString "held")) (Str.ofString "base") (var (Str.ofString "t")))] []), (setl (Str.ofString "one_field") (newc ((run theQ (n + 12)).fn) 2 7 [(bino .Add (lit (.str (Str.ofString "f"))) (bcall (.typ "str") [(var (Str.ofString "at"))])), (lit (.str (Str.ofString "field"))), (var (Str.ofString "held")), (lit (.int 0))])), (seta (var (Str.ofString "one_field")) (Str.ofString "exported") (bopE .Or (cmpE .Lt (callf ((run theQ (n + 10)).fn) 18 [(var (Str.ofString "hand")), (lit (.int 3))]) (lit (.int 2))) (var (Str.ofString "shown")))), (seta (var (Str.ofString "one_field")) (Str.ofString "module") (var (Str.ofString "module"))), (sE (meth ((run theQ (n + 12)).fn) (att (var (Str.ofString "t")) (Str.ofString "fields")) (Str.ofString "append") [(var (Str.ofString "one_field"))]))]
noncomputable def B19 (n : Nat) : List SS := [(setl (Str.ofString "t") (meth ((run theQ (n + 13)).fn) (var (Str.ofString "types")) (Str.ofString "new") [(lit (.str (Str.ofString "record"))), (lit (.int 0)), (var (Str.ofString "module")), (var (Str.ofString "label"))])), (seta (var (Str.ofString "t")) (Str.ofString "base") (var (Str.ofString "base"))), (forl (Str.ofString "at") (bcall (.typ "range") [(callf ((run theQ (n + 12)).fn) 18 [(var (Str.ofString "hand")), (lit (.int 4))])]) (L19_0 n)), (sE (callf ((run theQ (n + 13)).fn) 15 [(var (Str.ofString "t"))])), (sRet (var (Str.ofString "t")))]
theorem fn19 (n : Nat) (v0 v1 v2 v3 v4 v5 v6 : AV) (σ : St) : (run theQ (n + 16)).fn 19 [v0, v1, v2, v3, v4, v5, v6] σ = frun (seq (B19 n)) (env [((Str.ofString "hand"), v0), ((Str.ofString "types"), v1), ((Str.ofString "module"), v2), ((Str.ofString "label"), v3), ((Str.ofString "base"), v4), ((Str.ofString "pool"), v5), ((Str.ofString "shown"), v6)]) σ := by kernel_rfl
noncomputable def L20_0 (n : Nat) : List SS := [(setl (Str.ofString "held") (sub (var (Str.ofString "pool")) (callf ((run theQ (n + 11)).fn) 18 [(var (Str.ofString "hand")), (bcall (.bltn "len") [(var (Str.ofString "pool"))])]))), (setl (Str.ofString "par") (newc ((run theQ (n + 12)).fn) 2 7 [(bino .Add (lit (.str (Str.ofString "p"))) (bcall (.typ "str") [(var (Str.ofString "at"))])), (ifE (tAll .Or [(tcmp .In (att (var (Str.ofString "held")) (Str.ofString "form")) (lst [(lit (.str (Str.ofString "record"))), (lit (.str (Str.ofString "array")))])), (tcmp .Eq (callf ((run theQ (n + 8)).fn) 18 [(var (Str.ofString "hand")), (lit (.int 2))]) (lit (.int 1)))]) (lit (.str (Str.ofString "par"))) (lit (.str (Str.ofString "var")))), (var (Str.ofString "held")), (lit (.int 0))])), (seta (var (Str.ofString "par")) (Str.ofString "readonly") (bopE .And (cmpE .Eq (att (var (Str.ofString "par")) (Str.ofString "kind")) (lit (.str (Str.ofString "par")))) (cmpE .Eq (callf ((run theQ (n + 10)).fn) 18 [(var (Str.ofString "hand")), (lit (.int 2))]) (lit (.int 1))))), (sE (meth ((run theQ (n + 12)).fn) (att (var (Str.ofString "t")) (Str.ofString "params")) (Str.ofString "append") [(var (Str.ofString "par"))]))]
noncomputable def B20 (n : Nat) : List SS := [(setl (Str.ofString "t") (meth ((run theQ (n + 13)).fn) (var (Str.ofString "types")) (Str.ofString "new") [(lit (.str (Str.ofString "proc"))), (lit (.int 4)), (lit (.str (Str.ofString "M"))), (var (Str.ofString "label"))])), (forl (Str.ofString "at") (bcall (.typ "range") [(callf ((run theQ (n + 12)).fn) 18 [(var (Str.ofString "hand")), (lit (.int 3))])]) (L20_0 n)), (seta (var (Str.ofString "t")) (Str.ofString "base") (ifE (tcmp .Eq (callf ((run theQ (n + 11)).fn) 18 [(var (Str.ofString "hand")), (lit (.int 2))]) (lit (.int 0))) (att (var (Str.ofString "types")) (Str.ofString "none")) (att (var (Str.ofString "types")) (Str.ofString "integer")))), (sE (callf ((run theQ (n + 13)).fn) 17 [(att (var (Str.ofString "t")) (Str.ofString "params")), (lit (.bool false))])), (sRet (var (Str.ofString "t")))]
theorem fn20 (n : Nat) (v0 v1 v2 v3 : AV) (σ : St) : (run theQ (n + 16)).fn 20 [v0, v1, v2, v3] σ = frun (seq (B20 n)) (env [((Str.ofString "hand"), v0), ((Str.ofString "types"), v1), ((Str.ofString "label"), v2), ((Str.ofString "pool"), v3)]) σ := by kernel_rfl
noncomputable def B22 (n : Nat) : List SS := [(setl (Str.ofString "form") (callf ((run theQ (n + 12)).fn) 18 [(var (Str.ofString "hand")), (lit (.int 6))])), (iff' (tcmp .Eq (var (Str.ofString "form")) (lit (.int 4))) [(setl (Str.ofString "letters_of") (sub (lst [(lit (.str (Str.ofString ""))), (lit (.str (Str.ofString "ab"))), (lit (.str (Str.ofString "x"))), (lit (.str (Str.ofString "ÿ")))]) (callf ((run theQ (n + 10)).fn) 18 [(var (Str.ofString "hand")), (lit (.int 4))]))), (sRet (tupE [(meth ((run theQ (n + 10)).fn) (var (Str.ofString "types")) (Str.ofString "string") [(bino .Add (bcall (.bltn "len") [(var (Str.ofString "letters_of"))]) (lit (.int 1)))]), (var (Str.ofString "letters_of"))]))] []), (iff' (tcmp .Eq (var (Str.ofString "form")) (lit (.int 5))) [(sRet (tupE [(att (var (Str.ofString "types")) (Str.ofString "nil")), (lit .none)]))] []), (setl (Str.ofString "value") (callf ((run theQ (n + 12)).fn) 18 [(var (Str.ofString "hand")), (sub (lst [(bino .Pow (lit (.int 2)) (lit (.int 31))), (lit (.int 2)), (lit (.int 256)), (bino .Pow (lit (.int 2)) (lit (.int 32)))]) (var (Str.ofString "form")))])), (sRet (tupE [(sub (lst [(att (var (Str.ofString "types")) (Str.ofString "integer")), (att (var (Str.ofString "types")) (Str.ofString "boolean")), (att (var (Str.ofString "types")) (Str.ofString "char")), (att (var (Str.ofString "types")) (Str.ofString "mask"))]) (var (Str.ofString "form"))), (ifE (tAll .And [(tcmp .Eq (var (Str.ofString "form")) (lit (.int 0))), (tcmp .Eq (callf ((run theQ (n + 8)).fn) 18 [(var (Str.ofString "hand")), (lit (.int 2))]) (lit (.int 1)))]) (bino .Sub (lit (.int 0)) (var (Str.ofString "value"))) (var (Str.ofString "value")))]))]
theorem fn22 (n : Nat) (v0 v1 : AV) (σ : St) : (run theQ (n + 15)).fn 22 [v0, v1] σ = frun (seq (B22 n)) (env [((Str.ofString "hand"), v0), ((Str.ofString "types"), v1)]) σ := by kernel_rfl
noncomputable def L21_0 (n : Nat) : List SS := [(setl (Str.ofString "form") (callf ((run theQ (n + 20)).fn) 18 [(var (Str.ofString "hand")), (lit (.int 4))])), (setl (Str.ofString "label") (bino .Add (lit (.str (Str.ofString "T"))) (bcall (.typ "str") [(var (Str.ofString "at"))]))), (setl (Str.ofString "records") (comp (Str.ofString "t") (bino .Add (var (Str.ofString "pool")) (lst [(var (Str.ofString "foreign"))])) [(tcmp .Eq (att (var (Str.ofString "t")) (Str.ofString "form")) (lit (.str (Str.ofString "record"))))] (var (Str.ofString "t")))), (iff' (tcmp .Eq (var (Str.ofString "form")) (lit (.int 0))) [(setl (Str.ofString "base") (ifE (tcmp .Eq (callf ((run theQ (n + 17)).fn) 18 [(var (Str.ofString "hand")), (lit (.int 2))]) (lit (.int 1))) (sub (var (Str.ofString "records")) (callf ((run theQ (n + 17)).fn) 18 [(var (Str.ofString "hand")), (bcall (.bltn "len") [(var (Str.ofString "records"))])])) (lit .none))), (sE (meth ((run theQ (n + 19)).fn) (var (Str.ofString "pool")) (Str.ofString "append") [(callf ((run theQ (n + 18)).fn) 19 [(var (Str.ofString "hand")), (var (Str.ofString "types")), (lit (.str (Str.ofString "M"))), (var (Str.ofString "label")), (ifE (tAll .Or [(tcmp .Is (var (Str.ofString "base")) (lit .none)), (tcmp .Lt (att (var (Str.ofString "base")) (Str.ofString "level")) (lit (.int 2)))]) (var (Str.ofString "base")) (lit .none)), (var (Str.ofString "pool")), (lit (.bool false))])]))] [(iff' (tcmp .Eq (var (Str.ofString "form")) (lit (.int 1))) [(setl (Str.ofString "t") (meth ((run theQ (n + 18)).fn) (var (Str.ofString "types")) (Str.ofString "new") [(lit (.str (Str.ofString "pointer"))), (lit (.int 4)), (lit (.str (Str.ofString "M"))), (var (Str.ofString "label"))])), (seta (var (Str.ofString "t")) (Str.ofString "base") (sub (var (Str.ofString "records")) (callf ((run theQ (n + 17)).fn) 18 [(var (Str.ofString "hand")), (bcall (.bltn "len") [(var (Str.ofString "records"))])]))), (sE (meth ((run theQ (n + 18)).fn) (var (Str.ofString "pool")) (Str.ofString "append") [(var (Str.ofString "t"))]))] [(iff' (tcmp .Eq (var (Str.ofString "form")) (lit (.int 2))) [(setl (Str.ofString "t") (meth ((run theQ (n + 17)).fn) (var (Str.ofString "types")) (Str.ofString "new") [(lit (.str (Str.ofString "array"))), (lit (.int 0)), (lit (.str (Str.ofString "M"))), (var (Str.ofString "label"))])), (seta (var (Str.ofString "t")) (Str.ofString "base") (sub (var (Str.ofString "pool")) (callf ((run theQ (n + 16)).fn) 18 [(var (Str.ofString "hand")), (bcall (.bltn "len") [(var (Str.ofString "pool"))])]))), (seta (var (Str.ofString "t")) (Str.ofString "length") (bino .Add (lit (.int 1)) (callf ((run theQ (n + 16)).fn) 18 [(var (Str.ofString "hand")), (lit (.int 3))]))), (seta (var (Str.ofString "t")) (Str.ofString "size") (bino .Mult (att (var (Str.ofString "t")) (Str.ofString "length")) (att (att (var (Str.ofString "t")) (Str.ofString "base")) (Str.ofString "size")))), (sE (meth ((run theQ (n + 17)).fn) (var (Str.ofString "pool")) (Str.ofString "append") [(var (Str.ofString "t"))]))] [(sE (meth ((run theQ (n + 17)).fn) (var (Str.ofString "pool")) (Str.ofString "append") [(callf ((run theQ (n + 16)).fn) 20 [(var (Str.ofString "hand")), (var (Str.ofString "types")), (var (Str.ofString "label")), (var (Str.ofString "pool"))])]))])])])]
noncomputable def B21 (n : Nat) : List SS := [(setl (Str.ofString "pool") (lst [(att (var (Str.ofString "types")) (Str.ofString "integer")), (att (var (Str.ofString "types")) (Str.ofString "char")), (att (var (Str.ofString "types")) (Str.ofString "boolean")), (att (var (Str.ofString "types")) (Str.ofString "mask")), (att (var (Str.ofString "types")) (Str.ofString "byte"))])), (setl (Str.ofString "foreign") (callf ((run theQ (n + 21)).fn) 19 [(var (Str.ofString "hand")), (var (Str.ofString "types")), (lit (.str (Str.ofString "N"))), (lit (.str (Str.ofString "R"))), (lit .none), (slc (var (Str.ofString "pool")) (lit .none) (lit (.int 2))), (lit (.bool true))])), (seta (var (Str.ofString "foreign")) (Str.ofString "exno") (lit (.int 1))), (forl (Str.ofString "at") (bcall (.typ "range") [(callf ((run theQ (n + 20)).fn) 18 [(var (Str.ofString "hand")), (lit (.int 5))])]) (L21_0 n)), (sRet (var (Str.ofString "pool")))]
theorem fn21 (n : Nat) (v0 v1 : AV) (σ : St) : (run theQ (n + 24)).fn 21 [v0, v1] σ = frun (seq (B21 n)) (env [((Str.ofString "hand"), v0), ((Str.ofString "types"), v1)]) σ := by kernel_rfl
noncomputable def L23_0 (n : Nat) : List SS := [(setl (Str.ofString "kind") (sub (lst [(lit (.str (Str.ofString "const"))), (lit (.str (Str.ofString "type"))), (lit (.str (Str.ofString "var"))), (lit (.str (Str.ofString "proc")))]) (callf ((run theQ (n + 22)).fn) 18 [(var (Str.ofString "hand")), (lit (.int 4))]))), (setl (Str.ofString "obj") (newc ((run theQ (n + 23)).fn) 2 7 [(bino .Add (sub (var (Str.ofString "kind")) (lit (.int 0))) (bcall (.typ "str") [(var (Str.ofString "at"))])), (var (Str.ofString "kind")), (att (var (Str.ofString "types")) (Str.ofString "none")), (lit (.int 0))])), (iff' (tcmp .Eq (var (Str.ofString "kind")) (lit (.str (Str.ofString "const")))) [(set2 (asgA (var (Str.ofString "obj")) (Str.ofString "type")) (asgA (var (Str.ofString "obj")) (Str.ofString "value")) (callf ((run theQ (n + 22)).fn) 22 [(var (Str.ofString "hand")), (var (Str.ofString "types"))]))] [(iff' (tcmp .Eq (var (Str.ofString "kind")) (lit (.str (Str.ofString "proc")))) [(seta (var (Str.ofString "obj")) (Str.ofString "type") (callf ((run theQ (n + 21)).fn) 20 [(var (Str.ofString "hand")), (var (Str.ofString "types")), (bino .Add (lit (.str (Str.ofString "P"))) (bcall (.typ "str") [(var (Str.ofString "at"))])), (var (Str.ofString "pool"))]))] [(seta (var (Str.ofString "obj")) (Str.ofString "type") (sub (var (Str.ofString "pool")) (bino .Sub (negE (lit (.int 1))) (callf ((run theQ (n + 19)).fn) 18 [(var (Str.ofString "hand")), (bcall (.bltn "len") [(var (Str.ofString "pool"))])]))))])]), (seta (var (Str.ofString "obj")) (Str.ofString "exported") (cmpE .Lt (callf ((run theQ (n + 22)).fn) 18 [(var (Str.ofString "hand")), (lit (.int 4))]) (lit (.int 3)))), (seta (var (Str.ofString "obj")) (Str.ofString "module") (lit (.str (Str.ofString "M")))), (sE (meth ((run theQ (n + 23)).fn) (att (var (Str.ofString "tree")) (Str.ofString "objs")) (Str.ofString "append") [(var (Str.ofString "obj"))]))]
noncomputable def B23 (n : Nat) : List SS := [(setl (Str.ofString "pool") (callf ((run theQ (n + 24)).fn) 21 [(var (Str.ofString "hand")), (var (Str.ofString "types"))])), (setl (Str.ofString "tree") (newc ((run theQ (n + 24)).fn) 4 11 [(lit (.str (Str.ofString "M")))])), (forl (Str.ofString "at") (bcall (.typ "range") [(bino .Add (lit (.int 1)) (callf ((run theQ (n + 22)).fn) 18 [(var (Str.ofString "hand")), (lit (.int 5))]))]) (L23_0 n)), (sRet (var (Str.ofString "tree")))]
theorem fn23 (n : Nat) (v0 v1 : AV) (σ : St) : (run theQ (n + 27)).fn 23 [v0, v1] σ = frun (seq (B23 n)) (env [((Str.ofString "hand"), v0), ((Str.ofString "types"), v1)]) σ := by kernel_rfl
noncomputable def B24 : List SS := [(iff' (tcmp .In (att (var (Str.ofString "t")) (Str.ofString "form")) (lst [(lit (.str (Str.ofString "array"))), (lit (.str (Str.ofString "pointer")))])) [(sRet (lst [(att (var (Str.ofString "t")) (Str.ofString "base"))]))] []), (iff' (tcmp .Eq (att (var (Str.ofString "t")) (Str.ofString "form")) (lit (.str (Str.ofString "record")))) [(sRet (bino .Add (ifE (tcmp .Is (att (var (Str.ofString "t")) (Str.ofString "base")) (lit .none)) (lst []) (lst [(att (var (Str.ofString "t")) (Str.ofString "base"))])) (comp (Str.ofString "one_field") (att (var (Str.ofString "t")) (Str.ofString "fields")) [(tval (att (var (Str.ofString "one_field")) (Str.ofString "exported")))] (att (var (Str.ofString "one_field")) (Str.ofString "type")))))] []), (sRet (ifE (tcmp .Eq (att (var (Str.ofString "t")) (Str.ofString "form")) (lit (.str (Str.ofString "proc")))) (bino .Add (comp (Str.ofString "par") (att (var (Str.ofString "t")) (Str.ofString "params")) [] (att (var (Str.ofString "par")) (Str.ofString "type"))) (lst [(att (var (Str.ofString "t")) (Str.ofString "base"))])) (lst [])))]
theorem fn24 (n : Nat) (v0 : AV) (σ : St) : (run theQ (n + 8)).fn 24 [v0] σ = frun (seq B24) (env [((Str.ofString "t"), v0)]) σ := by kernel_rfl
noncomputable def L25_0 (n : Nat) : List SS := [(setl (Str.ofString "t") (meth ((run theQ (n + 9)).fn) (var (Str.ofString "waiting")) (Str.ofString "pop") [])), (iff' (tcmp .NotIn (att (var (Str.ofString "t")) (Str.ofString "number")) (comp (Str.ofString "one") (var (Str.ofString "found")) [] (att (var (Str.ofString "one")) (Str.ofString "number")))) [(sE (meth ((run theQ (n + 8)).fn) (var (Str.ofString "found")) (Str.ofString "append") [(var (Str.ofString "t"))])), (augl (Str.ofString "waiting") .Add (callf ((run theQ (n + 8)).fn) 24 [(var (Str.ofString "t"))]))] [])]
noncomputable def B25 (n : Nat) : List SS := [(setl (Str.ofString "found") (lst [])), (setl (Str.ofString "waiting") (comp (Str.ofString "obj") (var (Str.ofString "objs")) [(tval (att (var (Str.ofString "obj")) (Str.ofString "exported")))] (att (var (Str.ofString "obj")) (Str.ofString "type")))), (whl (tcmp .NotEq (var (Str.ofString "waiting")) (lst [])) (L25_0 n)), (sRet (var (Str.ofString "found")))]
theorem fn25 (n : Nat) (v0 : AV) (σ : St) : (run theQ (n + 13)).fn 25 [v0] σ = frun (seq (B25 n)) (env [((Str.ofString "objs"), v0)]) σ := by kernel_rfl
noncomputable def L26_0 (n : Nat) : List SS := [(iff' (tval (att (var (Str.ofString "obj")) (Str.ofString "exported"))) [(setl (Str.ofString "fresh") (comp (Str.ofString "t") (callf ((run theQ (n + 25)).fn) 25 [(lst [(var (Str.ofString "obj"))])]) [(tAll .And [(tcmp .Eq (att (var (Str.ofString "t")) (Str.ofString "form")) (lit (.str (Str.ofString "record")))), (tcmp .Eq (att (var (Str.ofString "t")) (Str.ofString "module")) (lit (.str (Str.ofString "M")))), (tcmp .NotIn (att (var (Str.ofString "t")) (Str.ofString "number")) (celv 0))])] (var (Str.ofString "t")))), (augc 0 .Add (comp (Str.ofString "t") (var (Str.ofString "fresh")) [] (att (var (Str.ofString "t")) (Str.ofString "number")))), (sE (meth ((run theQ (n + 25)).fn) (var (Str.ofString "due")) (Str.ofString "append") [(bcall (.bltn "sorted") [(comp (Str.ofString "t") (var (Str.ofString "fresh")) [] (att (var (Str.ofString "t")) (Str.ofString "number")))])])), (iff' (tcmp .In (att (var (Str.ofString "obj")) (Str.ofString "kind")) (lst [(lit (.str (Str.ofString "var"))), (lit (.str (Str.ofString "proc")))])) [(sE (meth ((run theQ (n + 24)).fn) (var (Str.ofString "due")) (Str.ofString "append") [(att (var (Str.ofString "obj")) (Str.ofString "name"))]))] [])] [])]
noncomputable def L26_1 : List SS := [(iff' (tcmp .NotEq (att (sub (sub (var (Str.ofString "some")) (var (Str.ofString "spot"))) (lit (.int 1))) (Str.ofString "exno")) (bino .Add (bino .Add (var (Str.ofString "at")) (var (Str.ofString "spot"))) (lit (.int 1)))) [(sRet (lit (.bool false)))] []), (setl (Str.ofString "base") (att (sub (sub (var (Str.ofString "some")) (var (Str.ofString "spot"))) (lit (.int 1))) (Str.ofString "base"))), (iff' (tAll .And [(tcmp .IsNot (var (Str.ofString "base")) (lit .none)), (tcmp .Eq (att (var (Str.ofString "base")) (Str.ofString "module")) (lit (.str (Str.ofString "M")))), (tcmp .Gt (att (var (Str.ofString "base")) (Str.ofString "exno")) (bino .Add (var (Str.ofString "at")) (var (Str.ofString "spot"))))]) [(sRet (lit (.bool false)))] [])]
noncomputable def L26_2 : List SS := [(iff' (tval (bcall (.bltn "isinstance") [(var (Str.ofString "entry")), (lit (.typ "str"))])) [(iff' (tAll .Or [(tcmp .GtE (var (Str.ofString "at")) (bcall (.bltn "len") [(var (Str.ofString "rows"))])), (tcmp .NotIn (sub (sub (var (Str.ofString "rows")) (var (Str.ofString "at"))) (lit (.int 0))) (lst [(lit (.str (Str.ofString "var"))), (lit (.str (Str.ofString "proc")))])), (tcmp .NotEq (att (sub (sub (var (Str.ofString "rows")) (var (Str.ofString "at"))) (lit (.int 1))) (Str.ofString "name")) (var (Str.ofString "entry"))), (tcmp .NotEq (att (sub (sub (var (Str.ofString "rows")) (var (Str.ofString "at"))) (lit (.int 1))) (Str.ofString "number")) (bino .Add (var (Str.ofString "at")) (lit (.int 1)))), (tcmp .NotEq (sub (sub (var (Str.ofString "rows")) (var (Str.ofString "at"))) (lit (.int 0))) (att (sub (sub (var (Str.ofString "rows")) (var (Str.ofString "at"))) (lit (.int 1))) (Str.ofString "kind")))]) [(sRet (lit (.bool false)))] []), (augl (Str.ofString "at") .Add (lit (.int 1)))] [(setl (Str.ofString "some") (slc (var (Str.ofString "rows")) (var (Str.ofString "at")) (bino .Add (var (Str.ofString "at")) (bcall (.bltn "len") [(var (Str.ofString "entry"))])))), (iff' (tAll .Or [(tcmp .In (lit (.bool true)) (comp (Str.ofString "row") (var (Str.ofString "some")) [] (cmpE .NotEq (sub (var (Str.ofString "row")) (lit (.int 0))) (lit (.str (Str.ofString "record")))))), (tcmp .NotEq (bcall (.bltn "sorted") [(comp (Str.ofString "row") (var (Str.ofString "some")) [] (att (sub (var (Str.ofString "row")) (lit (.int 1))) (Str.ofString "number")))]) (var (Str.ofString "entry")))]) [(sRet (lit (.bool false)))] []), (forl (Str.ofString "spot") (bcall (.typ "range") [(bcall (.bltn "len") [(var (Str.ofString "some"))])]) L26_1), (augl (Str.ofString "at") .Add (bcall (.bltn "len") [(var (Str.ofString "entry"))]))])]
noncomputable def L26_3 : List SS := [(iff' (tcmp .NotEq (cmpE .NotEq (att (var (Str.ofString "obj")) (Str.ofString "number")) (lit (.int 0))) (bopE .And (att (var (Str.ofString "obj")) (Str.ofString "exported")) (cmpE .In (att (var (Str.ofString "obj")) (Str.ofString "kind")) (lst [(lit (.str (Str.ofString "var"))), (lit (.str (Str.ofString "proc")))])))) [(sRet (lit (.bool false)))] [])]
noncomputable def B26 (n : Nat) : List SS := [(setl (Str.ofString "hand") (lst [(var (Str.ofString "cells")), (lit (.int 0)), (lit (.int 0)), (bino .Mult (bino .Mod (bcall (.bltn "sum") [(var (Str.ofString "cells"))]) (lit (.int 100003))) (lit (.int 7)))])),
  (setc 1 (newc ((run theQ (n + 27)).fn) 3 8 [])),
  (setl (Str.ofString "tree") (callf ((run theQ (n + 27)).fn) 23 [(var (Str.ofString "hand")), (celv 1)])),
  (setl (Str.ofString "rows") (comp (Str.ofString "row") (callf ((run theQ (n + 27)).fn) 5 [(var (Str.ofString "tree"))]) [] (bcall (.typ "tuple") [(var (Str.ofString "row"))]))),
  (setl (Str.ofString "due") (lst [])),
  (setc 0 (lst [])),
  (forl (Str.ofString "obj") (att (var (Str.ofString "tree")) (Str.ofString "objs")) (L26_0 n)),
  (setl (Str.ofString "at") (lit (.int 0))),
  (forl (Str.ofString "entry") (var (Str.ofString "due")) L26_2),
  (iff' (tcmp .NotEq (var (Str.ofString "at")) (bcall (.bltn "len") [(var (Str.ofString "rows"))])) [(sRet (lit (.bool false)))] []),
  (forl (Str.ofString "obj") (att (var (Str.ofString "tree")) (Str.ofString "objs")) L26_3),
  (setl (Str.ofString "records") (comp (Str.ofString "name") (att (celv 1) (Str.ofString "known")) [(tAll .And [(tcmp .Eq (att (sub (att (celv 1) (Str.ofString "known")) (var (Str.ofString "name"))) (Str.ofString "form")) (lit (.str (Str.ofString "record")))), (tcmp .Eq (sub (var (Str.ofString "name")) (lit (.int 0))) (lit (.str (Str.ofString "M"))))])] (sub (att (celv 1) (Str.ofString "known")) (var (Str.ofString "name"))))),
  (sRet (cmpE .NotIn (lit (.bool false)) (comp (Str.ofString "t") (var (Str.ofString "records")) [] (cmpE .Eq (cmpE .NotEq (att (var (Str.ofString "t")) (Str.ofString "exno")) (lit (.int 0))) (cmpE .In (att (var (Str.ofString "t")) (Str.ofString "number")) (celv 0))))))]
theorem law_run (n : Nat) (σ : St) : exs (run theQ (n + 29)) lawK lawRest σ = seq (B26 n) σ := by kernel_rfl
end Mine
end
section
namespace Mine.L
theorem ofS_inj (a b : String) : (Str.ofString a = Str.ofString b) = (a = b) := by
  apply propext
  refine ⟨fun h => ?_, fun h => by rw [h]⟩
  rw [Str.ofString_eq_toList, Str.ofString_eq_toList] at h
  have h := congrArg Str.cps h
  have h : a.toList.map Char.toNat = b.toList.map Char.toNat := by simpa using h
  have : a.toList = b.toList := by
    refine List.map_inj_right (f := Char.toNat) ?_ |>.mp h
    intro x y e
    exact Char.toNat_inj.mp e
  exact String.toList_inj.mp this
section
variable {α β : Type}
theorem get_lt {h xs : List α} {j : Nat} (q : j < h.length) : (h ++ xs)[j]? = h[j]? := List.getElem?_append_left q
theorem get_app {h xs : List α} (k : Nat) : (h ++ xs)[h.length + k]? = xs[k]? := by rw [List.getElem?_append_right (Nat.le_add_right _ _), Nat.add_sub_cancel_left]
theorem get_app0 {h xs : List α} : (h ++ xs)[h.length]? = xs[0]? := by rw [List.getElem?_append_right (Nat.le_refl _), Nat.sub_self]
theorem set_lt {h xs : List α} {j : Nat} {o : α} (q : j < h.length) : (h ++ xs).set j o = h.set j o ++ xs := by rw [List.set_append_left _ _ q]
theorem set_app {h xs : List α} (k : Nat) {o : α} : (h ++ xs).set (h.length + k) o = h ++ xs.set k o := by rw [List.set_append_right _ _ (Nat.le_add_right _ _), Nat.add_sub_cancel_left]
theorem set_app0 {h xs : List α} {o : α} : (h ++ xs).set h.length o = h ++ xs.set 0 o := by rw [List.set_append_right _ _ (Nat.le_refl _), Nat.sub_self]
theorem get_set_ne {h : List α} {i j : Nat} {o : α} (q : i ≠ j) : (h.set i o)[j]? = h[j]? := List.getElem?_set_ne q
theorem get_set {h : List α} {i : Nat} {o p : α} (q : h[i]? = some p) : (h.set i o)[i]? = some o := by
  rw [List.getElem?_set_self (List.getElem?_eq_some_iff.mp q).1]
theorem lt_of {h : List α} {i : Nat} {p : α} (q : h[i]? = some p) : i < h.length := (List.getElem?_eq_some_iff.mp q).1
end
theorem ge_ex {m k : Nat} (h : k ≤ m) : ∃ n, m = n + k := ⟨m - k, (Nat.sub_add_cancel h).symm⟩
theorem at2 {b j : Nat} (h1 : b - 1 ≤ j) (h2 : j ≤ b) : j = b - 1 ∨ j = b := (Nat.lt_or_eq_of_le h2).imp_left fun h => Nat.le_antisymm (Nat.le_sub_one_of_lt h) h1
theorem at4 {b j : Nat} (h1 : b - 1 ≤ j) (h2 : j ≤ b + 2) : j = b - 1 ∨ j = b ∨ j = b + 1 ∨ j = b + 2 := (Nat.lt_or_eq_of_le h2).elim (fun h => (Nat.lt_or_eq_of_le (Nat.le_of_lt_succ h)).elim (fun h => (at2 h1 (Nat.le_of_lt_succ h)).elim .inl fun e => .inr (.inl e)) fun e => .inr (.inr (.inl e))) fun e => .inr (.inr (.inr e))
theorem at6 {b j : Nat} : j < b - 1 ∨ b + 2 < j ∨ j = b - 1 ∨ j = b ∨ j = b + 1 ∨ j = b + 2 := (Nat.lt_or_ge j (b - 1)).elim .inl fun h1 => .inr ((Nat.lt_or_ge (b + 2) j).elim .inl fun h2 => .inr (at4 h1 h2))
theorem at3 {b j : Nat} : j < b - 1 ∨ b < j ∨ j = b - 1 ∨ j = b := (Nat.lt_or_ge j (b - 1)).elim .inl fun h1 => .inr ((Nat.lt_or_ge b j).elim .inl fun h2 => .inr (at2 h1 h2))
theorem pred_inj {a b : Nat} (ha : 0 < a) (hb : 0 < b) (h : a - 1 = b - 1) : a = b := by rw [← Nat.succ_pred_eq_of_pos ha, ← Nat.succ_pred_eq_of_pos hb]; exact congrArg (· + 1) h
theorem lt8 : ∀ j, j < 8 → (j = 0 ∨ j = 1 ∨ j = 2 ∨ j = 3 ∨ j = 4 ∨ j = 5 ∨ j = 6 ∨ j = 7) := by decide
theorem pred_lt' {a b : Nat} (h : a < b) : a - 1 < b := Nat.lt_of_le_of_lt (Nat.sub_le a 1) h
theorem ge_pos {a b B : Nat} (h : a + 1 + b ≤ B) : B = B - 1 + 1 := (Nat.sub_add_cancel (Nat.le_trans (Nat.le_add_left 1 a) (Nat.le_trans (Nat.le_add_right _ b) h))).symm
theorem ge_dec {a b B : Nat} (h : a + 1 + b ≤ B) : a + b ≤ B - 1 := Nat.le_sub_of_add_le (by rw [Nat.add_right_comm]; exact h)
theorem fuel {k c p w N F B : Nat} (h1 : p ≤ k) (h2 : w + c + (k + 1) * (N - F) ≤ B) (h3 : F + 1 ≤ N) : w + p + (k + 1) * (N - (F + 1)) + 1 + c ≤ B := by
  obtain ⟨d, rfl⟩ := Nat.le.dest h3
  rw [Nat.add_sub_cancel_left]
  rw [Nat.add_assoc F 1 d, Nat.add_sub_cancel_left, Nat.add_comm 1 d, Nat.mul_add, Nat.mul_one] at h2
  exact Nat.le_trans (Nat.le_of_eq (show w + p + (k + 1) * d + 1 + c = w + c + ((k + 1) * d + (p + 1)) by ac_rfl)) (Nat.le_trans (Nat.add_le_add_left (Nat.add_le_add_left (Nat.add_le_add_right h1 1) _) _) h2)
theorem pos_ex {k m : Nat} (h : k < m) : ∃ n, m = n + 1 := ⟨m - 1, (Nat.sub_add_cancel (Nat.lt_of_le_of_lt (Nat.zero_le k) h)).symm⟩
theorem cps {P : Prop} (h : ∀ C : Prop, (P → C) → C) : P := h P id
theorem exE2 {α0 α1 : Type} {P : α0 → α1 → Prop} {C : Prop} (h : ∃ x0 x1, P x0 x1) (k : ∀ x0 x1, P x0 x1 → C) : C := h.elim fun x0 h1 => h1.elim fun x1 h2 => k x0 x1 h2
theorem exE3 {α0 α1 α2 : Type} {P : α0 → α1 → α2 → Prop} {C : Prop} (h : ∃ x0 x1 x2, P x0 x1 x2) (k : ∀ x0 x1 x2, P x0 x1 x2 → C) : C := h.elim fun x0 h1 => h1.elim fun x1 h2 => h2.elim fun x2 h3 => k x0 x1 x2 h3
theorem exE4 {α0 α1 α2 α3 : Type} {P : α0 → α1 → α2 → α3 → Prop} {C : Prop} (h : ∃ x0 x1 x2 x3, P x0 x1 x2 x3) (k : ∀ x0 x1 x2 x3, P x0 x1 x2 x3 → C) : C := h.elim fun x0 h1 => h1.elim fun x1 h2 => h2.elim fun x2 h3 => h3.elim fun x3 h4 => k x0 x1 x2 x3 h4
theorem exE6 {α0 α1 α2 α3 α4 α5 : Type} {P : α0 → α1 → α2 → α3 → α4 → α5 → Prop} {C : Prop} (h : ∃ x0 x1 x2 x3 x4 x5, P x0 x1 x2 x3 x4 x5) (k : ∀ x0 x1 x2 x3 x4 x5, P x0 x1 x2 x3 x4 x5 → C) : C := h.elim fun x0 h1 => h1.elim fun x1 h2 => h2.elim fun x2 h3 => h3.elim fun x3 h4 => h4.elim fun x4 h5 => h5.elim fun x5 h6 => k x0 x1 x2 x3 x4 x5 h6
theorem exE7 {α0 α1 α2 α3 α4 α5 α6 : Type} {P : α0 → α1 → α2 → α3 → α4 → α5 → α6 → Prop} {C : Prop} (h : ∃ x0 x1 x2 x3 x4 x5 x6, P x0 x1 x2 x3 x4 x5 x6) (k : ∀ x0 x1 x2 x3 x4 x5 x6, P x0 x1 x2 x3 x4 x5 x6 → C) : C := h.elim fun x0 h1 => h1.elim fun x1 h2 => h2.elim fun x2 h3 => h3.elim fun x3 h4 => h4.elim fun x4 h5 => h5.elim fun x5 h6 => h6.elim fun x6 h7 => k x0 x1 x2 x3 x4 x5 x6 h7
theorem exE8 {α0 α1 α2 α3 α4 α5 α6 α7 : Type} {P : α0 → α1 → α2 → α3 → α4 → α5 → α6 → α7 → Prop} {C : Prop} (h : ∃ x0 x1 x2 x3 x4 x5 x6 x7, P x0 x1 x2 x3 x4 x5 x6 x7) (k : ∀ x0 x1 x2 x3 x4 x5 x6 x7, P x0 x1 x2 x3 x4 x5 x6 x7 → C) : C := h.elim fun x0 h1 => h1.elim fun x1 h2 => h2.elim fun x2 h3 => h3.elim fun x3 h4 => h4.elim fun x4 h5 => h5.elim fun x5 h6 => h6.elim fun x6 h7 => h7.elim fun x7 h8 => k x0 x1 x2 x3 x4 x5 x6 x7 h8
theorem exE11 {α0 α1 α2 α3 α4 α5 α6 α7 α8 α9 α10 : Type} {P : α0 → α1 → α2 → α3 → α4 → α5 → α6 → α7 → α8 → α9 → α10 → Prop} {C : Prop} (h : ∃ x0 x1 x2 x3 x4 x5 x6 x7 x8 x9 x10, P x0 x1 x2 x3 x4 x5 x6 x7 x8 x9 x10) (k : ∀ x0 x1 x2 x3 x4 x5 x6 x7 x8 x9 x10, P x0 x1 x2 x3 x4 x5 x6 x7 x8 x9 x10 → C) : C := h.elim fun x0 h1 => h1.elim fun x1 h2 => h2.elim fun x2 h3 => h3.elim fun x3 h4 => h4.elim fun x4 h5 => h5.elim fun x5 h6 => h6.elim fun x6 h7 => h7.elim fun x7 h8 => h8.elim fun x8 h9 => h9.elim fun x9 h10 => h10.elim fun x10 h11 => k x0 x1 x2 x3 x4 x5 x6 x7 x8 x9 x10 h11
theorem anD2 {A0 A1 C : Prop} (h : A0 ∧ A1) (k : A0 → A1 → C) : C := k h.1 h.2
theorem anD3 {A0 A1 A2 C : Prop} (h : A0 ∧ A1 ∧ A2) (k : A0 → A1 → A2 → C) : C := k h.1 h.2.1 h.2.2
theorem anD4 {A0 A1 A2 A3 C : Prop} (h : A0 ∧ A1 ∧ A2 ∧ A3) (k : A0 → A1 → A2 → A3 → C) : C := k h.1 h.2.1 h.2.2.1 h.2.2.2
theorem anD5 {A0 A1 A2 A3 A4 C : Prop} (h : A0 ∧ A1 ∧ A2 ∧ A3 ∧ A4) (k : A0 → A1 → A2 → A3 → A4 → C) : C := k h.1 h.2.1 h.2.2.1 h.2.2.2.1 h.2.2.2.2
theorem anD6 {A0 A1 A2 A3 A4 A5 C : Prop} (h : A0 ∧ A1 ∧ A2 ∧ A3 ∧ A4 ∧ A5) (k : A0 → A1 → A2 → A3 → A4 → A5 → C) : C := k h.1 h.2.1 h.2.2.1 h.2.2.2.1 h.2.2.2.2.1 h.2.2.2.2.2
theorem anD7 {A0 A1 A2 A3 A4 A5 A6 C : Prop} (h : A0 ∧ A1 ∧ A2 ∧ A3 ∧ A4 ∧ A5 ∧ A6) (k : A0 → A1 → A2 → A3 → A4 → A5 → A6 → C) : C := k h.1 h.2.1 h.2.2.1 h.2.2.2.1 h.2.2.2.2.1 h.2.2.2.2.2.1 h.2.2.2.2.2.2
theorem anD8 {A0 A1 A2 A3 A4 A5 A6 A7 C : Prop} (h : A0 ∧ A1 ∧ A2 ∧ A3 ∧ A4 ∧ A5 ∧ A6 ∧ A7) (k : A0 → A1 → A2 → A3 → A4 → A5 → A6 → A7 → C) : C := k h.1 h.2.1 h.2.2.1 h.2.2.2.1 h.2.2.2.2.1 h.2.2.2.2.2.1 h.2.2.2.2.2.2.1 h.2.2.2.2.2.2.2
theorem anD9 {A0 A1 A2 A3 A4 A5 A6 A7 A8 C : Prop} (h : A0 ∧ A1 ∧ A2 ∧ A3 ∧ A4 ∧ A5 ∧ A6 ∧ A7 ∧ A8) (k : A0 → A1 → A2 → A3 → A4 → A5 → A6 → A7 → A8 → C) : C := k h.1 h.2.1 h.2.2.1 h.2.2.2.1 h.2.2.2.2.1 h.2.2.2.2.2.1 h.2.2.2.2.2.2.1 h.2.2.2.2.2.2.2.1 h.2.2.2.2.2.2.2.2
theorem anD10 {A0 A1 A2 A3 A4 A5 A6 A7 A8 A9 C : Prop} (h : A0 ∧ A1 ∧ A2 ∧ A3 ∧ A4 ∧ A5 ∧ A6 ∧ A7 ∧ A8 ∧ A9) (k : A0 → A1 → A2 → A3 → A4 → A5 → A6 → A7 → A8 → A9 → C) : C := k h.1 h.2.1 h.2.2.1 h.2.2.2.1 h.2.2.2.2.1 h.2.2.2.2.2.1 h.2.2.2.2.2.2.1 h.2.2.2.2.2.2.2.1 h.2.2.2.2.2.2.2.2.1 h.2.2.2.2.2.2.2.2.2
theorem anD11 {A0 A1 A2 A3 A4 A5 A6 A7 A8 A9 A10 C : Prop} (h : A0 ∧ A1 ∧ A2 ∧ A3 ∧ A4 ∧ A5 ∧ A6 ∧ A7 ∧ A8 ∧ A9 ∧ A10) (k : A0 → A1 → A2 → A3 → A4 → A5 → A6 → A7 → A8 → A9 → A10 → C) : C := k h.1 h.2.1 h.2.2.1 h.2.2.2.1 h.2.2.2.2.1 h.2.2.2.2.2.1 h.2.2.2.2.2.2.1 h.2.2.2.2.2.2.2.1 h.2.2.2.2.2.2.2.2.1 h.2.2.2.2.2.2.2.2.2.1 h.2.2.2.2.2.2.2.2.2.2
theorem ex1_3 {α0 : Type} {A0 A1 A2 : α0 → Prop} {C : Prop} (h : ∃ x0, A0 x0 ∧ A1 x0 ∧ A2 x0) (k : ∀ x0, A0 x0 → A1 x0 → A2 x0 → C) : C := let ⟨x0, q⟩ := h; anD3 q (k x0)
theorem ex1_4 {α0 : Type} {A0 A1 A2 A3 : α0 → Prop} {C : Prop} (h : ∃ x0, A0 x0 ∧ A1 x0 ∧ A2 x0 ∧ A3 x0) (k : ∀ x0, A0 x0 → A1 x0 → A2 x0 → A3 x0 → C) : C := let ⟨x0, q⟩ := h; anD4 q (k x0)
theorem ex1_8 {α0 : Type} {A0 A1 A2 A3 A4 A5 A6 A7 : α0 → Prop} {C : Prop} (h : ∃ x0, A0 x0 ∧ A1 x0 ∧ A2 x0 ∧ A3 x0 ∧ A4 x0 ∧ A5 x0 ∧ A6 x0 ∧ A7 x0) (k : ∀ x0, A0 x0 → A1 x0 → A2 x0 → A3 x0 → A4 x0 → A5 x0 → A6 x0 → A7 x0 → C) : C := let ⟨x0, q⟩ := h; anD8 q (k x0)
theorem ex2_2 {α0 α1 : Type} {A0 A1 : α0 → α1 → Prop} {C : Prop} (h : ∃ x0 x1, A0 x0 x1 ∧ A1 x0 x1) (k : ∀ x0 x1, A0 x0 x1 → A1 x0 x1 → C) : C := exE2 h (fun x0 x1 q => anD2 q (k x0 x1))
theorem ex2_3 {α0 α1 : Type} {A0 A1 A2 : α0 → α1 → Prop} {C : Prop} (h : ∃ x0 x1, A0 x0 x1 ∧ A1 x0 x1 ∧ A2 x0 x1) (k : ∀ x0 x1, A0 x0 x1 → A1 x0 x1 → A2 x0 x1 → C) : C := exE2 h (fun x0 x1 q => anD3 q (k x0 x1))
theorem ex2_4 {α0 α1 : Type} {A0 A1 A2 A3 : α0 → α1 → Prop} {C : Prop} (h : ∃ x0 x1, A0 x0 x1 ∧ A1 x0 x1 ∧ A2 x0 x1 ∧ A3 x0 x1) (k : ∀ x0 x1, A0 x0 x1 → A1 x0 x1 → A2 x0 x1 → A3 x0 x1 → C) : C := exE2 h (fun x0 x1 q => anD4 q (k x0 x1))
theorem ex2_5 {α0 α1 : Type} {A0 A1 A2 A3 A4 : α0 → α1 → Prop} {C : Prop} (h : ∃ x0 x1, A0 x0 x1 ∧ A1 x0 x1 ∧ A2 x0 x1 ∧ A3 x0 x1 ∧ A4 x0 x1) (k : ∀ x0 x1, A0 x0 x1 → A1 x0 x1 → A2 x0 x1 → A3 x0 x1 → A4 x0 x1 → C) : C := exE2 h (fun x0 x1 q => anD5 q (k x0 x1))
theorem ex2_6 {α0 α1 : Type} {A0 A1 A2 A3 A4 A5 : α0 → α1 → Prop} {C : Prop} (h : ∃ x0 x1, A0 x0 x1 ∧ A1 x0 x1 ∧ A2 x0 x1 ∧ A3 x0 x1 ∧ A4 x0 x1 ∧ A5 x0 x1) (k : ∀ x0 x1, A0 x0 x1 → A1 x0 x1 → A2 x0 x1 → A3 x0 x1 → A4 x0 x1 → A5 x0 x1 → C) : C := exE2 h (fun x0 x1 q => anD6 q (k x0 x1))
theorem ex3_1 {α0 α1 α2 : Type} {A0 : α0 → α1 → α2 → Prop} {C : Prop} (h : ∃ x0 x1 x2, A0 x0 x1 x2) (k : ∀ x0 x1 x2, A0 x0 x1 x2 → C) : C := exE3 h k
theorem ex3_3 {α0 α1 α2 : Type} {A0 A1 A2 : α0 → α1 → α2 → Prop} {C : Prop} (h : ∃ x0 x1 x2, A0 x0 x1 x2 ∧ A1 x0 x1 x2 ∧ A2 x0 x1 x2) (k : ∀ x0 x1 x2, A0 x0 x1 x2 → A1 x0 x1 x2 → A2 x0 x1 x2 → C) : C := exE3 h (fun x0 x1 x2 q => anD3 q (k x0 x1 x2))
theorem ex3_4 {α0 α1 α2 : Type} {A0 A1 A2 A3 : α0 → α1 → α2 → Prop} {C : Prop} (h : ∃ x0 x1 x2, A0 x0 x1 x2 ∧ A1 x0 x1 x2 ∧ A2 x0 x1 x2 ∧ A3 x0 x1 x2) (k : ∀ x0 x1 x2, A0 x0 x1 x2 → A1 x0 x1 x2 → A2 x0 x1 x2 → A3 x0 x1 x2 → C) : C := exE3 h (fun x0 x1 x2 q => anD4 q (k x0 x1 x2))
theorem ex3_6 {α0 α1 α2 : Type} {A0 A1 A2 A3 A4 A5 : α0 → α1 → α2 → Prop} {C : Prop} (h : ∃ x0 x1 x2, A0 x0 x1 x2 ∧ A1 x0 x1 x2 ∧ A2 x0 x1 x2 ∧ A3 x0 x1 x2 ∧ A4 x0 x1 x2 ∧ A5 x0 x1 x2) (k : ∀ x0 x1 x2, A0 x0 x1 x2 → A1 x0 x1 x2 → A2 x0 x1 x2 → A3 x0 x1 x2 → A4 x0 x1 x2 → A5 x0 x1 x2 → C) : C := exE3 h (fun x0 x1 x2 q => anD6 q (k x0 x1 x2))
theorem ex3_7 {α0 α1 α2 : Type} {A0 A1 A2 A3 A4 A5 A6 : α0 → α1 → α2 → Prop} {C : Prop} (h : ∃ x0 x1 x2, A0 x0 x1 x2 ∧ A1 x0 x1 x2 ∧ A2 x0 x1 x2 ∧ A3 x0 x1 x2 ∧ A4 x0 x1 x2 ∧ A5 x0 x1 x2 ∧ A6 x0 x1 x2) (k : ∀ x0 x1 x2, A0 x0 x1 x2 → A1 x0 x1 x2 → A2 x0 x1 x2 → A3 x0 x1 x2 → A4 x0 x1 x2 → A5 x0 x1 x2 → A6 x0 x1 x2 → C) : C := exE3 h (fun x0 x1 x2 q => anD7 q (k x0 x1 x2))
theorem ex4_4 {α0 α1 α2 α3 : Type} {A0 A1 A2 A3 : α0 → α1 → α2 → α3 → Prop} {C : Prop} (h : ∃ x0 x1 x2 x3, A0 x0 x1 x2 x3 ∧ A1 x0 x1 x2 x3 ∧ A2 x0 x1 x2 x3 ∧ A3 x0 x1 x2 x3) (k : ∀ x0 x1 x2 x3, A0 x0 x1 x2 x3 → A1 x0 x1 x2 x3 → A2 x0 x1 x2 x3 → A3 x0 x1 x2 x3 → C) : C := exE4 h (fun x0 x1 x2 x3 q => anD4 q (k x0 x1 x2 x3))
theorem ex4_5 {α0 α1 α2 α3 : Type} {A0 A1 A2 A3 A4 : α0 → α1 → α2 → α3 → Prop} {C : Prop} (h : ∃ x0 x1 x2 x3, A0 x0 x1 x2 x3 ∧ A1 x0 x1 x2 x3 ∧ A2 x0 x1 x2 x3 ∧ A3 x0 x1 x2 x3 ∧ A4 x0 x1 x2 x3) (k : ∀ x0 x1 x2 x3, A0 x0 x1 x2 x3 → A1 x0 x1 x2 x3 → A2 x0 x1 x2 x3 → A3 x0 x1 x2 x3 → A4 x0 x1 x2 x3 → C) : C := exE4 h (fun x0 x1 x2 x3 q => anD5 q (k x0 x1 x2 x3))
theorem ex6_7 {α0 α1 α2 α3 α4 α5 : Type} {A0 A1 A2 A3 A4 A5 A6 : α0 → α1 → α2 → α3 → α4 → α5 → Prop} {C : Prop} (h : ∃ x0 x1 x2 x3 x4 x5, A0 x0 x1 x2 x3 x4 x5 ∧ A1 x0 x1 x2 x3 x4 x5 ∧ A2 x0 x1 x2 x3 x4 x5 ∧ A3 x0 x1 x2 x3 x4 x5 ∧ A4 x0 x1 x2 x3 x4 x5 ∧ A5 x0 x1 x2 x3 x4 x5 ∧ A6 x0 x1 x2 x3 x4 x5) (k : ∀ x0 x1 x2 x3 x4 x5, A0 x0 x1 x2 x3 x4 x5 → A1 x0 x1 x2 x3 x4 x5 → A2 x0 x1 x2 x3 x4 x5 → A3 x0 x1 x2 x3 x4 x5 → A4 x0 x1 x2 x3 x4 x5 → A5 x0 x1 x2 x3 x4 x5 → A6 x0 x1 x2 x3 x4 x5 → C) : C := exE6 h (fun x0 x1 x2 x3 x4 x5 q => anD7 q (k x0 x1 x2 x3 x4 x5))
theorem ex6_9 {α0 α1 α2 α3 α4 α5 : Type} {A0 A1 A2 A3 A4 A5 A6 A7 A8 : α0 → α1 → α2 → α3 → α4 → α5 → Prop} {C : Prop} (h : ∃ x0 x1 x2 x3 x4 x5, A0 x0 x1 x2 x3 x4 x5 ∧ A1 x0 x1 x2 x3 x4 x5 ∧ A2 x0 x1 x2 x3 x4 x5 ∧ A3 x0 x1 x2 x3 x4 x5 ∧ A4 x0 x1 x2 x3 x4 x5 ∧ A5 x0 x1 x2 x3 x4 x5 ∧ A6 x0 x1 x2 x3 x4 x5 ∧ A7 x0 x1 x2 x3 x4 x5 ∧ A8 x0 x1 x2 x3 x4 x5) (k : ∀ x0 x1 x2 x3 x4 x5, A0 x0 x1 x2 x3 x4 x5 → A1 x0 x1 x2 x3 x4 x5 → A2 x0 x1 x2 x3 x4 x5 → A3 x0 x1 x2 x3 x4 x5 → A4 x0 x1 x2 x3 x4 x5 → A5 x0 x1 x2 x3 x4 x5 → A6 x0 x1 x2 x3 x4 x5 → A7 x0 x1 x2 x3 x4 x5 → A8 x0 x1 x2 x3 x4 x5 → C) : C := exE6 h (fun x0 x1 x2 x3 x4 x5 q => anD9 q (k x0 x1 x2 x3 x4 x5))
theorem ex7_7 {α0 α1 α2 α3 α4 α5 α6 : Type} {A0 A1 A2 A3 A4 A5 A6 : α0 → α1 → α2 → α3 → α4 → α5 → α6 → Prop} {C : Prop} (h : ∃ x0 x1 x2 x3 x4 x5 x6, A0 x0 x1 x2 x3 x4 x5 x6 ∧ A1 x0 x1 x2 x3 x4 x5 x6 ∧ A2 x0 x1 x2 x3 x4 x5 x6 ∧ A3 x0 x1 x2 x3 x4 x5 x6 ∧ A4 x0 x1 x2 x3 x4 x5 x6 ∧ A5 x0 x1 x2 x3 x4 x5 x6 ∧ A6 x0 x1 x2 x3 x4 x5 x6) (k : ∀ x0 x1 x2 x3 x4 x5 x6, A0 x0 x1 x2 x3 x4 x5 x6 → A1 x0 x1 x2 x3 x4 x5 x6 → A2 x0 x1 x2 x3 x4 x5 x6 → A3 x0 x1 x2 x3 x4 x5 x6 → A4 x0 x1 x2 x3 x4 x5 x6 → A5 x0 x1 x2 x3 x4 x5 x6 → A6 x0 x1 x2 x3 x4 x5 x6 → C) : C := exE7 h (fun x0 x1 x2 x3 x4 x5 x6 q => anD7 q (k x0 x1 x2 x3 x4 x5 x6))
theorem ex7_8 {α0 α1 α2 α3 α4 α5 α6 : Type} {A0 A1 A2 A3 A4 A5 A6 A7 : α0 → α1 → α2 → α3 → α4 → α5 → α6 → Prop} {C : Prop} (h : ∃ x0 x1 x2 x3 x4 x5 x6, A0 x0 x1 x2 x3 x4 x5 x6 ∧ A1 x0 x1 x2 x3 x4 x5 x6 ∧ A2 x0 x1 x2 x3 x4 x5 x6 ∧ A3 x0 x1 x2 x3 x4 x5 x6 ∧ A4 x0 x1 x2 x3 x4 x5 x6 ∧ A5 x0 x1 x2 x3 x4 x5 x6 ∧ A6 x0 x1 x2 x3 x4 x5 x6 ∧ A7 x0 x1 x2 x3 x4 x5 x6) (k : ∀ x0 x1 x2 x3 x4 x5 x6, A0 x0 x1 x2 x3 x4 x5 x6 → A1 x0 x1 x2 x3 x4 x5 x6 → A2 x0 x1 x2 x3 x4 x5 x6 → A3 x0 x1 x2 x3 x4 x5 x6 → A4 x0 x1 x2 x3 x4 x5 x6 → A5 x0 x1 x2 x3 x4 x5 x6 → A6 x0 x1 x2 x3 x4 x5 x6 → A7 x0 x1 x2 x3 x4 x5 x6 → C) : C := exE7 h (fun x0 x1 x2 x3 x4 x5 x6 q => anD8 q (k x0 x1 x2 x3 x4 x5 x6))
theorem ex7_10 {α0 α1 α2 α3 α4 α5 α6 : Type} {A0 A1 A2 A3 A4 A5 A6 A7 A8 A9 : α0 → α1 → α2 → α3 → α4 → α5 → α6 → Prop} {C : Prop} (h : ∃ x0 x1 x2 x3 x4 x5 x6, A0 x0 x1 x2 x3 x4 x5 x6 ∧ A1 x0 x1 x2 x3 x4 x5 x6 ∧ A2 x0 x1 x2 x3 x4 x5 x6 ∧ A3 x0 x1 x2 x3 x4 x5 x6 ∧ A4 x0 x1 x2 x3 x4 x5 x6 ∧ A5 x0 x1 x2 x3 x4 x5 x6 ∧ A6 x0 x1 x2 x3 x4 x5 x6 ∧ A7 x0 x1 x2 x3 x4 x5 x6 ∧ A8 x0 x1 x2 x3 x4 x5 x6 ∧ A9 x0 x1 x2 x3 x4 x5 x6) (k : ∀ x0 x1 x2 x3 x4 x5 x6, A0 x0 x1 x2 x3 x4 x5 x6 → A1 x0 x1 x2 x3 x4 x5 x6 → A2 x0 x1 x2 x3 x4 x5 x6 → A3 x0 x1 x2 x3 x4 x5 x6 → A4 x0 x1 x2 x3 x4 x5 x6 → A5 x0 x1 x2 x3 x4 x5 x6 → A6 x0 x1 x2 x3 x4 x5 x6 → A7 x0 x1 x2 x3 x4 x5 x6 → A8 x0 x1 x2 x3 x4 x5 x6 → A9 x0 x1 x2 x3 x4 x5 x6 → C) : C := exE7 h (fun x0 x1 x2 x3 x4 x5 x6 q => anD10 q (k x0 x1 x2 x3 x4 x5 x6))
theorem ex7_11 {α0 α1 α2 α3 α4 α5 α6 : Type} {A0 A1 A2 A3 A4 A5 A6 A7 A8 A9 A10 : α0 → α1 → α2 → α3 → α4 → α5 → α6 → Prop} {C : Prop} (h : ∃ x0 x1 x2 x3 x4 x5 x6, A0 x0 x1 x2 x3 x4 x5 x6 ∧ A1 x0 x1 x2 x3 x4 x5 x6 ∧ A2 x0 x1 x2 x3 x4 x5 x6 ∧ A3 x0 x1 x2 x3 x4 x5 x6 ∧ A4 x0 x1 x2 x3 x4 x5 x6 ∧ A5 x0 x1 x2 x3 x4 x5 x6 ∧ A6 x0 x1 x2 x3 x4 x5 x6 ∧ A7 x0 x1 x2 x3 x4 x5 x6 ∧ A8 x0 x1 x2 x3 x4 x5 x6 ∧ A9 x0 x1 x2 x3 x4 x5 x6 ∧ A10 x0 x1 x2 x3 x4 x5 x6) (k : ∀ x0 x1 x2 x3 x4 x5 x6, A0 x0 x1 x2 x3 x4 x5 x6 → A1 x0 x1 x2 x3 x4 x5 x6 → A2 x0 x1 x2 x3 x4 x5 x6 → A3 x0 x1 x2 x3 x4 x5 x6 → A4 x0 x1 x2 x3 x4 x5 x6 → A5 x0 x1 x2 x3 x4 x5 x6 → A6 x0 x1 x2 x3 x4 x5 x6 → A7 x0 x1 x2 x3 x4 x5 x6 → A8 x0 x1 x2 x3 x4 x5 x6 → A9 x0 x1 x2 x3 x4 x5 x6 → A10 x0 x1 x2 x3 x4 x5 x6 → C) : C := exE7 h (fun x0 x1 x2 x3 x4 x5 x6 q => anD11 q (k x0 x1 x2 x3 x4 x5 x6))
theorem ex8_4 {α0 α1 α2 α3 α4 α5 α6 α7 : Type} {A0 A1 A2 A3 : α0 → α1 → α2 → α3 → α4 → α5 → α6 → α7 → Prop} {C : Prop} (h : ∃ x0 x1 x2 x3 x4 x5 x6 x7, A0 x0 x1 x2 x3 x4 x5 x6 x7 ∧ A1 x0 x1 x2 x3 x4 x5 x6 x7 ∧ A2 x0 x1 x2 x3 x4 x5 x6 x7 ∧ A3 x0 x1 x2 x3 x4 x5 x6 x7) (k : ∀ x0 x1 x2 x3 x4 x5 x6 x7, A0 x0 x1 x2 x3 x4 x5 x6 x7 → A1 x0 x1 x2 x3 x4 x5 x6 x7 → A2 x0 x1 x2 x3 x4 x5 x6 x7 → A3 x0 x1 x2 x3 x4 x5 x6 x7 → C) : C := exE8 h (fun x0 x1 x2 x3 x4 x5 x6 x7 q => anD4 q (k x0 x1 x2 x3 x4 x5 x6 x7))
theorem ex8_5 {α0 α1 α2 α3 α4 α5 α6 α7 : Type} {A0 A1 A2 A3 A4 : α0 → α1 → α2 → α3 → α4 → α5 → α6 → α7 → Prop} {C : Prop} (h : ∃ x0 x1 x2 x3 x4 x5 x6 x7, A0 x0 x1 x2 x3 x4 x5 x6 x7 ∧ A1 x0 x1 x2 x3 x4 x5 x6 x7 ∧ A2 x0 x1 x2 x3 x4 x5 x6 x7 ∧ A3 x0 x1 x2 x3 x4 x5 x6 x7 ∧ A4 x0 x1 x2 x3 x4 x5 x6 x7) (k : ∀ x0 x1 x2 x3 x4 x5 x6 x7, A0 x0 x1 x2 x3 x4 x5 x6 x7 → A1 x0 x1 x2 x3 x4 x5 x6 x7 → A2 x0 x1 x2 x3 x4 x5 x6 x7 → A3 x0 x1 x2 x3 x4 x5 x6 x7 → A4 x0 x1 x2 x3 x4 x5 x6 x7 → C) : C := exE8 h (fun x0 x1 x2 x3 x4 x5 x6 x7 q => anD5 q (k x0 x1 x2 x3 x4 x5 x6 x7))
theorem ex8_8 {α0 α1 α2 α3 α4 α5 α6 α7 : Type} {A0 A1 A2 A3 A4 A5 A6 A7 : α0 → α1 → α2 → α3 → α4 → α5 → α6 → α7 → Prop} {C : Prop} (h : ∃ x0 x1 x2 x3 x4 x5 x6 x7, A0 x0 x1 x2 x3 x4 x5 x6 x7 ∧ A1 x0 x1 x2 x3 x4 x5 x6 x7 ∧ A2 x0 x1 x2 x3 x4 x5 x6 x7 ∧ A3 x0 x1 x2 x3 x4 x5 x6 x7 ∧ A4 x0 x1 x2 x3 x4 x5 x6 x7 ∧ A5 x0 x1 x2 x3 x4 x5 x6 x7 ∧ A6 x0 x1 x2 x3 x4 x5 x6 x7 ∧ A7 x0 x1 x2 x3 x4 x5 x6 x7) (k : ∀ x0 x1 x2 x3 x4 x5 x6 x7, A0 x0 x1 x2 x3 x4 x5 x6 x7 → A1 x0 x1 x2 x3 x4 x5 x6 x7 → A2 x0 x1 x2 x3 x4 x5 x6 x7 → A3 x0 x1 x2 x3 x4 x5 x6 x7 → A4 x0 x1 x2 x3 x4 x5 x6 x7 → A5 x0 x1 x2 x3 x4 x5 x6 x7 → A6 x0 x1 x2 x3 x4 x5 x6 x7 → A7 x0 x1 x2 x3 x4 x5 x6 x7 → C) : C := exE8 h (fun x0 x1 x2 x3 x4 x5 x6 x7 q => anD8 q (k x0 x1 x2 x3 x4 x5 x6 x7))
theorem ex8_9 {α0 α1 α2 α3 α4 α5 α6 α7 : Type} {A0 A1 A2 A3 A4 A5 A6 A7 A8 : α0 → α1 → α2 → α3 → α4 → α5 → α6 → α7 → Prop} {C : Prop} (h : ∃ x0 x1 x2 x3 x4 x5 x6 x7, A0 x0 x1 x2 x3 x4 x5 x6 x7 ∧ A1 x0 x1 x2 x3 x4 x5 x6 x7 ∧ A2 x0 x1 x2 x3 x4 x5 x6 x7 ∧ A3 x0 x1 x2 x3 x4 x5 x6 x7 ∧ A4 x0 x1 x2 x3 x4 x5 x6 x7 ∧ A5 x0 x1 x2 x3 x4 x5 x6 x7 ∧ A6 x0 x1 x2 x3 x4 x5 x6 x7 ∧ A7 x0 x1 x2 x3 x4 x5 x6 x7 ∧ A8 x0 x1 x2 x3 x4 x5 x6 x7) (k : ∀ x0 x1 x2 x3 x4 x5 x6 x7, A0 x0 x1 x2 x3 x4 x5 x6 x7 → A1 x0 x1 x2 x3 x4 x5 x6 x7 → A2 x0 x1 x2 x3 x4 x5 x6 x7 → A3 x0 x1 x2 x3 x4 x5 x6 x7 → A4 x0 x1 x2 x3 x4 x5 x6 x7 → A5 x0 x1 x2 x3 x4 x5 x6 x7 → A6 x0 x1 x2 x3 x4 x5 x6 x7 → A7 x0 x1 x2 x3 x4 x5 x6 x7 → A8 x0 x1 x2 x3 x4 x5 x6 x7 → C) : C := exE8 h (fun x0 x1 x2 x3 x4 x5 x6 x7 q => anD9 q (k x0 x1 x2 x3 x4 x5 x6 x7))
theorem ex11_3 {α0 α1 α2 α3 α4 α5 α6 α7 α8 α9 α10 : Type} {A0 A1 A2 : α0 → α1 → α2 → α3 → α4 → α5 → α6 → α7 → α8 → α9 → α10 → Prop} {C : Prop} (h : ∃ x0 x1 x2 x3 x4 x5 x6 x7 x8 x9 x10, A0 x0 x1 x2 x3 x4 x5 x6 x7 x8 x9 x10 ∧ A1 x0 x1 x2 x3 x4 x5 x6 x7 x8 x9 x10 ∧ A2 x0 x1 x2 x3 x4 x5 x6 x7 x8 x9 x10) (k : ∀ x0 x1 x2 x3 x4 x5 x6 x7 x8 x9 x10, A0 x0 x1 x2 x3 x4 x5 x6 x7 x8 x9 x10 → A1 x0 x1 x2 x3 x4 x5 x6 x7 x8 x9 x10 → A2 x0 x1 x2 x3 x4 x5 x6 x7 x8 x9 x10 → C) : C := exE11 h (fun x0 x1 x2 x3 x4 x5 x6 x7 x8 x9 x10 q => anD3 q (k x0 x1 x2 x3 x4 x5 x6 x7 x8 x9 x10))
theorem mk2_3 {α0 α1 : Type} {A0 A1 A2 : α0 → α1 → Prop} (x0 : α0) (x1 : α1) (h0 : A0 x0 x1) (h1 : A1 x0 x1) (h2 : A2 x0 x1) : ∃ y0 y1, A0 y0 y1 ∧ A1 y0 y1 ∧ A2 y0 y1 := ⟨x0, x1, h0, h1, h2⟩
theorem mk2_4 {α0 α1 : Type} {A0 A1 A2 A3 : α0 → α1 → Prop} (x0 : α0) (x1 : α1) (h0 : A0 x0 x1) (h1 : A1 x0 x1) (h2 : A2 x0 x1) (h3 : A3 x0 x1) : ∃ y0 y1, A0 y0 y1 ∧ A1 y0 y1 ∧ A2 y0 y1 ∧ A3 y0 y1 := ⟨x0, x1, h0, h1, h2, h3⟩
theorem mkE2 {α0 α1 : Type} {P : α0 → α1 → Prop} (x0 : α0) (x1 : α1) (h : P x0 x1) : ∃ y0 y1, P y0 y1 := ⟨x0, x1, h⟩
theorem mkE3 {α0 α1 α2 : Type} {P : α0 → α1 → α2 → Prop} (x0 : α0) (x1 : α1) (x2 : α2) (h : P x0 x1 x2) : ∃ y0 y1 y2, P y0 y1 y2 := ⟨x0, x1, x2, h⟩
theorem mkE7 {α0 α1 α2 α3 α4 α5 α6 : Type} {P : α0 → α1 → α2 → α3 → α4 → α5 → α6 → Prop} (x0 : α0) (x1 : α1) (x2 : α2) (x3 : α3) (x4 : α4) (x5 : α5) (x6 : α6) (h : P x0 x1 x2 x3 x4 x5 x6) : ∃ y0 y1 y2 y3 y4 y5 y6, P y0 y1 y2 y3 y4 y5 y6 := ⟨x0, x1, x2, x3, x4, x5, x6, h⟩
theorem mkE8 {α0 α1 α2 α3 α4 α5 α6 α7 : Type} {P : α0 → α1 → α2 → α3 → α4 → α5 → α6 → α7 → Prop} (x0 : α0) (x1 : α1) (x2 : α2) (x3 : α3) (x4 : α4) (x5 : α5) (x6 : α6) (x7 : α7) (h : P x0 x1 x2 x3 x4 x5 x6 x7) : ∃ y0 y1 y2 y3 y4 y5 y6 y7, P y0 y1 y2 y3 y4 y5 y6 y7 := ⟨x0, x1, x2, x3, x4, x5, x6, x7, h⟩
theorem mkE11 {α0 α1 α2 α3 α4 α5 α6 α7 α8 α9 α10 : Type} {P : α0 → α1 → α2 → α3 → α4 → α5 → α6 → α7 → α8 → α9 → α10 → Prop} (x0 : α0) (x1 : α1) (x2 : α2) (x3 : α3) (x4 : α4) (x5 : α5) (x6 : α6) (x7 : α7) (x8 : α8) (x9 : α9) (x10 : α10) (h : P x0 x1 x2 x3 x4 x5 x6 x7 x8 x9 x10) : ∃ y0 y1 y2 y3 y4 y5 y6 y7 y8 y9 y10, P y0 y1 y2 y3 y4 y5 y6 y7 y8 y9 y10 := ⟨x0, x1, x2, x3, x4, x5, x6, x7, x8, x9, x10, h⟩
theorem mkE4 {α0 α1 α2 α3 : Type} {P : α0 → α1 → α2 → α3 → Prop} (x0 : α0) (x1 : α1) (x2 : α2) (x3 : α3) (h : P x0 x1 x2 x3) : ∃ y0 y1 y2 y3, P y0 y1 y2 y3 := ⟨x0, x1, x2, x3, h⟩
theorem exE5 {α0 α1 α2 α3 α4 : Type} {P : α0 → α1 → α2 → α3 → α4 → Prop} {C : Prop} (h : ∃ x0 x1 x2 x3 x4, P x0 x1 x2 x3 x4) (k : ∀ x0 x1 x2 x3 x4, P x0 x1 x2 x3 x4 → C) : C := h.elim fun x0 h1 => h1.elim fun x1 h2 => h2.elim fun x2 h3 => h3.elim fun x3 h4 => h4.elim fun x4 h5 => k x0 x1 x2 x3 x4 h5
theorem mkE5 {α0 α1 α2 α3 α4 : Type} {P : α0 → α1 → α2 → α3 → α4 → Prop} (x0 : α0) (x1 : α1) (x2 : α2) (x3 : α3) (x4 : α4) (h : P x0 x1 x2 x3 x4) : ∃ y0 y1 y2 y3 y4, P y0 y1 y2 y3 y4 := ⟨x0, x1, x2, x3, x4, h⟩
section
variable {h : List AO} {σ : St} {a : Nat}
theorem c_eq (x y : AV) (σ : St) : cmp .Eq x y σ = eqS x y := rfl
theorem c_ne (x y : AV) (σ : St) : cmp .NotEq x y σ = (eqB σ.h x y).map (!·) := rfl
theorem c_lt (x y : Int) (σ : St) : cmp .Lt (.int x) (.int y) σ = some (decide (x < y)) := rfl
theorem c_le (x y : Int) (σ : St) : cmp .LtE (.int x) (.int y) σ = some (decide (x ≤ y)) := rfl
theorem c_gt (x y : Int) (σ : St) : cmp .Gt (.int x) (.int y) σ = some (decide (x > y)) := rfl
theorem c_ge (x y : Int) (σ : St) : cmp .GtE (.int x) (.int y) σ = some (decide (x ≥ y)) := rfl
theorem c_in (x y : AV) (σ : St) : cmp .In x y σ = inB σ.h x y := rfl
theorem c_nin (x y : AV) (σ : St) : cmp .NotIn x y σ = (inB σ.h x y).map (!·) := rfl
theorem c_is0 (σ : St) : cmp .Is .none .none σ = some true := rfl
theorem c_is1 (x : Nat) (σ : St) : cmp .Is (.ref x) .none σ = some false := rfl
theorem c_isn0 (σ : St) : cmp .IsNot .none .none σ = some false := rfl
theorem c_isn1 (x : Nat) (σ : St) : cmp .IsNot (.ref x) .none σ = some true := rfl
theorem s_int (x y : Int) : eqS (.int x) (.int y) = some (x == y) := rfl
theorem s_str (x y : Str) : eqS (.str x) (.str y) = some (x == y) := rfl
theorem s_bool (x y : Bool) : eqS (.bool x) (.bool y) = some (x == y) := rfl
theorem b_int (h : List AO) (x y : Int) : eqB h (.int x) (.int y) = some (x == y) := rfl
theorem b_str (h : List AO) (x y : Str) : eqB h (.str x) (.str y) = some (x == y) := rfl
theorem b_bool (h : List AO) (x y : Bool) : eqB h (.bool x) (.bool y) = some (x == y) := rfl
theorem add_int (x y : Int) (σ : St) : bin .Add (.int x) (.int y) σ = some (.int (x + y), σ) := rfl
theorem sub_int (x y : Int) (σ : St) : bin .Sub (.int x) (.int y) σ = some (.int (x - y), σ) := rfl
theorem mul_int (x y : Int) (σ : St) : bin .Mult (.int x) (.int y) σ = (if y.natAbs < 2 ^ 60 then some (x * y) else none).map fun z => (.int z, σ) := rfl
theorem div_int (x y : Int) (σ : St) : bin .FloorDiv (.int x) (.int y) σ = (if 0 < y ∧ y < 2 ^ 60 then some (Int.fdiv x y) else none).map fun z => (.int z, σ) := rfl
theorem mod_int (x y : Int) (σ : St) : bin .Mod (.int x) (.int y) σ = (if 0 < y then some (Int.fmod x y) else none).map fun z => (.int z, σ) := rfl
theorem pow_int (x y : Int) (σ : St) : bin .Pow (.int x) (.int y) σ = (if x = 2 ∧ 0 ≤ y ∧ y ≤ 64 then some (2 ^ y.toNat) else none).map fun z => (.int z, σ) := rfl
theorem add_str (x y : Str) (σ : St) : bin .Add (.str x) (.str y) σ = if x.length ≤ szMax ∧ y.length ≤ szMax then some (.str (x ++ y), σ) else none := rfl
theorem bool_ap (b : Bool) (σ : St) : boolV (.bool b, σ) = some (b, σ) := rfl
theorem list_at {xs : List AV} (e : h[a]? = some (.list xs)) : listAt h a = some xs := by unfold listAt; rw [e]
theorem tup_at {xs : List AV} (e : h[a]? = some (.tup xs)) : tupAt h a = some xs := by unfold tupAt; rw [e]
theorem flds_at {fs : List (Str × AV)} (e : h[a]? = some (.flds fs)) : fldsAt h a = some fs := by unfold fldsAt; rw [e]
theorem cell_at {v : Option AV} (e : h[a]? = some (.cell v)) : cellAt h a = some v := by unfold cellAt; rw [e]
theorem inst_at {c d : Nat} (e : h[a]? = some (.inst c d)) : instAt h (.ref a) = some (a, c, d) := by unfold instAt; simp only [e]
theorem key_at {x y : Str} (e : h[a]? = some (.tup [.str x, .str y])) : keyT h a = some (x, y) := by unfold keyT; rw [tup_at e]; rfl
theorem b_len (v : AV) (σ : St) : callB (.bltn "len") [v] σ = lenV v σ := by kernel_rfl
theorem b_sum (v : AV) (σ : St) : callB (.bltn "sum") [v] σ = sumV v σ := by kernel_rfl
theorem b_sorted (v : AV) (σ : St) : callB (.bltn "sorted") [v] σ = sortedV v σ := by kernel_rfl
theorem b_max (v w : AV) (σ : St) : callB (.bltn "max") [v, w] σ = maxV v w σ := by kernel_rfl
theorem b_isstr (v : AV) (σ : St) : callB (.bltn "isinstance") [v, .typ "str"] σ = isStrV v σ := by kernel_rfl
theorem t_str (v : AV) (σ : St) : callB (.typ "str") [v] σ = strV v σ := by kernel_rfl
theorem t_tuple (v : AV) (σ : St) : callB (.typ "tuple") [v] σ = tupleV v σ := by kernel_rfl
theorem t_range (v : AV) (σ : St) : callB (.typ "range") [v] σ = rangeV v σ := by kernel_rfl
theorem t_rev (v : AV) (σ : St) : callB (.typ "reversed") [v] σ = revV v σ := by kernel_rfl
theorem len_list {xs : List AV} {l : Str → Option AV} (e : h[a]? = some (.list xs)) (n : xs.length ≤ szMax) : lenV (.ref a) ⟨h, l⟩ = some (.int xs.length, ⟨h, l⟩) := by
  show (listAt h a).bind _ = _
  rw [list_at e]; exact if_pos n
theorem add_list {xs ys : List AV} {b : Nat} {l : Str → Option AV} (e : h[a]? = some (.list xs)) (e2 : h[b]? = some (.list ys)) (n : xs.length ≤ szMax) (n2 : ys.length ≤ szMax) : bin .Add (.ref a) (.ref b) ⟨h, l⟩ = some (.ref h.length, ⟨h ++ [.list (xs ++ ys)], l⟩) := by
  show (listAt h a).bind _ = _
  rw [list_at e]
  show (listAt h b).bind _ = _
  rw [list_at e2]; exact if_pos ⟨n, n2⟩
theorem in_list {xs : List AV} {x : AV} (e : h[a]? = some (.list xs)) (n : xs.length ≤ szMax) : inB h x (.ref a) = inL x xs := by
  unfold inB; simp only [e]; exact if_pos n
theorem in_tup {xs : List AV} {x : AV} (e : h[a]? = some (.tup xs)) (n : xs.length ≤ szMax) : inB h x (.ref a) = inL x xs := by
  unfold inB; simp only [e]; exact if_pos n
theorem in_dict {es : List (Int × AV)} {n : Int} (e : h[a]? = some (.idict es)) : inB h (.int n) (.ref a) = some (findI n es).isSome := by
  unfold inB; simp only [e]
theorem inL_cons (x y : AV) (r : List AV) : inL x (y :: r) = (eqS y x).bind fun b => (inL x r).map fun c => b || c := rfl
theorem inL_nil (x : AV) : inL x [] = some false := rfl
theorem slc_list {xs ys : List AV} {lo hi : AV} {l : Str → Option AV} (e : h[a]? = some (.list xs)) (n : xs.length ≤ szMax) (hs : sliceL lo hi xs = some ys) : slice (.ref a) lo hi ⟨h, l⟩ = some (.ref (h.length + 1), ⟨h ++ [.junk, .list ys], l⟩) := by
  show (listAt h a).bind _ = _
  rw [list_at e]
  refine (if_pos n).trans ?_
  rw [hs]
  show some ((AV.ref (h.length + 1)), (⟨h ++ [.junk] ++ [.list ys], l⟩ : St)) = _
  rw [List.append_assoc]; rfl
theorem sl_to {xs : List AV} {b : Int} (hb : 0 ≤ b) : sliceL .none (.int b) xs = some (xs.take b.toNat) := if_pos hb
theorem sl_from {xs : List AV} {b : Int} (hb : 0 ≤ b) : sliceL (.int b) .none xs = some (xs.drop b.toNat) := if_pos hb
theorem sl_mid {xs : List AV} {b c : Int} (hb : 0 ≤ b) (hc : 0 ≤ c) : sliceL (.int b) (.int c) xs = some ((xs.take c.toNat).drop b.toNat) := if_pos ⟨hb, hc⟩
theorem iter_at {ao : AO} {l : Str → Option AV} {g : List AO} (q : iterAt a ⟨h, l⟩ = some (ao, ⟨g, l⟩)) : mkIter (.ref a) ⟨h, l⟩ = some (.ref g.length, ⟨g ++ [ao], l⟩) := by
  show (iterAt a ⟨h, l⟩).map _ = _
  rw [q]; rfl
theorem set_dict {es : List (Int × AV)} {n : Int} {v : AV} {l : Str → Option AV} (e : h[a]? = some (.idict es)) (z : es.length ≤ szMax) : setItem (.ref a) (.int n) v ⟨h, l⟩ = some ⟨h.set a (.idict (putI n v es)), l⟩ := by
  show setI a n v ⟨h, l⟩ = _
  unfold setI; simp only [e]; exact if_pos z
theorem i_int (x y : Int) (σ : St) : inpl .Add (.int x) (.int y) σ = some (.int (x + y), σ) := rfl
theorem i_list {xs ys : List AV} {b : Nat} {l : Str → Option AV} (e : h[a]? = some (.list xs)) (e2 : h[b]? = some (.list ys)) (ne : a ≠ b) (n : xs.length ≤ szMax) (n2 : ys.length ≤ szMax) : inpl .Add (.ref a) (.ref b) ⟨h, l⟩ = some (.ref a, ⟨h.set a (.list (xs ++ ys)), l⟩) := by
  show (listAt h a).bind _ = _
  rw [list_at e]
  show (listAt h b).bind _ = _
  rw [list_at e2]; exact if_pos ⟨ne, n, n2⟩
theorem b_list {xs ys : List AV} {b : Nat} (e : h[a]? = some (.list xs)) (e2 : h[b]? = some (.list ys)) : eqB h (.ref a) (.ref b) = eqL xs ys := by
  show (listAt h a).bind _ = _
  rw [list_at e]
  show (listAt h b).bind _ = _
  rw [list_at e2]; rfl
theorem is_list {xs : List AV} {l : Str → Option AV} (e : h[a]? = some (.list xs)) : callB (.bltn "isinstance") [.ref a, .typ "str"] ⟨h, l⟩ = some (.bool false, ⟨h, l⟩) := by
  rw [b_isstr]
  show (listAt h a).map _ = _
  rw [list_at e]; rfl
theorem is_str (s : Str) (σ : St) : callB (.bltn "isinstance") [.str s, .typ "str"] σ = some (.bool true, σ) := (b_isstr _ _).trans rfl
theorem max_int (x y : Int) (σ : St) : callB (.bltn "max") [.int x, .int y] σ = some (.int (if x < y then y else x), σ) := (b_max _ _ _).trans rfl
theorem pair_at {x y : AV} (e : h[a]? = some (.tup [x, y])) : pairAt h (.ref a) = some (a, x, y) := by
  show (tupAt h a).bind _ = _
  rw [tup_at e]; rfl
theorem list_m {xs args : List AV} {l : Str → Option AV} {x : Str} (e : h[a]? = some (.list xs)) (n : xs.length ≤ szMax) : listM x a args ⟨h, l⟩ = if x = Str.ofString "append" then appendL a xs args ⟨h, l⟩
    else if x = Str.ofString "insert" then insertL a xs args ⟨h, l⟩ else if x = Str.ofString "pop" then popL a xs args ⟨h, l⟩ else if x = Str.ofString "extend" then extendL a xs args ⟨h, l⟩ else none := by
  unfold listM; rw [list_at e]; exact if_neg (not_not_intro n)
theorem app_m {xs : List AV} {l : Str → Option AV} {args : List AV} (e : h[a]? = some (.list xs)) (n : xs.length ≤ szMax) : listM (Str.ofString "append") a args ⟨h, l⟩ = appendL a xs args ⟨h, l⟩ := (list_m e n).trans (by kernel_rfl)
theorem ins_m {xs : List AV} {l : Str → Option AV} {args : List AV} (e : h[a]? = some (.list xs)) (n : xs.length ≤ szMax) : listM (Str.ofString "insert") a args ⟨h, l⟩ = insertL a xs args ⟨h, l⟩ := (list_m e n).trans (by kernel_rfl)
theorem pop_m {xs : List AV} {l : Str → Option AV} {args : List AV} (e : h[a]? = some (.list xs)) (n : xs.length ≤ szMax) : listM (Str.ofString "pop") a args ⟨h, l⟩ = popL a xs args ⟨h, l⟩ := (list_m e n).trans (by kernel_rfl)
theorem ext_m {xs : List AV} {l : Str → Option AV} {args : List AV} (e : h[a]? = some (.list xs)) (n : xs.length ≤ szMax) : listM (Str.ofString "extend") a args ⟨h, l⟩ = extendL a xs args ⟨h, l⟩ := (list_m e n).trans (by kernel_rfl)
end
noncomputable def brS (a b : List SS) (p : Bool × St) : Option (Fl × St) := match p.1 with
  | true => seq a p.2
  | false => seq b p.2
theorem brS_t (a b : List SS) (σ : St) : brS a b (true, σ) = seq a σ := rfl
theorem brS_f (a b : List SS) (σ : St) : brS a b (false, σ) = seq b σ := rfl
noncomputable def ifK (a b : SE) (p : Bool × St) : Option (AV × St) := match p.1 with
  | true => a p.2
  | false => b p.2
theorem ifK_t (a b : SE) (σ : St) : ifK a b (true, σ) = a σ := rfl
theorem ifK_f (a b : SE) (σ : St) : ifK a b (false, σ) = b σ := rfl
noncomputable def orK (t : STt) (p : Bool × St) : Option (Bool × St) := match p.1 with
  | true => some (true, p.2)
  | false => t p.2
theorem orK_t (t : STt) (σ : St) : orK t (true, σ) = some (true, σ) := rfl
theorem orK_f (t : STt) (σ : St) : orK t (false, σ) = t σ := rfl
noncomputable def andK (t : STt) (p : Bool × St) : Option (Bool × St) := match p.1 with
  | true => t p.2
  | false => some (false, p.2)
theorem andK_t (t : STt) (σ : St) : andK t (true, σ) = t σ := rfl
theorem andK_f (t : STt) (σ : St) : andK t (false, σ) = some (false, σ) := rfl
noncomputable def andE (b : SE) (p : AV × St) : Option (AV × St) := match p.1 with
  | .bool c => (match c with
    | true => b p.2
    | false => some p)
  | _ => none
theorem andE_t (b : SE) (σ : St) : andE b (.bool true, σ) = b σ := rfl
theorem andE_f (b : SE) (σ : St) : andE b (.bool false, σ) = some (.bool false, σ) := rfl
noncomputable def orE (b : SE) (p : AV × St) : Option (AV × St) := match p.1 with
  | .bool c => (match c with
    | true => some p
    | false => b p.2)
  | _ => none
theorem orE_t (b : SE) (σ : St) : orE b (.bool true, σ) = some (.bool true, σ) := rfl
theorem orE_f (b : SE) (σ : St) : orE b (.bool false, σ) = b σ := rfl
noncomputable def thenS (ss : List SS) (p : Fl × St) : Option (Fl × St) := match p.1 with
  | .next => seq ss p.2
  | f => some (f, p.2)
theorem then_n (ss : List SS) (σ : St) : thenS ss (.next, σ) = seq ss σ := rfl
theorem then_c (ss : List SS) (σ : St) : thenS ss (.cont, σ) = some (.cont, σ) := rfl
theorem then_r (ss : List SS) (v : AV) (σ : St) : thenS ss (.ret v, σ) = some (.ret v, σ) := rfl
theorem neg_i (i : Int) (σ : St) : negV (.int i, σ) = some (.int (-i), σ) := rfl
theorem not_b (b : Bool) (σ : St) : notV (.bool b, σ) = some (.bool !b, σ) := rfl
section
variable {σ σ' σ'' : St} {h : List AO} {l : Str → Option AV} {e a b o i : SE} {x : Str} {v w : AV}
theorem upd_ap (l : Str → Option AV) (x y : Str) (v : AV) : upd l x v y = if y = x then some v else l y := rfl
theorem env_cons (y : Str) (v : AV) (r : List (Str × AV)) (x : Str) : env ((y, v) :: r) x = if x = y then some v else env r x := by
  unfold env
  rw [List.lookup_cons]
  by_cases q : x = y
  · subst q; simp
  · have : (x == y) = false := by simpa using q
    rw [this, if_neg q]
theorem lit_ap (v : AV) (σ : St) : lit v σ = some (v, σ) := rfl
theorem var_ap (x : Str) (h : List AO) (l : Str → Option AV) : var x ⟨h, l⟩ = (l x).map fun v => (v, ⟨h, l⟩) := rfl
theorem ev_var {x : Str} {h : List AO} {l : Str → Option AV} {v : AV} (q : l x = some v) : var x ⟨h, l⟩ = some (v, ⟨h, l⟩) := by rw [var_ap, q]; rfl
theorem att_ap (e : SE) (x : Str) (σ : St) : att e x σ = (e σ).bind fun p => (attr theQ p.1 x p.2).map fun v => (v, p.2) := rfl
theorem bino_ap (op : Operator) (a b : SE) (σ : St) : bino op a b σ = (a σ).bind fun p => (b p.2).bind fun q => bin op p.1 q.1 q.2 := rfl
theorem negE_ap (a : SE) (σ : St) : negE a σ = (a σ).bind negV := rfl
theorem notE_ap (a : SE) (σ : St) : notE a σ = (a σ).bind notV := rfl
theorem ifE_ap (t : STt) (a b : SE) (σ : St) : ifE t a b σ = (t σ).bind (ifK a b) := by
  show (t σ).bind _ = _
  cases t σ with
  | none => rfl
  | some p => obtain ⟨b, σ'⟩ := p; cases b <;> rfl
theorem cmpE_ap (op : CmpOp) (a b : SE) (σ : St) : cmpE op a b σ = (a σ).bind fun p => (b p.2).bind fun q => (cmp op p.1 q.1 q.2).map fun v => (.bool v, q.2) := rfl
theorem evl_nil (σ : St) : evl [] σ = some ([], σ) := rfl
theorem evl_cons (e : SE) (es : List SE) (σ : St) : evl (e :: es) σ = (e σ).bind fun p => (evl es p.2).bind fun q => some (p.1 :: q.1, q.2) := rfl
theorem callf_ap (fn : SF) (k : Nat) (args : List SE) (σ : St) : callf fn k args σ = (evl args σ).bind fun q => fn k q.1 q.2 := rfl
theorem bcall_ap (f : AV) (args : List SE) (σ : St) : bcall f args σ = (evl args σ).bind fun q => callB f q.1 q.2 := rfl
theorem sub_ap (o i : SE) (σ : St) : sub o i σ = (o σ).bind fun p => (i p.2).bind fun q => (item p.1 q.1 q.2).map fun v => (v, q.2) := rfl
theorem slc_ap (o lo hi : SE) (σ : St) : slc o lo hi σ = (o σ).bind fun p => (lo p.2).bind fun q => (hi q.2).bind fun z => slice p.1 q.1 z.1 z.2 := rfl
theorem lst_ap (es : List SE) (σ : St) : lst es σ = (evl es σ).bind fun p => some (.ref p.2.h.length, ⟨p.2.h ++ [.list p.1], p.2.loc⟩) := rfl
theorem tupE_ap (es : List SE) (σ : St) : tupE es σ = (evl es σ).bind fun p => some (.ref p.2.h.length, ⟨p.2.h ++ [.tup p.1], p.2.loc⟩) := rfl
theorem dictE_ap (σ : St) : dictE σ = some (.ref σ.h.length, ⟨σ.h ++ [.idict []], σ.loc⟩) := rfl
theorem tval_ap (e : SE) (σ : St) : tval e σ = (e σ).bind boolV := rfl
theorem tnot_ap (t : STt) (σ : St) : tnot t σ = (t σ).map fun p => (!p.1, p.2) := rfl
theorem tif_ap (t a b : STt) (σ : St) : tif t a b σ = (t σ).bind fun p => if p.1 then a p.2 else b p.2 := rfl
theorem tcmp_ap (op : CmpOp) (a b : SE) (σ : St) : tcmp op a b σ = (a σ).bind fun p => (b p.2).bind fun q => (cmp op p.1 q.1 q.2).map fun v => (v, q.2) := rfl
theorem tand2 (s t : STt) (σ : St) : tAll .And [s, t] σ = (s σ).bind (andK t) := by
  show (s σ).bind _ = _
  cases s σ with
  | none => rfl
  | some p =>
    obtain ⟨b, σ'⟩ := p
    cases b with
    | false => rfl
    | true =>
      show (t σ').bind _ = t σ'
      cases t σ' with
      | none => rfl
      | some p => obtain ⟨b, σ''⟩ := p; cases b <;> rfl
theorem tor2 (s t : STt) (σ : St) : tAll .Or [s, t] σ = (s σ).bind (orK t) := by
  show (s σ).bind _ = _
  cases s σ with
  | none => rfl
  | some p =>
    obtain ⟨b, σ'⟩ := p
    cases b with
    | true => rfl
    | false =>
      show (t σ').bind _ = t σ'
      cases t σ' with
      | none => rfl
      | some p => obtain ⟨b, σ''⟩ := p; cases b <;> rfl
theorem and_ap (a b : SE) (σ : St) : bopE .And a b σ = (a σ).bind (andE b) := by
  show (a σ).bind _ = _
  cases a σ with
  | none => rfl
  | some p =>
    obtain ⟨v, σ'⟩ := p
    cases v <;> try rfl
    rename_i c; cases c <;> rfl
theorem or_ap (a b : SE) (σ : St) : bopE .Or a b σ = (a σ).bind (orE b) := by
  show (a σ).bind _ = _
  cases a σ with
  | none => rfl
  | some p =>
    obtain ⟨v, σ'⟩ := p
    cases v <;> try rfl
    rename_i c; cases c <;> rfl
theorem sE_ap (e : SE) (σ : St) : sE e σ = (e σ).map fun p => (.next, p.2) := rfl
theorem sRet_ap (e : SE) (σ : St) : sRet e σ = (e σ).map fun p => (.ret p.1, p.2) := rfl
theorem setl_ap (x : Str) (e : SE) (σ : St) : setl x e σ = (e σ).bind fun p => some (.next, ⟨p.2.h, upd p.2.loc x p.1⟩) := rfl
theorem setc_ap (i : Nat) (e : SE) (σ : St) : setc i e σ = (e σ).bind fun p => (asgC i p.1 p.2).map fun σ' => (.next, σ') := rfl
theorem asgA_ap (o : SE) (x : Str) (v : AV) (σ : St) : asgA o x v σ = (o σ).bind fun q => setAttr theQ q.1 x v q.2 := rfl
theorem seta_ap (o : SE) (x : Str) (e : SE) (σ : St) : seta o x e σ = (e σ).bind fun p => (asgA o x p.1 p.2).map fun σ' => (.next, σ') := rfl
theorem asgI_ap (o i : SE) (v : AV) (σ : St) : asgI o i v σ = (o σ).bind fun p => (i p.2).bind fun q => setItem p.1 q.1 v q.2 := rfl
theorem seti_ap (o i e : SE) (σ : St) : seti o i e σ = (e σ).bind fun p => (asgI o i p.1 p.2).map fun σ' => (.next, σ') := rfl
theorem augl_ap (x : Str) (op : Operator) (e : SE) (h : List AO) (l : Str → Option AV) : augl x op e ⟨h, l⟩ = (l x).bind fun old => (e ⟨h, l⟩).bind fun p => (inpl op old p.1 p.2).bind fun q => some (.next, ⟨q.2.h, upd q.2.loc x q.1⟩) := rfl
theorem auga_ap (o : SE) (x : Str) (op : Operator) (e : SE) (σ : St) : auga o x op e σ = (o σ).bind fun p => (attr theQ p.1 x p.2).bind fun old => (e p.2).bind fun q => (inpl op old q.1 q.2).bind fun z => (setAttr theQ p.1 x z.1 z.2).map fun σ' => (.next, σ') := rfl
theorem iff_ap (t : STt) (a b : List SS) (σ : St) : iff' t a b σ = (t σ).bind (brS a b) := by
  show (t σ).bind _ = _
  cases t σ with
  | none => rfl
  | some p => obtain ⟨b, σ'⟩ := p; cases b <;> rfl
theorem forl_ap (x : Str) (e : SE) (b : List SS) (σ : St) : forl x e b σ = (e σ).bind fun p => (mkIter p.1 p.2).bind fun q => forN x q.1 (seq b) loops q.2 := rfl
theorem whl_ap (t : STt) (b : List SS) (σ : St) : whl t b σ = whileN t (seq b) loops σ := rfl
theorem seq_nil (σ : St) : seq [] σ = some (.next, σ) := rfl
theorem seq_cons (s : SS) (ss : List SS) (σ : St) : seq (s :: ss) σ = (s σ).bind (thenS ss) := rfl
theorem seq_next {s : SS} {ss : List SS} {σ σ' : St} (h : s σ = some (.next, σ')) : seq (s :: ss) σ = seq ss σ' := by rw [seq_cons, h]; rfl
theorem seq_ret {s : SS} {ss : List SS} {σ σ' : St} {v : AV} (h : s σ = some (.ret v, σ')) : seq (s :: ss) σ = some (.ret v, σ') := by rw [seq_cons, h]; rfl
theorem seq_cont {s : SS} {ss : List SS} {σ σ' : St} (h : s σ = some (.cont, σ')) : seq (s :: ss) σ = some (.cont, σ') := by rw [seq_cons, h]; rfl
theorem lmeth {fn : SF} {args : List SE} {k : Nat} {xs : List AV} (ho : o σ = some (.ref k, σ')) (hk : σ'.h[k]? = some (.list xs)) : meth fn o x args σ = (evl args σ').bind fun q => listM x k q.1 q.2 := by
  unfold meth; rw [ho]
  show methE fn x args (.ref k) σ' = _
  unfold methE; simp only [hk]
theorem imeth {fn : SF} {args : List SE} {k c d m : Nat} {fs : List (Str × AV)} {K : Cls} (ho : o σ = some (.ref k, σ')) (hk : σ'.h[k]? = some (.inst c d)) (hd : σ'.h[d]? = some (.flds fs)) (hc : theQ.cls c = some K) (hg : getF x fs = none) (hm : K.meths.lookup x = some m) :
    meth fn o x args σ = (evl args σ').bind fun q => fn m (.ref k :: q.1) q.2 := by
  unfold meth; rw [ho]
  show methE fn x args (.ref k) σ' = _
  unfold methE; simp only [hk, flds_at hd, hc, hg, Option.bind_some, Option.isSome_none, Bool.false_eq_true, if_false, hm]
theorem newc_ap {fn : SF} {c i : Nat} {args : List SE} {vs : List AV} (he : evl args σ = some (vs, σ')) (hn : σ'.h ≠ []) :
    newc fn c i args σ = (fn i (.ref (σ'.h.length + 1) :: vs) ⟨σ'.h ++ [.flds [], .inst c σ'.h.length], σ'.loc⟩).bind fun p => match p.1 with | .none => some (.ref (σ'.h.length + 1), p.2) | _ => none := by
  unfold newc; rw [he]
  have : σ'.h.isEmpty = false := by cases q : σ'.h with | nil => exact absurd q hn | cons _ _ => rfl
  simp only [Option.bind_some, this, Bool.false_eq_true, if_false, St.alloc, List.append_assoc, List.cons_append, List.nil_append]
  first | done | rfl
theorem frun_ret {b : SS} {l : Str → Option AV} {v : AV} {σ σ' : St} (h : b ⟨σ.h, l⟩ = some (.ret v, σ')) : frun b l σ = some (v, ⟨σ'.h, σ.loc⟩) := by unfold frun; rw [h]; rfl
theorem frun_next {b : SS} {l : Str → Option AV} {σ σ' : St} (h : b ⟨σ.h, l⟩ = some (.next, σ')) : frun b l σ = some (.none, ⟨σ'.h, σ.loc⟩) := by unfold frun; rw [h]; rfl
end
noncomputable def Up (S : List Nat) (h h' : List AO) : Prop := h.length ≤ h'.length ∧ ∀ j, j < h.length → j ∉ S → h'[j]? = h[j]?
theorem Up.refl (S : List Nat) (h : List AO) : Up S h h := ⟨Nat.le_refl _, fun _ _ _ => rfl⟩
theorem Up.trans {S : List Nat} {a b c : List AO} (x : Up S a b) (y : Up S b c) : Up S a c :=
  ⟨Nat.le_trans x.1 y.1, fun j hj hs => (y.2 j (Nat.lt_of_lt_of_le hj x.1) hs).trans (x.2 j hj hs)⟩
theorem Up.get {S : List Nat} {h h' : List AO} (x : Up S h h') {j : Nat} {o : AO} (e : h[j]? = some o) (hs : j ∉ S) : h'[j]? = some o := (x.2 j (lt_of e) hs).trans e
theorem Up.app (S : List Nat) (h xs : List AO) : Up S h (h ++ xs) := ⟨by simp, fun j hj _ => get_lt hj⟩
theorem Up.set {S : List Nat} {h h' : List AO} (x : Up S h h') {i : Nat} {o : AO} (hi : i ∈ S ∨ h.length ≤ i) : Up S h (h'.set i o) :=
  ⟨by simpa using x.1, fun j hj hs => by rw [get_set_ne (by rintro rfl; rcases hi with hi | hi; exact hs hi; lia)]; exact x.2 j hj hs⟩
theorem Up.appR {S : List Nat} {h h' : List AO} (x : Up S h h') (xs : List AO) : Up S h (h' ++ xs) := x.trans (Up.app S h' xs)
theorem Up.mono {S T : List Nat} {h h' : List AO} (x : Up S h h') (k : ∀ j ∈ S, j < h.length → j ∈ T) : Up T h h' := ⟨x.1, fun j hj hs => x.2 j hj fun q => hs (k j q hj)⟩
theorem mkIter_list {h : List AO} {l : Str → Option AV} {b : Nat} {xs : List AV} (e : h[b]? = some (.list xs)) (n : xs.length ≤ szMax) : mkIter (.ref b) ⟨h, l⟩ = some (.ref h.length, ⟨h ++ [.liter b 0], l⟩) := by
  refine iter_at ?_
  unfold iterAt; simp only [e]; exact if_pos n
theorem next_list {h : List AO} {l : Str → Option AV} {j b i : Nat} {xs : List AV} (ej : h[j]? = some (.liter b i)) (e : h[b]? = some (.list xs)) (n : xs.length ≤ szMax) :
    next (.ref j) ⟨h, l⟩ = match xs[i]? with | some v => some (some v, ⟨h.set j (.liter b (i + 1)), l⟩) | none => some (none, ⟨h.set j .junk, l⟩) := by
  unfold next nextAt; simp only [ej]; unfold nextL; simp only [list_at e, Option.bind_some, n, if_true]; rfl
theorem forN_list {x : Str} {b : Nat} {xs : List AV} {body : SS} {j : Nat} (n : xs.length ≤ szMax) (J : Nat → List AO → (Str → Option AV) → Prop)
    (look : ∀ i h l, J i h l → h[b]? = some (.list xs)) (stab : ∀ i h l o, J i h l → (∃ k, h[j]? = some (.liter b k)) → J i (h.set j o) l)
    (turn : ∀ i h l v, J i h l → xs[i]? = some v → h[j]? = some (.liter b (i + 1)) → ∃ f h' l', body ⟨h, upd l x v⟩ = some (f, ⟨h', l'⟩) ∧ (f = .next ∨ f = .cont) ∧ h'[j]? = h[j]? ∧ J (i + 1) h' l') :
    ∀ k i h l m, xs.length ≤ i + k → k < m → h[j]? = some (.liter b i) → i ≤ xs.length → J i h l → ∃ h' l', forN x (.ref j) body m ⟨h, l⟩ = some (.next, ⟨h', l'⟩) ∧ J xs.length h' l' := by
  intro k
  induction k with
  | zero =>
    intro i h l m hk hm hj hi HJ
    obtain ⟨m, rfl⟩ := pos_ex ‹_ < m›
    have : xs[i]? = none := List.getElem?_eq_none (by lia)
    refine ⟨h.set j .junk, l, ?_, ?_⟩
    · unfold forN
      rw [next_list hj (look i h l HJ) n, this]; rfl
    · have : i = xs.length := by lia
      subst this; exact stab _ _ _ _ HJ ⟨_, hj⟩
  | succ k ih =>
    intro i h l m hk hm hj hi HJ
    obtain ⟨m, rfl⟩ := pos_ex ‹_ < m›
    cases hv : xs[i]? with
    | none =>
      refine ⟨h.set j .junk, l, ?_, ?_⟩
      · unfold forN
        rw [next_list hj (look i h l HJ) n, hv]; rfl
      · have : i = xs.length := by have := List.getElem?_eq_none_iff.mp hv; lia
        subst this; exact stab _ _ _ _ HJ ⟨_, hj⟩
    | some v =>
      have hlt := (List.getElem?_eq_some_iff.mp hv).1
      have hj2 : (h.set j (.liter b (i + 1)))[j]? = some (.liter b (i + 1)) := get_set hj
      obtain ⟨f, h', l', e, hf, e2, HJ'⟩ := turn i _ l v (stab i h l (.liter b (i + 1)) HJ ⟨_, hj⟩) hv hj2
      obtain ⟨h'', l'', e3, HJ''⟩ := ih (i + 1) h' l' m (by lia) (by lia) (e2.trans hj2) (by lia) HJ'
      refine ⟨h'', l'', ?_, HJ''⟩
      unfold forN
      rw [next_list hj (look i h l HJ) n, hv]
      simp only [Option.bind_some, e]
      rcases hf with rfl | rfl <;> exact e3
theorem forN_range {x : Str} {N : Nat} {body : SS} {j : Nat} (J : Nat → List AO → (Str → Option AV) → Prop)
    (stab : ∀ i h l o, J i h l → (∃ y z, h[j]? = some (.riter y z)) → J i (h.set j o) l)
    (turn : ∀ i h l, i < N → J i h l → (∃ y z, h[j]? = some (.riter y z)) → ∃ f h' l', body ⟨h, upd l x (.int i)⟩ = some (f, ⟨h', l'⟩) ∧ (f = .next ∨ f = .cont) ∧ h'[j]? = h[j]? ∧ J (i + 1) h' l') :
    ∀ k i h l m, N = i + k → k < m → h[j]? = some (.riter i k) → J i h l → ∃ h' l', forN x (.ref j) body m ⟨h, l⟩ = some (.next, ⟨h', l'⟩) ∧ J N h' l' := by
  intro k
  induction k with
  | zero =>
    intro i h l m hk hm hj HJ
    obtain ⟨m, rfl⟩ := pos_ex ‹_ < m›
    refine ⟨h.set j .junk, l, ?_, ?_⟩
    · unfold forN next nextAt
      simp only [hj]; rfl
    · have : i = N := by lia
      subst this; exact stab _ _ _ _ HJ ⟨_, _, hj⟩
  | succ k ih =>
    intro i h l m hk hm hj HJ
    obtain ⟨m, rfl⟩ := pos_ex ‹_ < m›
    have hj2 : (h.set j (.riter ((i : Int) + 1) ((k : Int) + 1 - 1)))[j]? = some (.riter ((i : Int) + 1) ((k : Int) + 1 - 1)) := get_set hj
    obtain ⟨f, h', l', e, hf, e2, HJ'⟩ := turn i _ l (by lia) (stab i h l (.riter ((i : Int) + 1) ((k : Int) + 1 - 1)) HJ ⟨_, _, hj⟩) ⟨_, _, hj2⟩
    have e4 : h'[j]? = some (.riter ((i + 1 : Nat) : Int) (k : Int)) := by rw [e2, hj2]; congr 2; lia
    obtain ⟨h'', l'', e3, HJ''⟩ := ih (i + 1) h' l' m (by lia) (by lia) e4 HJ'
    refine ⟨h'', l'', ?_, HJ''⟩
    unfold forN next nextAt
    simp only [hj]
    unfold nextR
    have : (0 : Int) < ((k + 1 : Nat) : Int) := by lia
    rw [if_pos this]
    have q : ({ h := h, loc := l } : St).put j (.riter ((i : Int) + 1) (((k + 1 : Nat) : Int) - 1)) = ⟨h.set j (.riter ((i : Int) + 1) ((k : Int) + 1 - 1)), l⟩ := by
      unfold St.put; congr 3
    simp only [Option.bind_some, q, e]
    rcases hf with rfl | rfl <;> exact e3
theorem append_ap {h : List AO} {l : Str → Option AV} {a : Nat} {xs : List AV} {v : AV} (e : h[a]? = some (.list xs)) (n : xs.length ≤ szMax) : listM (Str.ofString "append") a [v] ⟨h, l⟩ = some (.none, ⟨h.set a (.list (xs ++ [v])), l⟩) := app_m e n
theorem comp_loop {x : Str} {b : Nat} {xs : List AV} {t : STt} {elt : SE} {h : List AO} (n : xs.length ≤ szMax) (hb : h[b]? = some (.list xs)) (p : AV → Bool) (f : AV → AV)
    (ht : ∀ v ∈ xs, ∀ ys l, t ⟨h ++ ys, upd l x v⟩ = some (p v, ⟨h ++ ys, upd l x v⟩))
    (he : ∀ v ∈ xs, p v = true → ∀ ys l, elt ⟨h ++ ys, upd l x v⟩ = some (f v, ⟨h ++ ys, upd l x v⟩)) :
    ∀ k i m l, xs.length ≤ i + k → k < m → i ≤ xs.length → ∃ l', compN x (.ref h.length) (h.length + 1) t elt m ⟨h ++ [.liter b i, .list (((xs.take i).filter p).map f)], l⟩ = some ⟨h ++ [.junk, .list ((xs.filter p).map f)], l'⟩ := by
  intro k
  have hl := lt_of hb
  induction k with
  | zero =>
    intro i m l hk hm hi
    obtain ⟨m, rfl⟩ := pos_ex ‹_ < m›
    have hn : xs[i]? = none := List.getElem?_eq_none (by lia)
    have : i = xs.length := by lia
    subst this
    refine ⟨l, ?_⟩
    unfold compN
    rw [next_list (b := b) (i := xs.length) get_app0 ((get_lt hl).trans hb) n, hn]
    simp only [Option.bind_some, set_app0, List.take_length, List.set_cons_zero]
  | succ k ih =>
    intro i m l hk hm hi
    by_cases hlt : i < xs.length
    · obtain ⟨m, rfl⟩ := pos_ex ‹_ < m›
      have hv : xs[i]? = some xs[i] := List.getElem?_eq_getElem hlt
      have hm' : xs[i] ∈ xs := List.getElem_mem hlt
      obtain ⟨l', e⟩ := ih (i + 1) m (upd l x xs[i]) (by lia) (by lia) (by lia)
      refine ⟨l', ?_⟩
      unfold compN
      rw [next_list (b := b) (i := i) get_app0 ((get_lt hl).trans hb) n, hv]
      simp only [Option.bind_some, set_app0, List.set_cons_zero]
      rw [ht _ hm']
      simp only [Option.bind_some]
      have tk : xs.take (i + 1) = xs.take i ++ [xs[i]] := by rw [List.take_add_one, hv]; rfl
      rw [tk, List.filter_append, List.map_append] at e
      by_cases hp : p xs[i] = true
      · rw [if_pos hp, he _ hm' hp]
        simp only [Option.bind_some]
        rw [append_ap (xs := ((xs.take i).filter p).map f) (get_app 1) (by simp; have := List.length_filter_le p (xs.take i); simp at this; lia)]
        simp only [Option.bind_some]
        rw [set_app]
        simpa [hp] using e
      · rw [if_neg hp]
        simpa [hp] using e
    · have : i = xs.length := by lia
      subst this
      obtain ⟨m, rfl⟩ := pos_ex ‹_ < m›
      have hn : xs[xs.length]? = none := List.getElem?_eq_none (by lia)
      refine ⟨l, ?_⟩
      unfold compN
      rw [next_list (b := b) (i := xs.length) get_app0 ((get_lt hl).trans hb) n, hn]
      simp only [Option.bind_some, set_app0, List.take_length, List.set_cons_zero]
theorem comp_ok {x : Str} {iter : SE} {ts : List STt} {elt : SE} {σ : St} {b : Nat} {xs : List AV} {h : List AO} {l : Str → Option AV} (hi : iter σ = some (.ref b, ⟨h, l⟩)) (hb : h[b]? = some (.list xs)) (n : xs.length ≤ szMax) (p : AV → Bool) (f : AV → AV)
    (ht : ∀ v ∈ xs, ∀ ys l, trl ts ⟨h ++ ys, upd l x v⟩ = some (p v, ⟨h ++ ys, upd l x v⟩))
    (he : ∀ v ∈ xs, p v = true → ∀ ys l, elt ⟨h ++ ys, upd l x v⟩ = some (f v, ⟨h ++ ys, upd l x v⟩)) :
    comp x iter ts elt σ = some (.ref (h.length + 1), ⟨h ++ [.junk, .list ((xs.filter p).map f)], l⟩) := by
  unfold comp
  rw [hi]
  simp only [Option.bind_some]
  rw [mkIter_list hb n]
  simp only [Option.bind_some, St.alloc]
  obtain ⟨l', e⟩ := comp_loop n hb p f ht he (xs.length) 0 loops (fun _ => none) (by lia) (by simp [szMax] at n; unfold loops; lia) (by lia)
  have : (h ++ [AO.liter b 0]).length = h.length + 1 := by simp
  rw [this]
  have q : h ++ [AO.liter b 0] ++ [AO.list []] = h ++ [AO.liter b 0, AO.list (((xs.take 0).filter p).map f)] := by simp
  rw [q, e]
  rfl
theorem trl_nil (σ : St) : trl [] σ = some (true, σ) := rfl
theorem trl_one (t : STt) (σ : St) : trl [t] σ = t σ := by
  show ((t σ).bind fun p => if p.1 then some (true, p.2) else some (false, p.2)) = _
  cases t σ with
  | none => rfl
  | some p => obtain ⟨b, σ'⟩ := p; cases b <;> rfl
theorem comp_map {x : Str} {iter : SE} {elt : SE} {σ : St} {b : Nat} {xs : List AV} {h : List AO} {l : Str → Option AV} (hi : iter σ = some (.ref b, ⟨h, l⟩)) (hb : h[b]? = some (.list xs)) (n : xs.length ≤ szMax) (f : AV → AV)
    (he : ∀ v ∈ xs, ∀ ys l, elt ⟨h ++ ys, upd l x v⟩ = some (f v, ⟨h ++ ys, upd l x v⟩)) :
    comp x iter [] elt σ = some (.ref (h.length + 1), ⟨h ++ [.junk, .list (xs.map f)], l⟩) := by
  have := comp_ok (ts := []) hi hb n (fun _ => true) f (fun _ _ _ _ => rfl) (fun v hv _ => he v hv)
  rwa [List.filter_eq_self.mpr (fun _ _ => rfl)] at this
end Mine.L
end
section
namespace Mine.L
noncomputable def hasAttr (c : Nat) (x : Str) : Bool := match theQ.cls c with
  | some K => K.attrs.contains x
  | none => false
noncomputable def notB : AV → Bool
  | .bltn _ => false
  | _ => true
theorem attr_of {h : List AO} {l : Str → Option AV} {a c d : Nat} {fs : List (Str × AV)} {x : Str} {v : AV} (h1 : h[a]? = some (.inst c d)) (h2 : h[d]? = some (.flds fs)) (hx : hasAttr c x = true) (hv : getF x fs = some v) (nb : notB v = true) :
    attr theQ (.ref a) x ⟨h, l⟩ = some v := by
  unfold hasAttr at hx
  cases hc : theQ.cls c with
  | none => rw [hc] at hx; cases hx
  | some K =>
    rw [hc] at hx
    have hx : K.attrs.contains x = true := hx
    unfold attr
    simp only [inst_at h1, hc, flds_at h2, Option.bind_some, hx, if_true, hv]
    cases v <;> first | rfl | cases nb
theorem setAttr_of {h : List AO} {l : Str → Option AV} {a c d : Nat} {fs gs : List (Str × AV)} {x : Str} {v : AV} (h1 : h[a]? = some (.inst c d)) (h2 : h[d]? = some (.flds fs)) (hx : hasAttr c x = true) (hl : fs.length ≤ 100) (hp : putF x v fs = gs) :
    setAttr theQ (.ref a) x v ⟨h, l⟩ = some ⟨h.set d (.flds gs), l⟩ := by
  unfold hasAttr at hx
  cases hc : theQ.cls c with
  | none => rw [hc] at hx; cases hx
  | some K =>
    rw [hc] at hx
    have hx : K.attrs.contains x = true := hx
    unfold setAttr
    simp only [inst_at h1, hc, flds_at h2, Option.bind_some, hx, hl, and_self, if_true, hp]
    rfl
noncomputable def rf (l : List Nat) : List AV := l.map .ref
noncomputable def bv : Option Nat → AV
  | none => .none
  | some b => .ref b
structure TI where
  num : Int
  form : Str
  base : Option Nat
  fs : List Nat
  ps : List Nat
  mod : Str
  size : Int
structure TX where
  length : Int
  level : Int
  label : Str
noncomputable def tyF (a : Nat) (t : TI) (x : TX) (ex : Int) : List (Str × AV) := [(Str.ofString "number", .int t.num), (Str.ofString "form", .str t.form), (Str.ofString "size", .int t.size), (Str.ofString "base", bv t.base), (Str.ofString "length", .int x.length),
  (Str.ofString "fields", .ref (a + 1)), (Str.ofString "level", .int x.level), (Str.ofString "params", .ref (a + 2)), (Str.ofString "module", .str t.mod), (Str.ofString "label", .str x.label), (Str.ofString "hidden", .ref (a + 3)), (Str.ofString "exno", .int ex)]
structure IsTy (h : List AO) (a : Nat) (t : TI) (x : TX) (ex : Int) : Prop where
  pos : 0 < a
  inst : h[a]? = some (.inst 1 (a - 1))
  flds : h[a - 1]? = some (.flds (tyF a t x ex))
  fs : h[a + 1]? = some (.list (rf t.fs))
  ps : h[a + 2]? = some (.list (rf t.ps))
section
variable {h : List AO} {l : Str → Option AV} {a : Nat} {t : TI} {x : TX} {ex : Int} (H : IsTy h a t x ex)
include H
theorem IsTy.rd : (∀ l, attr theQ (.ref a) (Str.ofString "number") ⟨h, l⟩ = some (.int t.num)) ∧ (∀ l, attr theQ (.ref a) (Str.ofString "form") ⟨h, l⟩ = some (.str t.form)) ∧ (∀ l, attr theQ (.ref a) (Str.ofString "size") ⟨h, l⟩ = some (.int t.size)) ∧
    (∀ l, attr theQ (.ref a) (Str.ofString "base") ⟨h, l⟩ = some (bv t.base)) ∧ (∀ l, attr theQ (.ref a) (Str.ofString "length") ⟨h, l⟩ = some (.int x.length)) ∧ (∀ l, attr theQ (.ref a) (Str.ofString "fields") ⟨h, l⟩ = some (.ref (a + 1))) ∧
    (∀ l, attr theQ (.ref a) (Str.ofString "level") ⟨h, l⟩ = some (.int x.level)) ∧ (∀ l, attr theQ (.ref a) (Str.ofString "params") ⟨h, l⟩ = some (.ref (a + 2))) ∧ (∀ l, attr theQ (.ref a) (Str.ofString "module") ⟨h, l⟩ = some (.str t.mod)) ∧
    (∀ l, attr theQ (.ref a) (Str.ofString "exno") ⟨h, l⟩ = some (.int ex)) :=
  ⟨fun _ => attr_of H.inst H.flds (by kernel_rfl) (by kernel_rfl) rfl, fun _ => attr_of H.inst H.flds (by kernel_rfl) (by kernel_rfl) rfl, fun _ => attr_of H.inst H.flds (by kernel_rfl) (by kernel_rfl) rfl,
    fun _ => attr_of H.inst H.flds (by kernel_rfl) (by kernel_rfl) (by cases t.base <;> rfl), fun _ => attr_of H.inst H.flds (by kernel_rfl) (by kernel_rfl) rfl, fun _ => attr_of H.inst H.flds (by kernel_rfl) (by kernel_rfl) rfl,
    fun _ => attr_of H.inst H.flds (by kernel_rfl) (by kernel_rfl) rfl, fun _ => attr_of H.inst H.flds (by kernel_rfl) (by kernel_rfl) rfl, fun _ => attr_of H.inst H.flds (by kernel_rfl) (by kernel_rfl) rfl, fun _ => attr_of H.inst H.flds (by kernel_rfl) (by kernel_rfl) rfl⟩
theorem IsTy.wr : (∀ l v, setAttr theQ (.ref a) (Str.ofString "exno") (.int v) ⟨h, l⟩ = some ⟨h.set (a - 1) (.flds (tyF a t x v)), l⟩) ∧
    (∀ l v, setAttr theQ (.ref a) (Str.ofString "size") (.int v) ⟨h, l⟩ = some ⟨h.set (a - 1) (.flds (tyF a { t with size := v } x ex)), l⟩) ∧
    (∀ l v, setAttr theQ (.ref a) (Str.ofString "length") (.int v) ⟨h, l⟩ = some ⟨h.set (a - 1) (.flds (tyF a t { x with length := v } ex)), l⟩) ∧
    (∀ l v, setAttr theQ (.ref a) (Str.ofString "level") (.int v) ⟨h, l⟩ = some ⟨h.set (a - 1) (.flds (tyF a t { x with level := v } ex)), l⟩) ∧
    (∀ l v, setAttr theQ (.ref a) (Str.ofString "label") (.str v) ⟨h, l⟩ = some ⟨h.set (a - 1) (.flds (tyF a t { x with label := v } ex)), l⟩) ∧
    (∀ l v, setAttr theQ (.ref a) (Str.ofString "module") (.str v) ⟨h, l⟩ = some ⟨h.set (a - 1) (.flds (tyF a { t with mod := v } x ex)), l⟩) ∧
    (∀ l v, setAttr theQ (.ref a) (Str.ofString "base") (bv v) ⟨h, l⟩ = some ⟨h.set (a - 1) (.flds (tyF a { t with base := v } x ex)), l⟩) :=
  ⟨fun _ _ => setAttr_of H.inst H.flds (by kernel_rfl) (Nat.le_of_ble_eq_true rfl) (by kernel_rfl), fun _ _ => setAttr_of H.inst H.flds (by kernel_rfl) (Nat.le_of_ble_eq_true rfl) (by kernel_rfl), fun _ _ => setAttr_of H.inst H.flds (by kernel_rfl) (Nat.le_of_ble_eq_true rfl) (by kernel_rfl),
    fun _ _ => setAttr_of H.inst H.flds (by kernel_rfl) (Nat.le_of_ble_eq_true rfl) (by kernel_rfl), fun _ _ => setAttr_of H.inst H.flds (by kernel_rfl) (Nat.le_of_ble_eq_true rfl) (by kernel_rfl), fun _ _ => setAttr_of H.inst H.flds (by kernel_rfl) (Nat.le_of_ble_eq_true rfl) (by kernel_rfl),
    fun _ _ => setAttr_of H.inst H.flds (by kernel_rfl) (Nat.le_of_ble_eq_true rfl) (by kernel_rfl)⟩
theorem IsTy.frame {h' : List AO} (k : ∀ j, a - 1 ≤ j → j ≤ a + 2 → h'[j]? = h[j]?) : IsTy h' a t x ex :=
  ⟨H.pos, (k _ (by lia) (by lia)).trans H.inst, (k _ (by lia) (by lia)).trans H.flds, (k _ (by lia) (by lia)).trans H.fs, (k _ (by lia) (by lia)).trans H.ps⟩
theorem IsTy.put {t' : TI} {x' : TX} {ex' : Int} (e1 : t'.fs = t.fs) (e2 : t'.ps = t.ps) : IsTy (h.set (a - 1) (.flds (tyF a t' x' ex'))) a t' x' ex' := by
  have := H.pos
  refine ⟨H.pos, (get_set_ne (by lia)).trans H.inst, get_set H.flds, ?_, ?_⟩
  · rw [get_set_ne (by lia), e1]; exact H.fs
  · rw [get_set_ne (by lia), e2]; exact H.ps
theorem IsTy.lt : a + 2 < h.length := lt_of H.ps
end
structure OI where
  name : Str
  kind : Str
  ty : Nat
  ex : Bool
structure OX where
  ro : AV
  md : AV
  va : AV
  sl : AV
  off : AV
  ip : AV
noncomputable def obF (o : OI) (x : OX) (nm : Int) : List (Str × AV) := [(Str.ofString "name", .str o.name), (Str.ofString "kind", .str o.kind), (Str.ofString "type", .ref o.ty), (Str.ofString "place", .int 0), (Str.ofString "exported", .bool o.ex), (Str.ofString "readonly", x.ro),
  (Str.ofString "level", .int 0), (Str.ofString "module", x.md), (Str.ofString "value", x.va), (Str.ofString "slot", x.sl), (Str.ofString "offset", x.off), (Str.ofString "number", .int nm), (Str.ofString "isparam", x.ip), (Str.ofString "narrowed", .none)]
structure IsOb (h : List AO) (a : Nat) (o : OI) (x : OX) (nm : Int) : Prop where
  pos : 0 < a
  inst : h[a]? = some (.inst 2 (a - 1))
  flds : h[a - 1]? = some (.flds (obF o x nm))
section
variable {h : List AO} {l : Str → Option AV} {a : Nat} {o : OI} {x : OX} {nm : Int} (H : IsOb h a o x nm)
include H
theorem IsOb.rd : (∀ l, attr theQ (.ref a) (Str.ofString "name") ⟨h, l⟩ = some (.str o.name)) ∧ (∀ l, attr theQ (.ref a) (Str.ofString "kind") ⟨h, l⟩ = some (.str o.kind)) ∧ (∀ l, attr theQ (.ref a) (Str.ofString "type") ⟨h, l⟩ = some (.ref o.ty)) ∧
    (∀ l, attr theQ (.ref a) (Str.ofString "exported") ⟨h, l⟩ = some (.bool o.ex)) ∧ (∀ l, attr theQ (.ref a) (Str.ofString "number") ⟨h, l⟩ = some (.int nm)) :=
  ⟨fun _ => attr_of H.inst H.flds (by kernel_rfl) (by kernel_rfl) rfl, fun _ => attr_of H.inst H.flds (by kernel_rfl) (by kernel_rfl) rfl, fun _ => attr_of H.inst H.flds (by kernel_rfl) (by kernel_rfl) rfl,
    fun _ => attr_of H.inst H.flds (by kernel_rfl) (by kernel_rfl) rfl, fun _ => attr_of H.inst H.flds (by kernel_rfl) (by kernel_rfl) rfl⟩
theorem IsOb.wr : (∀ l v, setAttr theQ (.ref a) (Str.ofString "number") (.int v) ⟨h, l⟩ = some ⟨h.set (a - 1) (.flds (obF o x v)), l⟩) ∧
    (∀ l v, setAttr theQ (.ref a) (Str.ofString "type") (.ref v) ⟨h, l⟩ = some ⟨h.set (a - 1) (.flds (obF { o with ty := v } x nm)), l⟩) ∧
    (∀ l v, setAttr theQ (.ref a) (Str.ofString "exported") (.bool v) ⟨h, l⟩ = some ⟨h.set (a - 1) (.flds (obF { o with ex := v } x nm)), l⟩) ∧
    (∀ l v, setAttr theQ (.ref a) (Str.ofString "readonly") v ⟨h, l⟩ = some ⟨h.set (a - 1) (.flds (obF o { x with ro := v } nm)), l⟩) ∧
    (∀ l v, setAttr theQ (.ref a) (Str.ofString "module") v ⟨h, l⟩ = some ⟨h.set (a - 1) (.flds (obF o { x with md := v } nm)), l⟩) ∧
    (∀ l v, setAttr theQ (.ref a) (Str.ofString "value") v ⟨h, l⟩ = some ⟨h.set (a - 1) (.flds (obF o { x with va := v } nm)), l⟩) ∧
    (∀ l v, setAttr theQ (.ref a) (Str.ofString "slot") v ⟨h, l⟩ = some ⟨h.set (a - 1) (.flds (obF o { x with sl := v } nm)), l⟩) ∧
    (∀ l v, setAttr theQ (.ref a) (Str.ofString "offset") v ⟨h, l⟩ = some ⟨h.set (a - 1) (.flds (obF o { x with off := v } nm)), l⟩) ∧
    (∀ l v, setAttr theQ (.ref a) (Str.ofString "isparam") v ⟨h, l⟩ = some ⟨h.set (a - 1) (.flds (obF o { x with ip := v } nm)), l⟩) :=
  ⟨fun _ _ => setAttr_of H.inst H.flds (by kernel_rfl) (Nat.le_of_ble_eq_true rfl) (by kernel_rfl), fun _ _ => setAttr_of H.inst H.flds (by kernel_rfl) (Nat.le_of_ble_eq_true rfl) (by kernel_rfl), fun _ _ => setAttr_of H.inst H.flds (by kernel_rfl) (Nat.le_of_ble_eq_true rfl) (by kernel_rfl),
    fun _ _ => setAttr_of H.inst H.flds (by kernel_rfl) (Nat.le_of_ble_eq_true rfl) (by kernel_rfl), fun _ _ => setAttr_of H.inst H.flds (by kernel_rfl) (Nat.le_of_ble_eq_true rfl) (by kernel_rfl), fun _ _ => setAttr_of H.inst H.flds (by kernel_rfl) (Nat.le_of_ble_eq_true rfl) (by kernel_rfl),
    fun _ _ => setAttr_of H.inst H.flds (by kernel_rfl) (Nat.le_of_ble_eq_true rfl) (by kernel_rfl), fun _ _ => setAttr_of H.inst H.flds (by kernel_rfl) (Nat.le_of_ble_eq_true rfl) (by kernel_rfl), fun _ _ => setAttr_of H.inst H.flds (by kernel_rfl) (Nat.le_of_ble_eq_true rfl) (by kernel_rfl)⟩
theorem IsOb.frame {h' : List AO} (k : ∀ j, a - 1 ≤ j → j ≤ a → h'[j]? = h[j]?) : IsOb h' a o x nm :=
  ⟨H.pos, (k _ (by lia) (by lia)).trans H.inst, (k _ (by lia) (by lia)).trans H.flds⟩
theorem IsOb.put {o' : OI} {x' : OX} {nm' : Int} : IsOb (h.set (a - 1) (.flds (obF o' x' nm'))) a o' x' nm' := by
  have := H.pos
  exact ⟨H.pos, (get_set_ne (by lia)).trans H.inst, get_set H.flds⟩
theorem IsOb.lt : a < h.length := lt_of H.inst
end
structure Wd (D : Nat) (Γ : Nat → Option TI) (Δ : Nat → Option OI) (ex nm : Nat → Int) (h : List AO) : Prop where
  ty : ∀ a t, Γ a = some t → ∃ x, IsTy h a t x (ex a)
  ob : ∀ a o, Δ a = some o → ∃ x, IsOb h a o x (nm a)
  ltT : ∀ a t, Γ a = some t → a + 2 < D
  ltO : ∀ a o, Δ a = some o → a < D
noncomputable def set1 (f : Nat → Int) (a : Nat) (v : Int) : Nat → Int := fun b => if b = a then v else f b
section
variable {D : Nat} {Γ : Nat → Option TI} {Δ : Nat → Option OI} {ex nm : Nat → Int} {h h' : List AO} (W : Wd D Γ Δ ex nm h)
include W
theorem Wd.frame (k : ∀ j, j < D → h'[j]? = h[j]?) : Wd D Γ Δ ex nm h' :=
  ⟨fun a t e => let ⟨x, H⟩ := W.ty a t e; ⟨x, H.frame fun j _ h2 => k j (by have := W.ltT a t e; lia)⟩, fun a o e => let ⟨x, H⟩ := W.ob a o e; ⟨x, H.frame fun j _ h2 => k j (by have := W.ltO a o e; lia)⟩, W.ltT, W.ltO⟩
theorem Wd.up {S : List Nat} (u : Up S h h') (hD : D ≤ h.length) (hS : ∀ j ∈ S, D ≤ j) : Wd D Γ Δ ex nm h' :=
  W.frame fun j hj => u.2 j (by lia) fun q => by have := hS j q; lia
theorem Wd.app (hD : D ≤ h.length) (xs : List AO) : Wd D Γ Δ ex nm (h ++ xs) := W.frame fun j hj => get_lt (by lia)
theorem Wd.putHigh {i : Nat} {o : AO} (hi : D ≤ i) : Wd D Γ Δ ex nm (h.set i o) := W.frame fun j hj => get_set_ne (by lia)
theorem Wd.setEx {a : Nat} {t : TI} {x : TX} {v : Int} (e : Γ a = some t) (H : IsTy h a t x (ex a)) : Wd D Γ Δ (set1 ex a v) nm (h.set (a - 1) (.flds (tyF a t x v))) := by
  have hp := H.pos
  refine ⟨fun b u eb => ?_, fun b o eb => ?_, W.ltT, W.ltO⟩
  · obtain ⟨y, K⟩ := W.ty b u eb
    by_cases hb : b = a
    · subst hb
      rw [e] at eb; cases eb
      exact ⟨x, by simpa [set1] using H.put (x' := x) (ex' := v) rfl rfl⟩
    · have kp := K.pos
      refine ⟨y, ?_⟩
      rw [show ∀ f : Nat → Int, set1 f a v b = f b from fun f => by simp [set1, hb]]
      refine K.frame fun j h1 h2 => get_set_ne ?_
      intro hj
      have e1 := H.flds; have e0 := H.inst
      rw [hj] at e1
      have : j = b - 1 ∨ j = b ∨ j = b + 1 ∨ j = b + 2 := at4 h1 h2
      rcases this with q | q | q | q
      · exact hb (pred_inj kp hp (hj.trans q).symm)
      · rw [q, K.inst] at e1; cases e1
      · rw [q, K.fs] at e1; cases e1
      · rw [q, K.ps] at e1; cases e1
  · obtain ⟨y, K⟩ := W.ob b o eb
    have kp := K.pos
    refine ⟨y, K.frame fun j h1 h2 => get_set_ne ?_⟩
    intro hj
    have : j = b - 1 ∨ j = b := at2 h1 h2
    rcases this with q | q
    · have : a = b := pred_inj hp kp (hj.trans q)
      subst this; have := K.inst; rw [H.inst] at this; cases this
    · have e1 := H.flds
      rw [hj, q, K.inst] at e1; cases e1
theorem Wd.setNm {a : Nat} {o : OI} {x : OX} {v : Int} (e : Δ a = some o) (H : IsOb h a o x (nm a)) : Wd D Γ Δ ex (set1 nm a v) (h.set (a - 1) (.flds (obF o x v))) := by
  have hp := H.pos
  refine ⟨fun b u eb => ?_, fun b p eb => ?_, W.ltT, W.ltO⟩
  · obtain ⟨y, K⟩ := W.ty b u eb
    have kp := K.pos
    refine ⟨y, K.frame fun j h1 h2 => get_set_ne ?_⟩
    intro hj
    have e1 := H.flds
    rw [hj] at e1
    have : j = b - 1 ∨ j = b ∨ j = b + 1 ∨ j = b + 2 := at4 h1 h2
    rcases this with q | q | q | q
    · have : a = b := pred_inj hp kp (hj.trans q)
      subst this; have := K.inst; rw [H.inst] at this; cases this
    · rw [q, K.inst] at e1; cases e1
    · rw [q, K.fs] at e1; cases e1
    · rw [q, K.ps] at e1; cases e1
  · obtain ⟨y, K⟩ := W.ob b p eb
    by_cases hb : b = a
    · subst hb
      rw [e] at eb; cases eb
      exact ⟨x, by simpa [set1] using H.put (o' := o) (x' := x) (nm' := v)⟩
    · have kp := K.pos
      refine ⟨y, ?_⟩
      rw [show ∀ f : Nat → Int, set1 f a v b = f b from fun f => by simp [set1, hb]]
      refine K.frame fun j h1 h2 => get_set_ne ?_
      intro hj
      have : j = b - 1 ∨ j = b := at2 h1 h2
      rcases this with q | q
      · exact hb (pred_inj kp hp (hj.trans q).symm)
      · have e1 := H.flds
        rw [hj, q, K.inst] at e1; cases e1
end
end Mine.L
end
section
namespace Mine.L
noncomputable abbrev S! (s : String) : Str := Str.ofString s
theorem comp_rf {x : Str} {iter : SE} {ts : List STt} {elt : SE} {σ : St} {b : Nat} {fs : List Nat} {h : List AO} {l : Str → Option AV} (hi : iter σ = some (.ref b, ⟨h, l⟩)) (hb : h[b]? = some (.list (rf fs))) (n : fs.length ≤ szMax) (p : Nat → Bool) (f : Nat → AV)
    (ht : ∀ v ∈ fs, ∀ ys l, trl ts ⟨h ++ ys, upd l x (.ref v)⟩ = some (p v, ⟨h ++ ys, upd l x (.ref v)⟩))
    (he : ∀ v ∈ fs, p v = true → ∀ ys l, elt ⟨h ++ ys, upd l x (.ref v)⟩ = some (f v, ⟨h ++ ys, upd l x (.ref v)⟩)) :
    comp x iter ts elt σ = some (.ref (h.length + 1), ⟨h ++ [.junk, .list ((fs.filter p).map f)], l⟩) := by
  have := comp_ok (ts := ts) (elt := elt) hi hb (by simpa [rf] using n) (fun v => match v with | .ref f => p f | _ => false) (fun v => match v with | .ref g => f g | _ => .none)
    (fun v hv ys l => by
      obtain ⟨w, hw, rfl⟩ := List.mem_map.mp hv
      exact ht w hw ys l)
    (fun v hv hp ys l => by
      obtain ⟨w, hw, rfl⟩ := List.mem_map.mp hv
      exact he w hw hp ys l)
  rw [this]
  congr 6
  unfold rf
  rw [List.filter_map, List.map_map]
  rfl
theorem comp_rf0 {x : Str} {iter : SE} {elt : SE} {σ : St} {b : Nat} {fs : List Nat} {h : List AO} {l : Str → Option AV} (hi : iter σ = some (.ref b, ⟨h, l⟩)) (hb : h[b]? = some (.list (rf fs))) (n : fs.length ≤ szMax) (f : Nat → AV)
    (he : ∀ v ∈ fs, ∀ ys l, elt ⟨h ++ ys, upd l x (.ref v)⟩ = some (f v, ⟨h ++ ys, upd l x (.ref v)⟩)) :
    comp x iter [] elt σ = some (.ref (h.length + 1), ⟨h ++ [.junk, .list (fs.map f)], l⟩) := by
  have := comp_rf (ts := []) (elt := elt) hi hb n (fun _ => true) f (fun _ _ _ _ => rfl) (fun v hv _ => he v hv)
  rwa [List.filter_eq_self.mpr (fun _ _ => rfl)] at this
theorem beqS (a b : String) : (Str.ofString a == Str.ofString b) = (a == b) := by
  by_cases q : a = b
  · subst q; simp
  · have : Str.ofString a ≠ Str.ofString b := fun e => q (ofS_inj a b ▸ e)
    rw [beq_eq_false_iff_ne.mpr this, beq_eq_false_iff_ne.mpr q]
theorem frun_ret' {b : SS} {l l' l0 : Str → Option AV} {v : AV} {h h' : List AO} (e : b ⟨h, l⟩ = some (.ret v, ⟨h', l'⟩)) : frun b l ⟨h, l0⟩ = some (v, ⟨h', l0⟩) := frun_ret (σ := ⟨h, l0⟩) (σ' := ⟨h', l'⟩) e
theorem frun_next' {b : SS} {l l' l0 : Str → Option AV} {h h' : List AO} (e : b ⟨h, l⟩ = some (.next, ⟨h', l'⟩)) : frun b l ⟨h, l0⟩ = some (.none, ⟨h', l0⟩) := frun_next (σ := ⟨h, l0⟩) (σ' := ⟨h', l'⟩) e
noncomputable abbrev Call (m k : Nat) (args : List AV) (h : List AO) (v : AV) (h' : List AO) : Prop := ∀ l : Str → Option AV, (run theQ m).fn k args ⟨h, l⟩ = some (v, ⟨h', l⟩)
noncomputable def oty (Δ : Nat → Option OI) (f : Nat) : Nat := match Δ f with | some o => o.ty | none => 0
noncomputable def oex (Δ : Nat → Option OI) (f : Nat) : Bool := match Δ f with | some o => o.ex | none => false
noncomputable def kids (Δ : Nat → Option OI) (t : TI) : List Nat :=
  if t.form = S! "array" ∨ t.form = S! "pointer" then t.base.toList
  else if t.form = S! "record" then (t.fs.filter (oex Δ)).map (oty Δ)
  else if t.form = S! "proc" then t.ps.map (oty Δ) ++ t.base.toList else []
noncomputable def par (t : TI) : Option Nat := if t.form = S! "record" then t.base else none
structure Gr (N : Nat) (Γ : Nat → Option TI) (Δ : Nat → Option OI) : Prop where
  fs : ∀ a t, Γ a = some t → ∀ f ∈ t.fs, ∃ o, Δ f = some o
  ps : ∀ a t, Γ a = some t → ∀ f ∈ t.ps, ∃ o, Δ f = some o
  fsl : ∀ a t, Γ a = some t → t.fs.length ≤ 3
  psl : ∀ a t, Γ a = some t → t.ps.length ≤ 3
  base : ∀ a t b, Γ a = some t → t.base = some b → ∃ u, Γ b = some u ∧ u.num < t.num
  has : ∀ a t, Γ a = some t → t.form = S! "array" ∨ t.form = S! "pointer" ∨ t.form = S! "proc" → ∃ b, t.base = some b
  oty : ∀ f o, Δ f = some o → ∃ u, Γ o.ty = some u
  inj : ∀ a b t u, Γ a = some t → Γ b = some u → t.num = u.num → a = b
  num : ∀ a t, Γ a = some t → 1 ≤ t.num ∧ t.num ≤ N
  small : N ≤ 60
section
variable {D N : Nat} {Γ : Nat → Option TI} {Δ : Nat → Option OI} {ex nm : Nat → Int} {h : List AO} {a : Nat} {t : TI}
theorem szm : szMax = 100000 := rfl
theorem shown_ok (W : Wd D Γ Δ ex nm h) (G : Gr N Γ Δ) (hD : D ≤ h.length) (e : Γ a = some t) {m : Nat} (hm : 6 ≤ m) :
    Call m 0 [.ref a] h (.ref (h.length + 1)) (h ++ [.junk, .list (rf (t.fs.filter (oex Δ)))]) := by
  intro l
  obtain ⟨n, rfl⟩ := ge_ex (show 6 ≤ m by assumption)
  rw [fn0]
  apply frun_ret'
  unfold B0
  apply seq_ret
  rw [sRet_ap, comp_rf (h := h) (b := a + 1) (fs := t.fs) (l := env [(S! "record", .ref a)]) ?_ ?_ ?_ (oex Δ) AV.ref ?_ ?_]
  · rfl
  · simp only [att_ap, var_ap, env_cons, if_true, Option.map_some, Option.bind_some, (W.ty a t e).choose_spec.rd]
  · exact (W.ty a t e).choose_spec.fs
  · have := G.fsl a t e; rw [szm]; lia
  · intro v hv ys l
    obtain ⟨o, ho⟩ := G.fs a t e v hv
    have q := ((W.app hD ys).ob v o ho).choose_spec.rd
    simp only [bool_ap, tval_ap, att_ap, var_ap, upd_ap, if_true, Option.map_some, Option.bind_some, trl_one, q, oex, ho]
  · intro v hv _ ys l
    simp only [var_ap, upd_ap, if_true, Option.map_some]
theorem kids_in (G : Gr N Γ Δ) (e : Γ a = some t) {b : Nat} (hb : b ∈ kids Δ t) : ∃ u, Γ b = some u := by
  unfold kids at hb
  have hf : ∀ f, (∃ o, Δ f = some o) → ∃ u, Γ (oty Δ f) = some u := fun f zp0 => by
    obtain ⟨o, ho⟩ := zp0
    unfold oty; rw [ho]; exact G.oty f o ho
  have hbase : b ∈ t.base.toList → ∃ u, Γ b = some u := fun q => by
    obtain ⟨u, hu, _⟩ := G.base a t b e (by simpa using q)
    exact ⟨u, hu⟩
  split at hb
  · exact hbase hb
  · split at hb
    · obtain ⟨f, h1, rfl⟩ := List.mem_map.mp hb
      exact hf f (G.fs a t e f (List.mem_filter.mp h1).1)
    · split at hb
      · rcases List.mem_append.mp hb with hb | hb
        · obtain ⟨f, h1, rfl⟩ := List.mem_map.mp hb
          exact hf f (G.ps a t e f h1)
        · exact hbase hb
      · cases hb
theorem kids_len (G : Gr N Γ Δ) (e : Γ a = some t) : (kids Δ t).length ≤ 4 := by
  unfold kids
  have := G.fsl a t e
  have := G.psl a t e
  have hb : t.base.toList.length ≤ 1 := by cases t.base <;> simp
  split
  · lia
  · split
    · have := List.length_filter_le (oex Δ) t.fs
      simp; lia
    · split
      · simp; lia
      · simp
theorem map_ref (l : List Nat) (f : Nat → Nat) : l.map (fun x => AV.ref (f x)) = rf (l.map f) := by unfold rf; rw [List.map_map]; rfl
theorem next_ok (W : Wd D Γ Δ ex nm h) (G : Gr N Γ Δ) (hD : D ≤ h.length) (e : Γ a = some t) {m : Nat} (hm : 11 ≤ m) :
    ∃ X r, Call m 1 [.ref a] h (.ref r) (h ++ X) ∧ h.length ≤ r ∧ (h ++ X)[r]? = some (.list (rf (kids Δ t))) := by
  obtain ⟨n, rfl⟩ := ge_ex (show 11 ≤ m by assumption)
  have RT := (W.ty a t e).choose_spec.rd
  by_cases h1 : t.form = S! "array" ∨ t.form = S! "pointer"
  · obtain ⟨b, hb⟩ := G.has a t e (by rcases h1 with q | q <;> simp [q])
    refine ⟨[.list [.ref b]], h.length, fun l => ?_, Nat.le_refl _, ?_⟩
    · rw [fn1]
      apply frun_ret'
      unfold B1
      apply seq_ret
      rcases h1 with q | q <;> (simp only [brS_t, orK_t, orK_f, then_r, iff_ap, tor2, tcmp_ap, att_ap, lit_ap, var_ap, env_cons, if_true, Option.map_some, Option.bind_some, c_eq, s_str, beqS, String.reduceBEq, seq_cons, sRet_ap, lst_ap, evl_cons, evl_nil, RT, q, hb, bv]; first | done | rfl)
    · rw [get_app0]; unfold kids; rw [if_pos h1, hb]; rfl
  · have na : (t.form == S! "array") = false := beq_eq_false_iff_ne.mpr fun q => h1 (.inl q)
    have np : (t.form == S! "pointer") = false := beq_eq_false_iff_ne.mpr fun q => h1 (.inr q)
    by_cases h2 : t.form = S! "record"
    · have W2 := W.app hD [.junk, .list (rf (t.fs.filter (oex Δ)))]
      refine mk2_3 ([.junk, .list (rf (t.fs.filter (oex Δ))), .junk, .list (rf ((t.fs.filter (oex Δ)).map (oty Δ)))]) (h.length + 3) (fun l => ?_) (by lia) ?_
      · rw [fn1]
        apply frun_ret'
        unfold B1
        rw [seq_next (σ' := ⟨h, env [(S! "t", .ref a)]⟩) (by simp only [brS_f, orK_f, iff_ap, tor2, tcmp_ap, att_ap, lit_ap, var_ap, env_cons, if_true, Option.map_some, Option.bind_some, c_eq, s_str, seq_nil, RT, na, np])]
        apply seq_ret
        simp only [brS_t, iff_ap, tcmp_ap, att_ap, lit_ap, var_ap, env_cons, if_true, Option.map_some, Option.bind_some, c_eq, s_str, beqS, String.reduceBEq, seq_cons, sRet_ap, RT, h2]
        rw [comp_rf0 (h := h ++ [.junk, .list (rf (t.fs.filter (oex Δ)))]) (b := h.length + 1) (fs := t.fs.filter (oex Δ)) (l := env [(S! "t", .ref a)]) ?_ ?_ ?_ (fun f => .ref (oty Δ f)) ?_]
        · simp only [then_r, Option.map_some, Option.bind_some, List.append_assoc, List.cons_append, List.nil_append, map_ref, List.length_append]; rfl
        · simp only [var_ap, env_cons, if_true, Option.map_some, Option.bind_some, evl_cons, evl_nil, callf_ap, shown_ok W G hD e (show 6 ≤ n + 6 from Nat.le_add_left 6 n)]
        · exact get_app 1
        · have := G.fsl a t e; have := List.length_filter_le (oex Δ) t.fs; rw [szm]; lia
        · intro v hv ys l
          obtain ⟨o, ho⟩ := G.fs a t e v (List.mem_filter.mp hv).1
          have q := ((W2.app (by simp; lia) ys).ob v o ho).choose_spec.rd
          simp only [List.append_assoc, List.cons_append, List.nil_append] at q
          simp only [att_ap, var_ap, upd_ap, if_true, Option.map_some, Option.bind_some, List.append_assoc, List.cons_append, List.nil_append, q, oty, ho]
      · rw [get_app 3]; unfold kids; rw [if_neg h1, if_pos h2]; rfl
    · have nr : (t.form == S! "record") = false := beq_eq_false_iff_ne.mpr h2
      by_cases h3 : t.form = S! "proc"
      · obtain ⟨b, hb⟩ := G.has a t e (by simp [h3])
        refine mk2_3 ([.junk, .list (rf (t.ps.map (oty Δ))), .list [.ref b], .list (rf (t.ps.map (oty Δ)) ++ [.ref b])]) (h.length + 3) (fun l => ?_) (by lia) ?_
        · rw [fn1]
          apply frun_ret'
          unfold B1
          rw [seq_next (σ' := ⟨h, env [(S! "t", .ref a)]⟩) (by simp only [brS_f, orK_f, iff_ap, tor2, tcmp_ap, att_ap, lit_ap, var_ap, env_cons, if_true, Option.map_some, Option.bind_some, c_eq, s_str, seq_nil, RT, na, np])]
          rw [seq_next (σ' := ⟨h, env [(S! "t", .ref a)]⟩) (by simp only [brS_f, iff_ap, tcmp_ap, att_ap, lit_ap, var_ap, env_cons, if_true, Option.map_some, Option.bind_some, c_eq, s_str, seq_nil, RT, nr])]
          apply seq_ret
          simp only [iff_ap, tcmp_ap, att_ap, lit_ap, var_ap, env_cons, if_true, Option.map_some, Option.bind_some, c_eq, s_str, RT, h3, beq_self_eq_true, seq_cons, sRet_ap, bino_ap, brS_t]
          rw [comp_rf0 (h := h) (b := a + 2) (fs := t.ps) (l := env [(S! "t", .ref a)]) ?_ ?_ ?_ (fun f => .ref (oty Δ f)) ?_]
          · have RT2 := ((W.app hD [.junk, .list (rf (t.ps.map (oty Δ)))]).ty a t e).choose_spec.rd
            have hl : (rf (t.ps.map (oty Δ))).length ≤ szMax := by have := G.psl a t e; rw [szm]; simp [rf]; lia
            simp only [att_ap, var_ap, env_cons, if_true, Option.map_some, Option.bind_some, lst_ap, evl_cons, evl_nil, List.append_assoc, List.cons_append, List.nil_append, map_ref, RT2, hb, bv, List.length_append, List.length_cons, List.length_nil]
            rw [add_list (a := h.length + 1) (b := h.length + 2) (get_app 1) (get_app 2) hl (by rw [szm]; exact Nat.le_of_ble_eq_true rfl)]
            simp only [Option.map_some, Option.bind_some, List.length_append, List.length_cons, List.length_nil, List.append_assoc, List.cons_append, List.nil_append, then_r]
            rfl
          · simp only [att_ap, var_ap, env_cons, if_true, Option.map_some, Option.bind_some, RT]
          · exact (W.ty a t e).choose_spec.ps
          · have := G.psl a t e; rw [szm]; lia
          · intro v hv ys l
            obtain ⟨o, ho⟩ := G.ps a t e v hv
            have q := ((W.app hD ys).ob v o ho).choose_spec.rd
            simp only [att_ap, var_ap, upd_ap, if_true, Option.map_some, Option.bind_some, q, oty, ho]
        · rw [get_app 3]; unfold kids; rw [if_neg h1, if_neg h2, if_pos h3, hb]; simp [rf]
      · have nq : (t.form == S! "proc") = false := beq_eq_false_iff_ne.mpr h3
        refine mk2_3 ([.list []]) h.length (fun l => ?_) (Nat.le_refl _) ?_
        · rw [fn1]
          apply frun_ret'
          unfold B1
          simp only [brS_f, orK_f, then_n, then_r, iff_ap, tor2, tcmp_ap, att_ap, lit_ap, var_ap, env_cons, if_true, Option.map_some, Option.bind_some, c_eq, s_str, seq_cons, seq_nil, sRet_ap, lst_ap, evl_nil, RT, na, np, nr, nq]; rfl
        · rw [get_app0]; unfold kids; rw [if_neg h1, if_neg h2, if_neg h3]; rfl
inductive Chain (Γ : Nat → Option TI) : Nat → List Nat → Prop
  | one {a : Nat} {t : TI} : Γ a = some t → par t = none → Chain Γ a [a]
  | more {a b : Nat} {t : TI} {c : List Nat} : Γ a = some t → par t = some b → Chain Γ b c → Chain Γ a (c ++ [a])
theorem insert_ap {h : List AO} {l : Str → Option AV} {a : Nat} {xs : List AV} {v : AV} (e : h[a]? = some (.list xs)) (n : xs.length ≤ szMax) : listM (Str.ofString "insert") a [.int 0, v] ⟨h, l⟩ = some (.none, ⟨h.set a (.list (v :: xs)), l⟩) := by
  rw [ins_m e n]; rfl
theorem bases_loop (W : Wd D Γ Δ ex nm h) (G : Gr N Γ Δ) (hD : D ≤ h.length) (n : Nat) : ∀ (k a : Nat) (t : TI) (l : Str → Option AV) (s : List Nat) (m : Nat), Γ a = some t → t.num ≤ (k : Int) → k < m → (s : List Nat).length + k ≤ 5000 → l (S! "t") = some (.ref a) → l (S! "row") = some (.ref h.length) →
    ∃ c l', whileN (tAll .And [(tcmp .Eq (att (var (Str.ofString "t")) (Str.ofString "form")) (lit (.str (Str.ofString "record")))), (tcmp .IsNot (att (var (Str.ofString "t")) (Str.ofString "base")) (lit .none))]) (seq (L2_0 n)) m ⟨h ++ [.list (rf (a :: s))], l⟩ =
      some (.next, ⟨h ++ [.list (rf (c ++ s))], l'⟩) ∧ l' (S! "row") = some (.ref h.length) ∧ Chain Γ a c := by
  intro k
  induction k with
  | zero => intro a t l s m e hn; have := (G.num a t e).1; lia
  | succ k ih =>
    intro a t l s m e hn hm hs lt lr
    obtain ⟨m, rfl⟩ : ∃ m', m = m' + 1 := ⟨m - 1, by lia⟩
    have RT := ((W.app hD [.list (rf (a :: s))]).ty a t e).choose_spec.rd
    unfold whileN
    rw [tand2]
    by_cases h1 : t.form = S! "record"
    · cases hb : t.base with
      | none =>
        refine ⟨[a], l, ?_, lr, .one e (by unfold par; rw [if_pos h1, hb])⟩
        simp only [andK_t, tcmp_ap, att_ap, lit_ap, var_ap, if_false, Option.map_some, Option.bind_some, c_eq, c_isn0, s_str, beqS, String.reduceBEq, Bool.false_eq_true, List.cons_append, List.nil_append, lt, RT, h1, hb, bv]
      | some b =>
        obtain ⟨u, hu, hlt⟩ := G.base a t b e hb
        obtain ⟨c, l', e1, e2, e3⟩ := ih b u (upd l (S! "t") (.ref b)) (a :: s) m hu (by lia) (by lia) (by simp; lia) (by kernel_rfl!) (by simp only [upd_ap, if_false, ofS_inj, String.reduceEq]; exact lr)
        refine ⟨c ++ [a], l', ?_, e2, .more e (by unfold par; rw [if_pos h1]; exact hb) e3⟩
        simp only [andK_t, tcmp_ap, att_ap, lit_ap, var_ap, if_true, Option.map_some, Option.bind_some, c_eq, c_isn1, s_str, beqS, String.reduceBEq, List.append_assoc, List.cons_append, List.nil_append, lt, RT, h1, hb, bv]
        unfold L2_0
        rw [seq_next (σ' := ⟨h ++ [.list (rf (a :: s))], upd l (S! "t") (.ref b)⟩) (by simp only [att_ap, var_ap, Option.map_some, Option.bind_some, setl_ap, lt, RT, hb, bv])]
        rw [seq_next (σ' := ⟨h ++ [.list (rf (b :: a :: s))], upd l (S! "t") (.ref b)⟩) (by
          rw [sE_ap, lmeth (k := h.length) (σ' := ⟨h ++ [.list (rf (a :: s))], upd l (S! "t") (.ref b)⟩) (xs := rf (a :: s)) (by simp only [var_ap, upd_ap, if_false, Option.map_some, ofS_inj, String.reduceEq, lr]) get_app0]
          simp only [lit_ap, var_ap, upd_ap, if_true, Option.map_some, Option.bind_some, evl_cons, evl_nil, insert_ap (h := h ++ [.list (rf (a :: s))]) (xs := rf (a :: s)) get_app0 (by rw [szm]; simp [rf]; lia), set_app0, List.set_cons_zero]
          rfl)]
        simp only [Option.bind_some, seq_nil]
        exact e1
    · have nr : (t.form == S! "record") = false := beq_eq_false_iff_ne.mpr h1
      refine ⟨[a], l, ?_, lr, .one e (by unfold par; rw [if_neg h1])⟩
      simp only [andK_f, tcmp_ap, att_ap, lit_ap, var_ap, if_false, Option.map_some, Option.bind_some, c_eq, s_str, Bool.false_eq_true, List.cons_append, List.nil_append, lt, RT, nr]
theorem bases_ok (W : Wd D Γ Δ ex nm h) (G : Gr N Γ Δ) (hD : D ≤ h.length) (e : Γ a = some t) {m : Nat} (hm : 6 ≤ m) :
    ∃ X r c, Call m 2 [.ref a] h (.ref r) (h ++ X) ∧ h.length ≤ r ∧ (h ++ X)[r]? = some (.list (rf c)) ∧ Chain Γ a c := by
  obtain ⟨n, rfl⟩ := ge_ex (show 6 ≤ m by assumption)
  refine ex2_3 (bases_loop W G hD n 1000 a t (upd (env [(S! "t", .ref a)]) (S! "row") (.ref h.length)) [] loops e (by have := (G.num a t e).2; have := G.small; lia) (by unfold loops; lia) (by simp) (by kernel_rfl!) (by kernel_rfl!)) fun c l' e1 e2 e3 => ?_
  refine mkE3 ([.list (rf c)]) h.length c ⟨fun l => ?_, Nat.le_refl _, get_app0, e3⟩
  rw [fn2]
  apply frun_ret'
  unfold B2
  rw [seq_next (σ' := ⟨h ++ [.list (rf [a])], upd (env [(S! "t", .ref a)]) (S! "row") (.ref h.length)⟩) (by simp only [var_ap, env_cons, if_true, Option.map_some, Option.bind_some, setl_ap, lst_ap, evl_cons, evl_nil]; rfl)]
  rw [seq_next (σ' := ⟨h ++ [.list (rf c)], l'⟩) (by rw [whl_ap]; simpa using e1)]
  apply seq_ret
  simp only [var_ap, Option.map_some, sRet_ap, e2]
  rfl
theorem in2 {e : SE} {σ : St} {h : List AO} {l : Str → Option AV} {s a b : Str} (he : e σ = some (.str s, ⟨h, l⟩)) : tcmp .In e (lst [lit (.str a), lit (.str b)]) σ = some (a == s || (b == s || false), ⟨h ++ [.list [.str a, .str b]], l⟩) := by
  simp only [tcmp_ap, he, Option.bind_some, lst_ap, evl_cons, evl_nil, lit_ap, c_in]
  rw [in_list (xs := [.str a, .str b]) get_app0 (by rw [szm]; exact Nat.le_of_ble_eq_true rfl)]
  rfl
noncomputable def parts (Δ : Nat → Option OI) (t : TI) : List Nat := (par t).toList ++ kids Δ t
theorem parts_ok (W : Wd D Γ Δ ex nm h) (G : Gr N Γ Δ) (hD : D ≤ h.length) (e : Γ a = some t) {m : Nat} (hm : 8 ≤ m) :
    ∃ X r, Call m 24 [.ref a] h (.ref r) (h ++ X) ∧ h.length ≤ r ∧ (h ++ X)[r]? = some (.list (rf (parts Δ t))) := by
  obtain ⟨n, rfl⟩ := ge_ex (show 8 ≤ m by assumption)
  let F : AO := .list [.str (S! "array"), .str (S! "pointer")]
  have W1 := W.app hD [F]
  have RT := (W.ty a t e).choose_spec.rd
  have RT1 := (W1.ty a t e).choose_spec.rd
  have hd1 : D ≤ (h ++ [F]).length := by simp; lia
  by_cases h1 : t.form = S! "array" ∨ t.form = S! "pointer"
  · obtain ⟨b, hb⟩ := G.has a t e (by rcases h1 with q | q <;> simp [q])
    refine ⟨[F, .list [.ref b]], h.length + 1, fun l => ?_, by lia, ?_⟩
    · rw [fn24]
      apply frun_ret'
      unfold B24
      apply seq_ret
      rw [iff_ap, in2 (h := h) (l := env [(S! "t", .ref a)]) (s := t.form) (by simp only [att_ap, var_ap, env_cons, if_true, Option.map_some, Option.bind_some, RT])]
      rcases h1 with q | q <;> (simp only [brS_t, then_r, att_ap, var_ap, env_cons, if_true, Option.map_some, Option.bind_some, beqS, String.reduceBEq, seq_cons, sRet_ap, lst_ap, evl_cons, evl_nil, List.append_assoc, List.cons_append, List.nil_append, RT1, q, hb, bv, beq_self_eq_true, Bool.true_or, Bool.or_true, List.length_append, List.length_cons, List.length_nil, F]; first | done | rfl)
    · rw [get_app 1]; unfold parts par kids
      have : t.form ≠ S! "record" := by rcases h1 with q | q <;> (rw [q, ne_eq, ofS_inj]; decide)
      rw [if_pos h1, if_neg this, hb]; rfl
  · have na : (S! "array" == t.form) = false := beq_eq_false_iff_ne.mpr fun q => h1 (.inl q.symm)
    have np : (S! "pointer" == t.form) = false := beq_eq_false_iff_ne.mpr fun q => h1 (.inr q.symm)
    have first : ∀ c, iff' (tcmp .In (att (var (S! "t")) (S! "form")) (lst [lit (.str (S! "array")), lit (.str (S! "pointer"))])) c [] ⟨h, env [(S! "t", .ref a)]⟩ = some (.next, ⟨h ++ [F], env [(S! "t", .ref a)]⟩) := fun c => by
      rw [iff_ap, in2 (h := h) (l := env [(S! "t", .ref a)]) (s := t.form) (by simp only [att_ap, var_ap, env_cons, if_true, Option.map_some, Option.bind_some, RT])]
      simp only [brS_f, Option.bind_some, seq_nil, na, np, Bool.or_false, F]
    by_cases h2 : t.form = S! "record"
    · have fin : ∀ (B : List Nat) (A : SE), B.length ≤ 1 → A ⟨h ++ [F], env [(S! "t", .ref a)]⟩ = some (.ref (h.length + 1), ⟨h ++ [F, .list (rf B)], env [(S! "t", .ref a)]⟩) →
          bino .Add A (comp (S! "one_field") (att (var (S! "t")) (S! "fields")) [tval (att (var (S! "one_field")) (S! "exported"))] (att (var (S! "one_field")) (S! "type"))) ⟨h ++ [F], env [(S! "t", .ref a)]⟩
          = some (.ref (h.length + 4), ⟨h ++ [F, .list (rf B), .junk, .list (rf ((t.fs.filter (oex Δ)).map (oty Δ))), .list (rf (B ++ (t.fs.filter (oex Δ)).map (oty Δ)))], env [(S! "t", .ref a)]⟩) := by
        intro B A hB hA
        have W2 := W.app hD [F, .list (rf B)]
        have RT2 := (W2.ty a t e).choose_spec.rd
        have hfl : (rf ((t.fs.filter (oex Δ)).map (oty Δ))).length ≤ szMax := by have := G.fsl a t e; have := List.length_filter_le (oex Δ) t.fs; rw [szm]; simp [rf]; lia
        have hbl : (rf B).length ≤ szMax := by rw [szm]; simp [rf]; lia
        rw [bino_ap, hA]
        simp only [Option.bind_some]
        rw [comp_rf (h := h ++ [F, .list (rf B)]) (b := a + 1) (fs := t.fs) (l := env [(S! "t", .ref a)]) ?_ ?_ ?_ (oex Δ) (fun f => .ref (oty Δ f)) ?_ ?_]
        · simp only [Option.bind_some, List.append_assoc, List.cons_append, List.nil_append, map_ref, List.length_append, List.length_cons, List.length_nil]
          rw [add_list (a := h.length + 1) (b := h.length + 3) (get_app 1) (get_app 3) hbl hfl]
          simp [rf]
        · simp only [att_ap, var_ap, env_cons, if_true, Option.map_some, Option.bind_some, RT2]
        · exact (W2.ty a t e).choose_spec.fs
        · have := G.fsl a t e; rw [szm]; lia
        · intro v hv ys l
          obtain ⟨o, ho⟩ := G.fs a t e v hv
          have q := ((W2.app (by simp; lia) ys).ob v o ho).choose_spec.rd
          simp only [List.append_assoc, List.cons_append, List.nil_append] at q
          simp only [bool_ap, tval_ap, att_ap, var_ap, upd_ap, if_true, Option.map_some, Option.bind_some, List.append_assoc, List.cons_append, List.nil_append, trl_one, q, oex, ho]
        · intro v hv _ ys l
          obtain ⟨o, ho⟩ := G.fs a t e v hv
          have q := ((W2.app (by simp; lia) ys).ob v o ho).choose_spec.rd
          simp only [List.append_assoc, List.cons_append, List.nil_append] at q
          simp only [att_ap, var_ap, upd_ap, if_true, Option.map_some, Option.bind_some, List.append_assoc, List.cons_append, List.nil_append, q, oty, ho]
      refine mk2_3 ([F, .list (rf t.base.toList), .junk, .list (rf ((t.fs.filter (oex Δ)).map (oty Δ))), .list (rf (t.base.toList ++ (t.fs.filter (oex Δ)).map (oty Δ)))]) (h.length + 4) (fun l => ?_) (by lia) ?_
      · rw [fn24]
        apply frun_ret'
        unfold B24
        rw [seq_next (first _)]
        apply seq_ret
        simp only [iff_ap, tcmp_ap, att_ap, lit_ap, var_ap, env_cons, if_true, Option.map_some, Option.bind_some, c_eq, s_str, RT1, h2, beq_self_eq_true, seq_cons, sRet_ap, brS_t]
        rw [fin t.base.toList _ (by cases t.base <;> simp) (by
          cases hb : t.base <;> (simp only [ifK_t, ifK_f, tcmp_ap, att_ap, lit_ap, var_ap, env_cons, if_true, Option.map_some, Option.bind_some, c_is0, c_is1, lst_ap, evl_cons, evl_nil, ifE_ap, List.append_assoc, List.cons_append, List.nil_append, RT1, hb, bv, List.length_append, List.length_cons, List.length_nil, Option.toList]; rfl))]
        rfl
      · rw [get_app 4]; unfold parts par kids
        rw [if_pos h2, if_neg h1, if_pos h2]; rfl
    · have nr : (t.form == S! "record") = false := beq_eq_false_iff_ne.mpr h2
      by_cases h3 : t.form = S! "proc"
      · obtain ⟨b, hb⟩ := G.has a t e (by simp [h3])
        have W2 := W.app hD [F, .junk, .list (rf (t.ps.map (oty Δ)))]
        have RT2 := (W2.ty a t e).choose_spec.rd
        refine mk2_3 ([F, .junk, .list (rf (t.ps.map (oty Δ))), .list [.ref b], .list (rf (t.ps.map (oty Δ)) ++ [.ref b])]) (h.length + 4) (fun l => ?_) (by lia) ?_
        · rw [fn24]
          apply frun_ret'
          unfold B24
          rw [seq_next (first _)]
          rw [seq_next (σ' := ⟨h ++ [F], env [(S! "t", .ref a)]⟩) (by simp only [brS_f, iff_ap, tcmp_ap, att_ap, lit_ap, var_ap, env_cons, if_true, Option.map_some, Option.bind_some, c_eq, s_str, seq_nil, RT1, nr])]
          apply seq_ret
          simp only [sRet_ap, ifE_ap, tcmp_ap, att_ap, lit_ap, var_ap, env_cons, if_true, Option.map_some, Option.bind_some, c_eq, s_str, RT1, h3, beq_self_eq_true, bino_ap, ifK_t]
          rw [comp_rf0 (h := h ++ [F]) (b := a + 2) (fs := t.ps) (l := env [(S! "t", .ref a)]) ?_ ?_ ?_ (fun f => .ref (oty Δ f)) ?_]
          · have hl : (rf (t.ps.map (oty Δ))).length ≤ szMax := by have := G.psl a t e; rw [szm]; simp [rf]; lia
            simp only [att_ap, var_ap, env_cons, if_true, Option.map_some, Option.bind_some, lst_ap, evl_cons, evl_nil, List.append_assoc, List.cons_append, List.nil_append, map_ref, RT2, hb, bv, List.length_append, List.length_cons, List.length_nil]
            rw [add_list (a := h.length + 2) (b := h.length + 3) (get_app 2) (get_app 3) hl (by rw [szm]; exact Nat.le_of_ble_eq_true rfl)]
            simp only [Option.map_some, List.length_append, List.length_cons, List.length_nil, List.append_assoc, List.cons_append, List.nil_append]
            rfl
          · simp only [att_ap, var_ap, env_cons, if_true, Option.map_some, Option.bind_some, RT1]
          · exact (W1.ty a t e).choose_spec.ps
          · have := G.psl a t e; rw [szm]; lia
          · intro v hv ys l
            obtain ⟨o, ho⟩ := G.ps a t e v hv
            have q := ((W1.app hd1 ys).ob v o ho).choose_spec.rd
            simp only [List.append_assoc, List.cons_append, List.nil_append] at q
            simp only [att_ap, var_ap, upd_ap, if_true, Option.map_some, Option.bind_some, List.append_assoc, List.cons_append, List.nil_append, q, oty, ho]
        · rw [get_app 4]; unfold parts par kids; rw [if_neg h2, if_neg h1, if_neg h2, if_pos h3, hb]; simp [rf]
      · have nq : (t.form == S! "proc") = false := beq_eq_false_iff_ne.mpr h3
        refine mk2_3 ([F, .list []]) (h.length + 1) (fun l => ?_) (by lia) ?_
        · rw [fn24]
          apply frun_ret'
          unfold B24
          rw [seq_next (first _)]
          simp only [brS_f, ifK_f, then_n, then_r, iff_ap, tcmp_ap, att_ap, lit_ap, var_ap, env_cons, if_true, Option.map_some, Option.bind_some, c_eq, s_str, seq_cons, seq_nil, sRet_ap, lst_ap, evl_nil, ifE_ap, List.append_assoc, List.cons_append, List.nil_append, RT1, nr, nq, List.length_append, List.length_cons, List.length_nil]; rfl
        · rw [get_app 1]; unfold parts par kids; rw [if_neg h2, if_neg h1, if_neg h2, if_neg h3]; rfl
end
end Mine.L
end
section
namespace Mine.L
section
variable {N : Nat} {Γ : Nat → Option TI} {Δ : Nat → Option OI}
inductive Rch (Γ : Nat → Option TI) (Δ : Nat → Option OI) (r : Nat) : Nat → Prop
  | refl : Rch Γ Δ r r
  | step {x y : Nat} {t : TI} : Rch Γ Δ r x → Γ x = some t → y ∈ parts Δ t → Rch Γ Δ r y
theorem parts_in (G : Gr N Γ Δ) {a : Nat} {t : TI} (e : Γ a = some t) {b : Nat} (hb : b ∈ parts Δ t) : ∃ u, Γ b = some u := by
  rcases List.mem_append.mp hb with q | q
  · unfold par at q
    split at q
    · obtain ⟨u, hu, _⟩ := G.base a t b e (by simpa using q)
      exact ⟨u, hu⟩
    · cases q
  · exact kids_in G e q
theorem rch_in (G : Gr N Γ Δ) {r x : Nat} (hr : ∃ t, Γ r = some t) (h : Rch Γ Δ r x) : ∃ t, Γ x = some t := by
  induction h with
  | refl => exact hr
  | step _ e hy _ => exact parts_in G e hy
theorem parts_len (G : Gr N Γ Δ) {a : Nat} {t : TI} (e : Γ a = some t) : (parts Δ t).length ≤ 5 := by
  have := kids_len G e
  unfold parts
  have : (par t).toList.length ≤ 1 := by cases par t <;> simp
  simp; lia
noncomputable def numOf (Γ : Nat → Option TI) (a : Nat) : Int := match Γ a with | some t => t.num | none => 0
theorem numOf_eq {a : Nat} {t : TI} (e : Γ a = some t) : numOf Γ a = t.num := by unfold numOf; rw [e]
theorem numOf_inj (G : Gr N Γ Δ) {a b : Nat} (ha : ∃ t, Γ a = some t) (hb : ∃ t, Γ b = some t) (e : numOf Γ a = numOf Γ b) : a = b := by
  obtain ⟨t, ha⟩ := ha; obtain ⟨u, hb⟩ := hb
  rw [numOf_eq ha, numOf_eq hb] at e
  exact G.inj a b t u ha hb e
theorem nodup_map_of {α β : Type} {f : α → β} : ∀ {l : List α}, l.Nodup → (∀ a ∈ l, ∀ b ∈ l, f a = f b → a = b) → (l.map f).Nodup
  | [], _, _ => .nil
  | a :: l, hn, hi => by
    rw [List.nodup_cons] at hn
    rw [List.map_cons, List.nodup_cons]
    refine ⟨fun hm => ?_, nodup_map_of hn.2 fun x hx y hy => hi x (.tail _ hx) y (.tail _ hy)⟩
    obtain ⟨b, hb, e⟩ := List.mem_map.mp hm
    exact hn.1 (hi b (.tail _ hb) a (.head _) e ▸ hb)
theorem few (G : Gr N Γ Δ) {M : List Nat} (nd : M.Nodup) (hM : ∀ x ∈ M, ∃ t, Γ x = some t) : M.length ≤ N := by
  have h1 : (M.map fun a => (numOf Γ a).toNat).Nodup := nodup_map_of nd fun a ha b hb e => by
    obtain ⟨t, ea⟩ := hM a ha; obtain ⟨u, eb⟩ := hM b hb
    have n1 := G.num a t ea; have n2 := G.num b u eb
    rw [numOf_eq ea, numOf_eq eb] at e
    exact G.inj a b t u ea eb (by lia)
  have h2 : (M.map fun a => (numOf Γ a).toNat) ⊆ (List.range N).map (· + 1) := fun n hn => by
    obtain ⟨a, ha, rfl⟩ := List.mem_map.mp hn
    obtain ⟨t, ea⟩ := hM a ha
    have n1 := G.num a t ea
    refine List.mem_map.mpr ⟨t.num.toNat - 1, List.mem_range.mpr (by lia), ?_⟩
    simp only [numOf_eq ea]; lia
  have := h1.length_le_of_subset h2
  simpa using this
noncomputable def Bef (b x : Nat) (M : List Nat) : Prop := ∃ p q, M = p ++ x :: q ∧ b ∈ p
structure PI (Γ : Nat → Option TI) (Δ : Nat → Option OI) (N r : Nat) (M₀ : List Nat) (B : Nat) (M w z : List Nat) : Prop where
  nd : M.Nodup
  inM : ∀ x ∈ M, ∃ t, Γ x = some t
  inW : ∀ x ∈ w, ∃ t, Γ x = some t
  ord : ∀ x t b, x ∈ M → Γ x = some t → par t = some b → Bef b x M
  kid : ∀ x t y, x ∈ M → Γ x = some t → y ∈ kids Δ t → y ∈ M ∨ y ∈ w ∨ y ∈ z
  root : r ∈ M ∨ r ∈ w ∨ r ∈ z
  new : ∃ n, M = M₀ ++ n ∧ ∀ x ∈ n, Rch Γ Δ r x
  rW : ∀ x ∈ w, Rch Γ Δ r x
  bd : w.length + 5 * (N - M.length) ≤ B
noncomputable def wstep (Γ : Nat → Option TI) (Δ : Nat → Option OI) (s : List Nat × List Nat) (x : Nat) : List Nat × List Nat :=
  if x ∈ s.1 then s else (s.1 ++ [x], s.2 ++ (match Γ x with | some t => (kids Δ t).reverse | none => []))
variable {r B : Nat} {M₀ M w z : List Nat}
theorem Bef.more {b x y : Nat} {M : List Nat} (h : Bef b x M) : Bef b x (M ++ [y]) := by
  obtain ⟨p, q, rfl, hb⟩ := h
  exact ⟨p, q ++ [y], by simp, hb⟩
theorem wstep_inv (G : Gr N Γ Δ) (I : PI Γ Δ N r M₀ B M w z) {x : Nat} {t : TI} (e : Γ x = some t) (hp : ∀ b, par t = some b → b ∈ M) (hr : Rch Γ Δ r x) :
    PI Γ Δ N r M₀ B (wstep Γ Δ (M, w) x).1 (wstep Γ Δ (M, w) x).2 z ∧ x ∈ (wstep Γ Δ (M, w) x).1 ∧ ∀ y ∈ M, y ∈ (wstep Γ Δ (M, w) x).1 := by
  unfold wstep
  by_cases hx : x ∈ M
  · rw [if_pos hx]; exact ⟨I, hx, fun _ h => h⟩
  · rw [if_neg hx, e]
    have hk := kids_len G e
    have hnd : (M ++ [x]).Nodup := by
      rw [List.nodup_append]
      exact ⟨I.nd, by simp, fun a ha b hb => by rw [List.mem_singleton.mp hb]; rintro rfl; exact hx ha⟩
    have hin : ∀ y ∈ M ++ [x], ∃ t, Γ y = some t := fun y hy => by
      rcases List.mem_append.mp hy with h | h
      · exact I.inM y h
      · rw [List.mem_singleton.mp h]; exact ⟨t, e⟩
    have hlen := few G hnd hin
    refine ⟨⟨hnd, hin, fun y hy => ?_, fun y u b hy eu hb => ?_, fun y u k hy eu hk => ?_, ?_, ?_, fun y hy => ?_, ?_⟩, by simp, fun y hy => List.mem_append_left _ hy⟩
    · rcases List.mem_append.mp hy with h | h
      · exact I.inW y h
      · exact kids_in G e (List.mem_reverse.mp h)
    · rcases List.mem_append.mp hy with h | h
      · exact (I.ord y u b h eu hb).more
      · have := List.mem_singleton.mp h
        subst this
        rw [e] at eu; cases eu
        exact ⟨M, [], rfl, hp b hb⟩
    · rcases List.mem_append.mp hy with h | h
      · rcases I.kid y u k h eu hk with q | q | q
        · exact .inl (List.mem_append_left _ q)
        · exact .inr (.inl (List.mem_append_left _ q))
        · exact .inr (.inr q)
      · have := List.mem_singleton.mp h
        subst this
        rw [e] at eu; cases eu
        exact .inr (.inl (List.mem_append_right _ (List.mem_reverse.mpr hk)))
    · rcases I.root with q | q | q
      · exact .inl (List.mem_append_left _ q)
      · exact .inr (.inl (List.mem_append_left _ q))
      · exact .inr (.inr q)
    · obtain ⟨n, rfl, hn⟩ := I.new
      exact ⟨n ++ [x], by simp, fun y hy => by
        rcases List.mem_append.mp hy with h | h
        · exact hn y h
        · rw [List.mem_singleton.mp h]; exact hr⟩
    · rcases List.mem_append.mp hy with h | h
      · exact I.rW y h
      · exact .step hr e (List.mem_append_right _ (List.mem_reverse.mp h))
    · have := I.bd
      simp at hlen ⊢
      exact Nat.le_trans (Nat.le_add_right _ 1) (fuel (c := 0) hk this hlen)
theorem chain_inv (G : Gr N Γ Δ) {a : Nat} {c : List Nat} (h : Chain Γ a c) : ∀ {M w : List Nat}, PI Γ Δ N r M₀ B M w z → Rch Γ Δ r a →
    PI Γ Δ N r M₀ B (c.foldl (wstep Γ Δ) (M, w)).1 (c.foldl (wstep Γ Δ) (M, w)).2 z ∧ a ∈ (c.foldl (wstep Γ Δ) (M, w)).1 := by
  induction h with
  | one e hp =>
    intro M w I hr
    obtain ⟨h1, h2, _⟩ := wstep_inv G I e (fun b hb => by rw [hp] at hb; cases hb) hr
    exact ⟨h1, h2⟩
  | @more a b t c e hp hc ih =>
    intro M w I hr
    have hb : Rch Γ Δ r b := .step hr e (List.mem_append_left _ (by rw [hp]; simp))
    obtain ⟨h1, h2⟩ := ih I hb
    rw [List.foldl_append]
    obtain ⟨h3, h4, _⟩ := wstep_inv G h1 e (fun b' hb' => by rw [hp] at hb'; cases hb'; exact h2) hr
    exact ⟨h3, h4⟩
theorem chain_in (G : Gr N Γ Δ) {a : Nat} {c : List Nat} (h : Chain Γ a c) : ∀ x ∈ c, ∃ t, Γ x = some t := by
  induction h with
  | one e _ => intro x hx; rw [List.mem_singleton.mp hx]; exact ⟨_, e⟩
  | more e _ _ ih =>
    intro x hx
    rcases List.mem_append.mp hx with q | q
    · exact ih x q
    · rw [List.mem_singleton.mp q]; exact ⟨_, e⟩
theorem chain_len (G : Gr N Γ Δ) {a : Nat} {c : List Nat} (h : Chain Γ a c) : (c.length : Int) ≤ numOf Γ a := by
  induction h with
  | @one a t e _ => have := (G.num a t e).1; rw [numOf_eq e]; simpa using this
  | @more a b t c e hp hc ih =>
    have hb : t.base = some b := by unfold par at hp; split at hp; exact hp; cases hp
    obtain ⟨u, hu, hlt⟩ := G.base a t b e hb
    rw [numOf_eq hu] at ih
    rw [numOf_eq e]; simp; lia
theorem PI.pop {x : Nat} (I : PI Γ Δ N r M₀ B M (w ++ [x]) []) : ∃ B', B = B' + 1 ∧ PI Γ Δ N r M₀ B' M w [x] ∧ Rch Γ Δ r x ∧ ∃ t, Γ x = some t := by
  have hb := I.bd
  simp at hb
  refine ⟨B - 1, ge_pos hb, ⟨I.nd, I.inM, fun y hy => I.inW y (List.mem_append_left _ hy), I.ord, fun y t k h1 h2 h3 => ?_, ?_, I.new, fun y hy => I.rW y (List.mem_append_left _ hy), ge_dec hb⟩, I.rW x (by simp), I.inW x (by simp)⟩
  · rcases I.kid y t k h1 h2 h3 with q | q | q
    · exact .inl q
    · rcases List.mem_append.mp q with q | q
      · exact .inr (.inl q)
      · exact .inr (.inr q)
    · cases q
  · rcases I.root with q | q | q
    · exact .inl q
    · rcases List.mem_append.mp q with q | q
      · exact .inr (.inl q)
      · exact .inr (.inr q)
    · cases q
theorem PI.done {x : Nat} (I : PI Γ Δ N r M₀ B M w [x]) (hx : x ∈ M) : PI Γ Δ N r M₀ B M w [] := by
  refine ⟨I.nd, I.inM, I.inW, I.ord, fun y t k h1 h2 h3 => ?_, ?_, I.new, I.rW, I.bd⟩
  · rcases I.kid y t k h1 h2 h3 with q | q | q
    · exact .inl q
    · exact .inr (.inl q)
    · rw [List.mem_singleton.mp q]; exact .inl hx
  · rcases I.root with q | q | q
    · exact .inl q
    · exact .inr (.inl q)
    · rw [List.mem_singleton.mp q]; exact .inl hx
structure MI (Γ : Nat → Option TI) (Δ : Nat → Option OI) (M : List Nat) : Prop where
  nd : M.Nodup
  inM : ∀ x ∈ M, ∃ t, Γ x = some t
  ord : ∀ x t b, x ∈ M → Γ x = some t → par t = some b → Bef b x M
  kid : ∀ x t y, x ∈ M → Γ x = some t → y ∈ kids Δ t → y ∈ M
theorem PI.start (I : MI Γ Δ M) (hr : ∃ t, Γ r = some t) : PI Γ Δ N r M (1 + 5 * N) M [r] [] :=
  ⟨I.nd, I.inM, fun x hx => by rw [List.mem_singleton.mp hx]; exact hr, I.ord, fun x t y h1 h2 h3 => .inl (I.kid x t y h1 h2 h3), by simp, ⟨[], by simp, by simp⟩, fun x hx => by rw [List.mem_singleton.mp hx]; exact .refl, by simp; lia⟩
theorem PI.stop (I : PI Γ Δ N r M₀ B M [] []) : MI Γ Δ M ∧ r ∈ M ∧ ∃ n, M = M₀ ++ n ∧ ∀ x ∈ n, Rch Γ Δ r x :=
  ⟨⟨I.nd, I.inM, I.ord, fun x t y h1 h2 h3 => by simpa using I.kid x t y h1 h2 h3⟩, by simpa using I.root, I.new⟩
theorem MI.clo (I : MI Γ Δ M) {r x : Nat} (hr : r ∈ M) (h : Rch Γ Δ r x) : x ∈ M := by
  induction h with
  | refl => exact hr
  | step _ e hy ih =>
    rcases List.mem_append.mp hy with q | q
    · obtain ⟨p, s, rfl, hb⟩ := I.ord _ _ _ ih e (by simpa using q)
      exact List.mem_append_left _ hb
    · exact I.kid _ _ _ ih e q
structure FI (Γ : Nat → Option TI) (Δ : Nat → Option OI) (N r : Nat) (B : Nat) (F w : List Nat) : Prop where
  nd : F.Nodup
  inF : ∀ x ∈ F, ∃ t, Γ x = some t
  inW : ∀ x ∈ w, ∃ t, Γ x = some t
  kid : ∀ x t y, x ∈ F → Γ x = some t → y ∈ parts Δ t → y ∈ F ∨ y ∈ w
  root : r ∈ F ∨ r ∈ w
  rF : ∀ x ∈ F, Rch Γ Δ r x
  rW : ∀ x ∈ w, Rch Γ Δ r x
  bd : w.length + 6 * (N - F.length) ≤ B
variable {F : List Nat}
theorem FI.old {x : Nat} (I : FI Γ Δ N r B F (w ++ [x])) (hx : x ∈ F) : ∃ B', B = B' + 1 ∧ FI Γ Δ N r B' F w := by
  have hb := I.bd
  simp at hb
  refine ⟨B - 1, ge_pos hb, ⟨I.nd, I.inF, fun y hy => I.inW y (List.mem_append_left _ hy), fun y t k h1 h2 h3 => ?_, ?_, I.rF, fun y hy => I.rW y (List.mem_append_left _ hy), ge_dec hb⟩⟩
  · rcases I.kid y t k h1 h2 h3 with q | q
    · exact .inl q
    · rcases List.mem_append.mp q with q | q
      · exact .inr q
      · rw [List.mem_singleton.mp q]; exact .inl hx
  · rcases I.root with q | q
    · exact .inl q
    · rcases List.mem_append.mp q with q | q
      · exact .inr q
      · rw [List.mem_singleton.mp q]; exact .inl hx
theorem FI.fresh (G : Gr N Γ Δ) {x : Nat} {t : TI} (I : FI Γ Δ N r B F (w ++ [x])) (e : Γ x = some t) (hx : x ∉ F) : ∃ B', B = B' + 1 ∧ FI Γ Δ N r B' (F ++ [x]) (w ++ parts Δ t) := by
  have hb := I.bd
  have hr := I.rW x (by simp)
  have hp := parts_len G e
  have hnd : (F ++ [x]).Nodup := by
    rw [List.nodup_append]
    exact ⟨I.nd, by simp, fun a ha b hb => by rw [List.mem_singleton.mp hb]; rintro rfl; exact hx ha⟩
  have hin : ∀ y ∈ F ++ [x], ∃ t, Γ y = some t := fun y hy => by
    rcases List.mem_append.mp hy with h | h
    · exact I.inF y h
    · rw [List.mem_singleton.mp h]; exact ⟨t, e⟩
  have hlen := few G hnd hin
  simp at hb hlen
  refine ⟨B - 1, ge_pos hb, ⟨hnd, hin, fun y hy => ?_, fun y u k hy eu hk => ?_, ?_, fun y hy => ?_, fun y hy => ?_, ?_⟩⟩
  · rcases List.mem_append.mp hy with h | h
    · exact I.inW y (List.mem_append_left _ h)
    · exact parts_in G e h
  · rcases List.mem_append.mp hy with h | h
    · rcases I.kid y u k h eu hk with q | q
      · exact .inl (List.mem_append_left _ q)
      · rcases List.mem_append.mp q with q | q
        · exact .inr (List.mem_append_left _ q)
        · exact .inl (List.mem_append_right _ q)
    · have := List.mem_singleton.mp h
      subst this
      rw [e] at eu; cases eu
      exact .inr (List.mem_append_right _ hk)
  · rcases I.root with q | q
    · exact .inl (List.mem_append_left _ q)
    · rcases List.mem_append.mp q with q | q
      · exact .inr (List.mem_append_left _ q)
      · exact .inl (List.mem_append_right _ q)
  · rcases List.mem_append.mp hy with h | h
    · exact I.rF y h
    · rw [List.mem_singleton.mp h]; exact hr
  · rcases List.mem_append.mp hy with h | h
    · exact I.rW y (List.mem_append_left _ h)
    · exact .step hr e h
  · simp; exact Nat.le_sub_of_add_le (Nat.le_of_succ_le (fuel hp hb hlen))
theorem FI.start (hr : ∃ t, Γ r = some t) : FI Γ Δ N r (1 + 6 * N) [] [r] :=
  ⟨.nil, by simp, fun x hx => by rw [List.mem_singleton.mp hx]; exact hr, by simp, by simp, by simp, fun x hx => by rw [List.mem_singleton.mp hx]; exact .refl, by simp⟩
theorem FI.stop (I : FI Γ Δ N r B F []) : ∀ x, x ∈ F ↔ Rch Γ Δ r x := fun x => ⟨I.rF x, fun h => by
  induction h with
  | refl => simpa using I.root
  | step _ e hy ih => simpa using I.kid _ _ _ ih e hy⟩
end
end Mine.L
end
section
namespace Mine.L
theorem extend_ap {h : List AO} {l : Str → Option AV} {a j r k : Nat} {xs ys : List AV} (e : h[a]? = some (.list xs)) (n : xs.length ≤ szMax) (ej : h[j]? = some (.rev r k)) (er : h[r]? = some (.list ys)) (ne : a ≠ r) (hk : ys.length = k) (nk : k ≤ szMax) :
    listM (Str.ofString "extend") a [.ref j] ⟨h, l⟩ = some (.none, ⟨(h.set a (.list (xs ++ ys.reverse))).set j .junk, l⟩) := by
  rw [ext_m e n]
  have hr : revAt h (.ref j) = some (j, r, k) := by unfold revAt; simp only [ej]
  show (revAt h (.ref j)).bind _ = _
  rw [hr]
  show (listAt h r).bind _ = _
  rw [list_at er]
  exact if_pos ⟨ne, hk, nk⟩
theorem pop_ap {h : List AO} {l : Str → Option AV} {a : Nat} {xs : List AV} {v : AV} (e : h[a]? = some (.list (xs ++ [v]))) (n : (xs ++ [v]).length ≤ szMax) : listM (Str.ofString "pop") a [] ⟨h, l⟩ = some (v, ⟨h.set a (.list xs), l⟩) := by
  rw [pop_m e n]
  unfold popL
  simp only [List.reverse_append, List.reverse_cons, List.reverse_nil, List.nil_append, List.cons_append, List.reverse_reverse]
  rfl
theorem rev_ap {h : List AO} {l : Str → Option AV} {a : Nat} {xs : List AV} (e : h[a]? = some (.list xs)) (n : xs.length ≤ szMax) : callB (.typ "reversed") [.ref a] ⟨h, l⟩ = some (.ref h.length, ⟨h ++ [.rev a xs.length], l⟩) := by
  rw [t_rev]
  show (listAt h a).bind _ = _
  rw [list_at e]; exact if_pos n
theorem len_ap {h : List AO} {l : Str → Option AV} {a : Nat} {xs : List AV} (e : h[a]? = some (.list xs)) (n : xs.length ≤ szMax) : callB (.bltn "len") [.ref a] ⟨h, l⟩ = some (.int xs.length, ⟨h, l⟩) := by
  rw [b_len]; exact len_list e n
noncomputable def own (Γ : Nat → Option TI) (x : Nat) : Bool := match Γ x with
  | some t => t.form == S! "record" && t.mod == S! "M"
  | none => false
structure IsWalk (Γ : Nat → Option TI) (h : List AO) (wk : Nat) (M : List Nat) : Prop where
  pos : 0 < wk
  inst : h[wk]? = some (.inst 0 (wk - 1))
  flds : h[wk - 1]? = some (.flds [(S! "module", .str (S! "M")), (S! "met", .ref (wk + 1)), (S! "records", .ref (wk + 2))])
  met : h[wk + 1]? = some (.idict (M.map fun a => (numOf Γ a, .bool true)))
  rcs : h[wk + 2]? = some (.list (rf (M.filter (own Γ))))
section
variable {D N : Nat} {Γ : Nat → Option TI} {Δ : Nat → Option OI} {ex nm : Nat → Int} {h : List AO} {wk : Nat} {M w : List Nat}
theorem IsWalk.rd (H : IsWalk Γ h wk M) : (∀ l, attr theQ (.ref wk) (Str.ofString "module") ⟨h, l⟩ = some (.str (S! "M"))) ∧ (∀ l, attr theQ (.ref wk) (Str.ofString "met") ⟨h, l⟩ = some (.ref (wk + 1))) ∧ (∀ l, attr theQ (.ref wk) (Str.ofString "records") ⟨h, l⟩ = some (.ref (wk + 2))) :=
  ⟨fun _ => attr_of H.inst H.flds (by kernel_rfl) (by kernel_rfl) rfl, fun _ => attr_of H.inst H.flds (by kernel_rfl) (by kernel_rfl) rfl, fun _ => attr_of H.inst H.flds (by kernel_rfl) (by kernel_rfl) rfl⟩
theorem IsWalk.frame (H : IsWalk Γ h wk M) {h' : List AO} (k : ∀ j, wk - 1 ≤ j → j ≤ wk + 2 → h'[j]? = h[j]?) : IsWalk Γ h' wk M :=
  ⟨H.pos, (k _ (by lia) (by lia)).trans H.inst, (k _ (by lia) (by lia)).trans H.flds, (k _ (by lia) (by lia)).trans H.met, (k _ (by lia) (by lia)).trans H.rcs⟩
theorem IsWalk.lt (H : IsWalk Γ h wk M) : wk + 2 < h.length := lt_of H.rcs
theorem findI_none {k : Int} {es : List (Int × AV)} (h : ∀ p ∈ es, p.1 ≠ k) : findI k es = none := by
  unfold findI
  rw [Option.map_eq_none_iff, List.find?_eq_none]
  intro p hp; simpa using h p hp
theorem findI_some {k : Int} {es : List (Int × AV)} {v : AV} (h : (k, v) ∈ es) : (findI k es).isSome = true := by
  unfold findI
  rw [Option.isSome_map, List.find?_isSome]
  exact ⟨_, h, by simp⟩
theorem putI_new {k : Int} {es : List (Int × AV)} {v : AV} (h : ∀ p ∈ es, p.1 ≠ k) : putI k v es = es ++ [(k, v)] := by
  unfold putI
  rw [if_neg]
  intro q
  obtain ⟨p, hp, e⟩ := List.any_eq_true.mp q
  exact h p hp (by simpa using e)
theorem met_find (G : Gr N Γ Δ) (hM : ∀ y ∈ M, ∃ t, Γ y = some t) {x : Nat} {t : TI} (e : Γ x = some t) :
    (findI t.num (M.map fun a => (numOf Γ a, AV.bool true))).isSome = decide (x ∈ M) := by
  by_cases hx : x ∈ M
  · rw [decide_eq_true hx]
    exact findI_some (v := .bool true) (List.mem_map.mpr ⟨x, hx, by rw [numOf_eq e]⟩)
  · rw [decide_eq_false hx, findI_none]; rfl
    intro p hp
    obtain ⟨y, hy, rfl⟩ := List.mem_map.mp hp
    intro q
    have q : numOf Γ y = t.num := q
    rw [← numOf_eq e] at q
    exact hx (numOf_inj G (hM y hy) ⟨t, e⟩ q ▸ hy)
theorem one_turn (W : Wd D Γ Δ ex nm h) (G : Gr N Γ Δ) (hD : D ≤ wk - 1) (K : IsWalk Γ h wk M) {wt : Nat} (hw : h[wt]? = some (.list (rf w))) (hwt : wk + 2 < wt) {x : Nat} {t : TI} (e : Γ x = some t)
    (hM : ∀ y ∈ M, ∃ t, Γ y = some t) (nd : M.Nodup) (wl : w.length ≤ 20000) (n : Nat) {l : Str → Option AV} (l1 : l (S! "one") = some (.ref x)) (l2 : l (S! "self") = some (.ref wk)) (l3 : l (S! "waiting") = some (.ref wt)) :
    ∃ h', seq (L4_0 n) ⟨h, l⟩ = some (.next, ⟨h', l⟩) ∧ Up [wk + 1, wk + 2, wt] h h' ∧ IsWalk Γ h' wk (wstep Γ Δ (M, w) x).1 ∧ h'[wt]? = some (.list (rf (wstep Γ Δ (M, w) x).2)) := by
  have RT := (W.ty x t e).choose_spec.rd
  have RK := K.rd
  have hp := K.pos
  have hlt := K.lt
  have hwlt := lt_of hw
  have ML := few G nd hM
  have Ns := G.small
  unfold L4_0 wstep
  by_cases hx : x ∈ M
  · rw [if_pos hx]
    refine ⟨h, ?_, Up.refl _ _, K, hw⟩
    simp only [brS_f, then_n, iff_ap, tcmp_ap, att_ap, var_ap, Option.map_some, Option.bind_some, c_nin, seq_cons, seq_nil, Bool.not_true, l1, l2, RT, RK, in_dict K.met, met_find G hM e, hx, decide_true]
  · rw [if_neg hx, e]
    let h1 := h.set (wk + 1) (.idict ((M ++ [x]).map fun a => (numOf Γ a, AV.bool true)))
    have U1 : Up [wk + 1, wk + 2, wt] h h1 := (Up.refl _ _).set (.inl (by simp))
    have W1 : Wd D Γ Δ ex nm h1 := W.up U1 (by (clear_value *; lia)) (by simp; (clear_value *; lia))
    have K1 : ∀ l, attr theQ (.ref wk) (Str.ofString "records") ⟨h1, l⟩ = some (.ref (wk + 2)) := fun l =>
      attr_of (c := 0) (d := wk - 1) ((get_set_ne (by (clear_value *; lia))).trans K.inst) ((get_set_ne (by (clear_value *; lia))).trans K.flds) (by kernel_rfl) (by kernel_rfl) rfl
    have K1m : ∀ l, attr theQ (.ref wk) (Str.ofString "module") ⟨h1, l⟩ = some (.str (S! "M")) := fun l =>
      attr_of (c := 0) (d := wk - 1) ((get_set_ne (by (clear_value *; lia))).trans K.inst) ((get_set_ne (by (clear_value *; lia))).trans K.flds) (by kernel_rfl) (by kernel_rfl) rfl
    have RT1 := (W1.ty x t e).choose_spec.rd
    have rc1 : h1[wk + 2]? = some (.list (rf (M.filter (own Γ)))) := (get_set_ne (by (clear_value *; lia))).trans K.rcs
    let h2 := if own Γ x then h1.set (wk + 2) (.list (rf (M.filter (own Γ) ++ [x]))) else h1
    have U2 : Up [wk + 1, wk + 2, wt] h h2 := by
      show Up _ _ (if own Γ x then _ else h1)
      split
      · exact U1.set (.inl (by simp))
      · exact U1
    have W2 : Wd D Γ Δ ex nm h2 := W.up U2 (by (clear_value *; lia)) (by simp; (clear_value *; lia))
    have K2 : IsWalk Γ h2 wk (M ++ [x]) := by
      have a1 : h1[wk + 1]? = some (.idict ((M ++ [x]).map fun a => (numOf Γ a, AV.bool true))) := get_set K.met
      have a2 : h1[wk]? = _ := (get_set_ne (by (clear_value *; lia))).trans K.inst
      have a3 : h1[wk - 1]? = _ := (get_set_ne (by (clear_value *; lia))).trans K.flds
      show IsWalk Γ (if own Γ x then _ else h1) wk _
      split
      · rename_i ho
        exact ⟨K.pos, (get_set_ne (by (clear_value *; lia))).trans a2, (get_set_ne (by (clear_value *; lia))).trans a3, (get_set_ne (by (clear_value *; lia))).trans a1, by rw [get_set rc1]; simp [ho]⟩
      · rename_i ho
        exact ⟨K.pos, a2, a3, a1, by rw [rc1]; simp [ho]⟩
    have hw2 : h2[wt]? = some (.list (rf w)) := by
      show (if own Γ x then _ else h1)[wt]? = _
      have : h1[wt]? = some (.list (rf w)) := (get_set_ne (by (clear_value *; lia))).trans hw
      split
      · exact (get_set_ne (by (clear_value *; lia))).trans this
      · exact this
    have hl2 : h2.length = h.length := by
      show (if own Γ x then _ else h1).length = _
      split <;> simp [h1]
    refine ex2_3 (next_ok W2 G (by (clear_value *; lia)) e (show 11 ≤ n + 11 from Nat.le_add_left 11 n)) fun X r c1 c2 c3 => ?_
    have kl := kids_len G e
    have hr3 : (h2 ++ X)[r]? = some (.list (rf (kids Δ t))) := c3
    have hrl := lt_of c3
    let h5 : List AO := (((h2 ++ X) ++ [AO.rev r (kids Δ t).length]).set wt (.list (rf w ++ (rf (kids Δ t)).reverse))).set (h2 ++ X).length .junk
    have U5 : Up [wk + 1, wk + 2, wt] h h5 := ((U2.appR X).appR _ |>.set (.inl (by simp))).set (.inr (by simp; (clear_value *; lia)))
    have hlen4 : wt < ((h2 ++ X) ++ [AO.rev r (kids Δ t).length]).length := by simp; (clear_value *; lia)
    refine ⟨h5, ?_, U5, ?_, ?_⟩
    · have rl : (rf (kids Δ t)).length = (kids Δ t).length := by simp [rf]
      have inner : seq [seti (att (var (S! "self")) (S! "met")) (att (var (S! "one")) (S! "number")) (lit (.bool true)),
          iff' (tAll .And [tcmp .Eq (att (var (S! "one")) (S! "form")) (lit (.str (S! "record"))), tcmp .Eq (att (var (S! "one")) (S! "module")) (att (var (S! "self")) (S! "module"))]) [sE (meth ((run theQ (n + 12)).fn) (att (var (S! "self")) (S! "records")) (S! "append") [var (S! "one")])] [],
          sE (meth ((run theQ (n + 13)).fn) (var (S! "waiting")) (S! "extend") [bcall (.typ "reversed") [callf ((run theQ (n + 11)).fn) 1 [var (S! "one")]]])] ⟨h, l⟩ = some (.next, ⟨h5, l⟩) := by
        rw [seq_next (σ' := ⟨h1, l⟩) (by
          have nf : ∀ p ∈ (M.map fun a => (numOf Γ a, AV.bool true)), p.1 ≠ t.num := fun p hp q => by
            obtain ⟨y, hy, rfl⟩ := List.mem_map.mp hp
            have q : numOf Γ y = t.num := q
            rw [← numOf_eq e] at q
            exact hx (numOf_inj G (hM y hy) ⟨t, e⟩ q ▸ hy)
          simp only [att_ap, lit_ap, var_ap, Option.map_some, Option.bind_some, seti_ap, asgI_ap, l1, l2, RT, RK, set_dict K.met (show (M.map fun a => (numOf Γ a, AV.bool true)).length ≤ szMax from by rw [List.length_map, szm]; (clear_value *; lia)), putI_new nf]
          simp only [h1, List.map_append, List.map_cons, List.map_nil, numOf_eq e])]
        rw [seq_next (σ' := ⟨h2, l⟩) (by
          have ro : own Γ x = (t.form == S! "record" && t.mod == S! "M") := by unfold own; rw [e]
          by_cases hf : t.form = S! "record"
          · by_cases hm : t.mod = S! "M"
            · have : own Γ x = true := by rw [ro, hf, hm]; simp
              simp only [brS_t, andK_t, iff_ap, tand2, tcmp_ap, att_ap, lit_ap, var_ap, Option.map_some, Option.bind_some, c_eq, s_str, seq_cons, sE_ap, l1, l2, RT1, K1m, hf, hm, beq_self_eq_true]
              rw [lmeth (k := wk + 2) (σ' := ⟨h1, l⟩) (xs := rf (M.filter (own Γ))) (by simp only [att_ap, var_ap, Option.map_some, Option.bind_some, l2, K1]) rc1]
              simp only [then_n, var_ap, Option.map_some, Option.bind_some, seq_nil, evl_cons, evl_nil, l1, append_ap rc1 (show (rf (M.filter (own Γ))).length ≤ szMax from by have := List.length_filter_le (own Γ) M; rw [szm]; simp only [rf, List.length_map]; (clear_value *; lia))]
              simp only [h2, this, if_true, rf, List.map_append, List.map_cons, List.map_nil]
            · have nm' : (t.mod == S! "M") = false := beq_eq_false_iff_ne.mpr hm
              have : own Γ x = false := by rw [ro, nm']; simp
              simp only [brS_f, andK_t, iff_ap, tand2, tcmp_ap, att_ap, lit_ap, var_ap, Option.map_some, Option.bind_some, c_eq, s_str, seq_nil, l1, l2, RT1, K1m, hf, nm', beq_self_eq_true]
              simp only [h2, this, Bool.false_eq_true, if_false]
          · have nf' : (t.form == S! "record") = false := beq_eq_false_iff_ne.mpr hf
            have : own Γ x = false := by rw [ro, nf']; simp
            simp only [brS_f, andK_f, iff_ap, tand2, tcmp_ap, att_ap, lit_ap, var_ap, Option.map_some, Option.bind_some, c_eq, s_str, seq_nil, l1, RT1, nf']
            simp only [h2, this, Bool.false_eq_true, if_false])]
        rw [seq_next (σ' := ⟨h5, l⟩) (by
          rw [sE_ap, lmeth (k := wt) (σ' := ⟨h2, l⟩) (xs := rf w) (by simp only [var_ap, Option.map_some, l3]) hw2]
          simp only [evl_cons, evl_nil, bcall_ap, callf_ap, var_ap, l1, Option.map_some, Option.bind_some, c1 l, rev_ap (l := l) c3 (by rw [rl, szm]; (clear_value *; lia)), rl]
          rw [extend_ap (xs := rf w) (ys := rf (kids Δ t)) (r := r) (k := (kids Δ t).length) ?_ ?_ get_app0 ?_ ?_ rl ?_]
          · rfl
          · rw [get_lt (by simp; (clear_value *; lia)), get_lt (by (clear_value *; lia))]; exact hw2
          · rw [szm]; simp [rf]; (clear_value *; lia)
          · rw [get_lt hrl]; exact c3
          · (clear_value *; lia)
          · rw [szm]; (clear_value *; lia))]
        rfl
      rw [seq_next (σ' := ⟨h5, l⟩) (by
        simp only [iff_ap, tcmp_ap, att_ap, var_ap, Option.map_some, Option.bind_some, c_nin, l1, l2, RT, RK, in_dict K.met, met_find G hM e, hx, decide_false, Bool.not_false, brS_t]
        exact inner)]
      rfl
    · refine K2.frame fun j h1' h2' => ?_
      show ((((h2 ++ X) ++ [AO.rev r (kids Δ t).length]).set wt _).set (h2 ++ X).length .junk)[j]? = _
      rw [get_set_ne (by simp; (clear_value *; lia)), get_set_ne (by (clear_value *; lia)), get_lt (by simp; (clear_value *; lia)), get_lt (by (clear_value *; lia))]
    · show ((((h2 ++ X) ++ [AO.rev r (kids Δ t).length]).set wt _).set (h2 ++ X).length .junk)[wt]? = _
      rw [get_set_ne (by simp; (clear_value *; lia)), List.getElem?_set_self hlen4]
      simp [rf]
end
end Mine.L
end
section
namespace Mine.L
section
variable {D N : Nat} {Γ : Nat → Option TI} {Δ : Nat → Option OI} {ex nm : Nat → Int} {wk wt r : Nat} {M₀ : List Nat}
theorem forl_go {x : Str} {e : SE} {body : List SS} {σ σ' : St} {b : Nat} {xs : List AV} {h : List AO} {l : Str → Option AV} {f : Fl} (he : e σ = some (.ref b, ⟨h, l⟩)) (hb : h[b]? = some (.list xs)) (n : xs.length ≤ szMax)
    (k : forN x (.ref h.length) (seq body) loops ⟨h ++ [.liter b 0], l⟩ = some (f, σ')) : forl x e body σ = some (f, σ') := by
  rw [forl_ap, he, Option.bind_some, mkIter_list hb n, Option.bind_some]
  exact k
theorem rf_get {c : List Nat} {i : Nat} {v : AV} (h : (rf c)[i]? = some v) : ∃ x, c[i]? = some x ∧ v = .ref x := by
  unfold rf at h
  rw [List.getElem?_map] at h
  cases q : c[i]? with
  | none => rw [q] at h; cases h
  | some x => rw [q] at h; exact ⟨x, rfl, (Option.some.inj h).symm⟩
theorem rf_len (c : List Nat) : (rf c).length = c.length := by simp [rf]
theorem take_succ {α : Type} {c : List α} {i : Nat} {x : α} (h : c[i]? = some x) : c.take (i + 1) = c.take i ++ [x] := by rw [List.take_add_one, h]; rfl
theorem wstep_nd (Ch : ∃ t, Γ = t) {M w : List Nat} {x : Nat} (nd : M.Nodup) : (wstep Γ Δ (M, w) x).1.Nodup := by
  unfold wstep
  by_cases hx : x ∈ M
  · rw [if_pos hx]; exact nd
  · rw [if_neg hx, List.nodup_append]
    exact ⟨nd, by simp, fun a ha b hb => by rw [List.mem_singleton.mp hb]; rintro rfl; exact hx ha⟩
theorem wstep_in {M w : List Nat} {x : Nat} (hx : ∃ t, Γ x = some t) (hM : ∀ y ∈ M, ∃ t, Γ y = some t) : ∀ y ∈ (wstep Γ Δ (M, w) x).1, ∃ t, Γ y = some t := by
  unfold wstep
  by_cases h : x ∈ M
  · rw [if_pos h]; exact hM
  · rw [if_neg h]
    intro y hy
    rcases List.mem_append.mp hy with q | q
    · exact hM y q
    · rw [List.mem_singleton.mp q]; exact hx
theorem wstep_len (G : Gr N Γ Δ) {M w : List Nat} {x : Nat} {t : TI} (e : Γ x = some t) : (wstep Γ Δ (M, w) x).2.length ≤ w.length + 4 := by
  unfold wstep
  have := kids_len G e
  by_cases h : x ∈ M
  · rw [if_pos h]; simp
  · rw [if_neg h, e]; simp; lia
theorem reach_loop (G : Gr N Γ Δ) (hD : D ≤ wk - 1) (hwt : wk + 2 < wt) (n : Nat) : ∀ (k : Nat) (h : List AO) (l : Str → Option AV) (M w : List Nat) (B m : Nat), B ≤ k → k < m → B ≤ 6000 → PI Γ Δ N r M₀ B M w [] → Wd D Γ Δ ex nm h → IsWalk Γ h wk M → h[wt]? = some (.list (rf w)) →
    l (S! "self") = some (.ref wk) → l (S! "waiting") = some (.ref wt) →
    ∃ h' l' M' B', whileN (tcmp .Gt (bcall (.bltn "len") [var (S! "waiting")]) (lit (.int 0))) (seq (L4_1 n)) m ⟨h, l⟩ = some (.next, ⟨h', l'⟩) ∧ Up [wk + 1, wk + 2, wt] h h' ∧ IsWalk Γ h' wk M' ∧ PI Γ Δ N r M₀ B' M' [] [] := by
  intro k
  induction k with
  | zero =>
    intro h l M w B m hB hm hB2 I W K hw ls lw
    obtain ⟨m, rfl⟩ : ∃ m', m = m' + 1 := ⟨m - 1, by lia⟩
    have hb := I.bd
    have : w = [] := List.eq_nil_of_length_eq_zero (by lia)
    subst this
    refine ⟨h, l, M, B, ?_, Up.refl _ _, K, I⟩
    unfold whileN
    simp only [tcmp_ap, lit_ap, var_ap, Option.map_some, Option.bind_some, c_gt, evl_cons, evl_nil, bcall_ap, lw, len_ap (l := l) hw (by simp [rf, szm])]
    simp [rf]
  | succ k ih =>
    intro h l M w B m hB hm hB2 I W K hw ls lw
    obtain ⟨m, rfl⟩ : ∃ m', m = m' + 1 := ⟨m - 1, by lia⟩
    rcases List.eq_nil_or_concat w with rfl | ⟨w', x, rfl⟩
    · refine ⟨h, l, M, B, ?_, Up.refl _ _, K, I⟩
      unfold whileN
      simp only [tcmp_ap, lit_ap, var_ap, Option.map_some, Option.bind_some, c_gt, evl_cons, evl_nil, bcall_ap, lw, len_ap (l := l) hw (by simp [rf, szm])]
      simp [rf]
    · rw [List.concat_eq_append] at I hw
      have hb := I.bd
      simp at hb
      have hp := K.pos
      have hlt := K.lt
      have hwl := lt_of hw
      obtain ⟨B', rfl, I1, hr, t, e⟩ := I.pop
      have hwlen : (rf (w' ++ [x])).length ≤ szMax := by rw [szm]; simp [rf]; lia
      let h1 := h.set wt (.list (rf w'))
      have U1 : Up [wk + 1, wk + 2, wt] h h1 := (Up.refl _ _).set (.inl (by simp))
      have W1 := W.up U1 (by (clear_value *; lia)) (by simp; (clear_value *; lia))
      have hh1 : h1.length = h.length := by simp [h1]
      refine ex3_4 (bases_ok W1 G (by (clear_value *; lia)) e (show 6 ≤ n + 15 from Nat.le_add_left 6 (n + 9))) fun X rr c c1 c2 c3 ch => ?_
      have cl : c.length ≤ N := by
        have := chain_len G ch
        have := (G.num x t e).2
        rw [numOf_eq e] at *; (clear_value *; lia)
      have Ns := G.small
      have hc := chain_in G ch
      have U2 : Up [wk + 1, wk + 2, wt] h (h1 ++ X) := U1.appR X
      have rl : rr < (h1 ++ X).length := lt_of c3
      have K2 : IsWalk Γ (h1 ++ X) wk M := K.frame fun j q1 q2 => by rw [get_lt (by (clear_value *; lia))]; exact get_set_ne (by (clear_value *; lia))
      have hw2 : (h1 ++ X)[wt]? = some (.list (rf w')) := by rw [get_lt (by (clear_value *; lia))]; exact get_set hw
      let J : Nat → List AO → (Str → Option AV) → Prop := fun i g lg => Up [wk + 1, wk + 2, wt] (h1 ++ X) g ∧ IsWalk Γ g wk ((c.take i).foldl (wstep Γ Δ) (M, w')).1 ∧ g[wt]? = some (.list (rf ((c.take i).foldl (wstep Γ Δ) (M, w')).2)) ∧
        lg (S! "self") = some (.ref wk) ∧ lg (S! "waiting") = some (.ref wt) ∧ ((c.take i).foldl (wstep Γ Δ) (M, w')).1.Nodup ∧ (∀ y ∈ ((c.take i).foldl (wstep Γ Δ) (M, w')).1, ∃ t, Γ y = some t) ∧ ((c.take i).foldl (wstep Γ Δ) (M, w')).2.length ≤ 6000 + 4 * i
      have hX : h1.length ≤ (h1 ++ X).length := by simp
      obtain ⟨h', l', e1, ⟨J1, J2, J3, J4, J5, _⟩⟩ := forN_list (x := S! "one") (b := rr) (xs := rf c) (body := seq (L4_0 n)) (j := (h1 ++ X).length) (by rw [rf_len, szm]; (clear_value *; lia)) J
        (fun i g lg q => q.1.get c3 (by simp; (clear_value *; lia)))
        (fun i g lg o q _ => ⟨q.1.set (.inr (Nat.le_refl _)), q.2.1.frame fun j q1 q2 => get_set_ne (by (clear_value *; lia)), (get_set_ne (by (clear_value *; lia))).trans q.2.2.1, q.2.2.2⟩)
        (fun i g lg v q hv hj => by
          obtain ⟨q1, q2, q3, q4, q5, q6, q7, q8⟩ := q
          obtain ⟨y, hy, rfl⟩ := rf_get hv
          obtain ⟨u, eu⟩ := hc y (List.mem_of_getElem? hy)
          have hi := (List.getElem?_eq_some_iff.mp hy).1
          have Wg := (W1.app (by (clear_value *; lia)) X).up q1 (by (clear_value *; lia)) (by simp; (clear_value *; lia))
          refine ex1_4 (one_turn Wg G hD q2 q3 hwt eu q7 q6 (by (clear_value *; lia)) n (l := upd lg (S! "one") (.ref y)) (by kernel_rfl!) (by simp only [upd_ap, if_false, ofS_inj, String.reduceEq]; exact q4) (by simp only [upd_ap, if_false, ofS_inj, String.reduceEq]; exact q5)) fun g' t1 t2 t3 t4 => ?_
          refine ⟨.next, g', _, t1, .inl rfl, t2.2 _ (lt_of hj) (by simp; (clear_value *; lia)), q1.trans t2, ?_, ?_, by simp only [upd_ap, if_false, ofS_inj, String.reduceEq]; exact q4, by simp only [upd_ap, if_false, ofS_inj, String.reduceEq]; exact q5, ?_, ?_, ?_⟩
          · rw [take_succ hy, List.foldl_append]; exact t3
          · rw [take_succ hy, List.foldl_append]; exact t4
          · rw [take_succ hy, List.foldl_append]; exact wstep_nd ⟨_, rfl⟩ q6
          · rw [take_succ hy, List.foldl_append]; exact wstep_in ⟨u, eu⟩ q7
          · rw [take_succ hy, List.foldl_append]
            have := wstep_len G (M := (List.foldl (wstep Γ Δ) (M, w') (List.take i c)).1) (w := (List.foldl (wstep Γ Δ) (M, w') (List.take i c)).2) eu
            exact Nat.le_trans this (by (clear_value *; lia)))
        c.length 0 ((h1 ++ X) ++ [.liter rr 0]) l loops (by rw [rf_len]; (clear_value *; lia)) (by unfold loops; (clear_value *; lia)) get_app0 (by (clear_value *; lia))
        ⟨Up.app _ _ _, K2.frame fun j q1 q2 => get_lt (by (clear_value *; lia)), (get_lt (by (clear_value *; lia))).trans hw2, ls, lw, I.nd, I.inM, by simp; (clear_value *; lia)⟩
      rw [rf_len, List.take_length] at J2 J3
      have U3 : Up [wk + 1, wk + 2, wt] h h' := U2.trans J1
      obtain ⟨I2, hx2⟩ := chain_inv G ch I1 hr
      have I3 := I2.done hx2
      obtain ⟨h'', l'', M', B'', e2, U4, K4, I4⟩ := ih h' l' _ _ B' m (by (clear_value *; lia)) (by (clear_value *; lia)) (by (clear_value *; lia)) I3 (W.up U3 (by (clear_value *; lia)) (by simp; (clear_value *; lia))) J2 J3 J4 J5
      refine ⟨h'', l'', M', B'', ?_, U3.trans U4, K4, I4⟩
      unfold whileN
      have ht : tcmp .Gt (bcall (.bltn "len") [var (S! "waiting")]) (lit (.int 0)) ⟨h, l⟩ = some (true, ⟨h, l⟩) := by
        simp only [tcmp_ap, lit_ap, var_ap, Option.map_some, Option.bind_some, c_gt, evl_cons, evl_nil, bcall_ap, lw, len_ap (l := l) hw hwlen]
        simp [rf]
      rw [ht]
      simp only [Option.bind_some, if_true]
      have hbody : seq (L4_1 n) ⟨h, l⟩ = some (.next, ⟨h', l'⟩) := by
        unfold L4_1
        rw [seq_next (σ' := ⟨h', l'⟩) (by
          refine forl_go (b := rr) (xs := rf c) (h := h1 ++ X) (l := l) ?_ c3 (by rw [rf_len, szm]; (clear_value *; lia)) e1
          rw [callf_ap, evl_cons, lmeth (k := wt) (σ' := ⟨h, l⟩) (xs := rf (w' ++ [x])) (by simp only [var_ap, Option.map_some, lw]) hw]
          have hq : rf (w' ++ [x]) = rf w' ++ [.ref x] := by simp [rf]
          rw [hq] at hw hwlen
          simp only [evl_nil, Option.bind_some, pop_ap (l := l) hw hwlen]
          exact c1 l)]
        first | done | rfl
      rw [hbody]
      simp only [Option.bind_some]
      exact e2
theorem reach_ok (G : Gr N Γ Δ) {h : List AO} (W : Wd D Γ Δ ex nm h) (hD : D ≤ wk - 1) {M : List Nat} (K : IsWalk Γ h wk M) (I : MI Γ Δ M) (hr : ∃ t, Γ r = some t) {m : Nat} (hm : 19 ≤ m) :
    ∃ h' M' new, Call m 4 [.ref wk, .ref r] h .none h' ∧ Up [wk + 1, wk + 2] h h' ∧ IsWalk Γ h' wk M' ∧ MI Γ Δ M' ∧ r ∈ M' ∧ M' = M ++ new ∧ ∀ x ∈ new, Rch Γ Δ r x := by
  obtain ⟨n, rfl⟩ := ge_ex (show 19 ≤ m by assumption)
  have hlt := K.lt
  have Ns := G.small
  obtain ⟨h', l', M', B', e1, U, K', I'⟩ := reach_loop (M₀ := M) (r := r) G hD (show wk + 2 < h.length by lia) n (1 + 5 * N) (h ++ [.list (rf [r])]) (upd (env [(S! "self", .ref wk), (S! "t", .ref r)]) (S! "waiting") (.ref h.length)) M [r] (1 + 5 * N) loops (Nat.le_refl _) (by unfold loops; lia) (by lia)
    (PI.start I hr) (W.app (by lia) _) (K.frame fun j q1 q2 => get_lt (by lia)) get_app0 (by kernel_rfl!) (by kernel_rfl!)
  obtain ⟨z1, z2, new, z3, z4⟩ := I'.stop
  refine ⟨h', M', new, fun l => ?_, ?_, K', z1, z2, z3, z4⟩
  · rw [fn4]
    apply frun_next'
    unfold B4
    rw [seq_next (σ' := ⟨h ++ [.list (rf [r])], upd (env [(S! "self", .ref wk), (S! "t", .ref r)]) (S! "waiting") (.ref h.length)⟩) (by simp only [var_ap, env_cons, if_true, if_false, Option.map_some, Option.bind_some, setl_ap, lst_ap, evl_cons, evl_nil, ofS_inj, String.reduceEq]; rfl)]
    rw [seq_next (σ' := ⟨h', l'⟩) (by rw [whl_ap]; exact e1)]
    first | done | rfl
  · have := ((Up.app [wk + 1, wk + 2, h.length] h [.list (rf [r])]).trans U)
    exact this.mono fun j hj hl => by
      simp at hj ⊢; lia
end
end Mine.L
end
section
namespace Mine.L
section
variable {D N : Nat} {Γ : Nat → Option TI} {Δ : Nat → Option OI} {ex nm : Nat → Int} {fd wt r : Nat}
theorem inL_ints (k : Int) : ∀ ns : List Int, inL (.int k) (ofInts ns) = some (decide (k ∈ ns))
  | [] => rfl
  | n :: ns => by
    show ((eqS (.int n) (.int k)).bind fun b => (inL (.int k) (ofInts ns)).map fun c => b || c) = _
    rw [inL_ints k ns]
    simp only [s_int, Option.bind_some, Option.map_some, List.mem_cons, Option.some.injEq]
    by_cases h : k = n
    · subst h; simp
    · have : (n == k) = false := by simpa using fun e : n = k => h e.symm
      simp [this, h]
theorem nums_map (F : List Nat) : F.map (fun x => AV.int (numOf Γ x)) = ofInts (F.map (numOf Γ)) := by unfold ofInts; rw [List.map_map]; rfl
theorem num_mem (G : Gr N Γ Δ) {F : List Nat} (hF : ∀ y ∈ F, ∃ t, Γ y = some t) {x : Nat} {t : TI} (e : Γ x = some t) : decide (t.num ∈ F.map (numOf Γ)) = decide (x ∈ F) := by
  apply decide_eq_decide.mpr
  constructor
  · intro q
    obtain ⟨y, hy, q⟩ := List.mem_map.mp q
    rw [← numOf_eq e] at q
    exact numOf_inj G (hF y hy) ⟨t, e⟩ q ▸ hy
  · intro q
    exact List.mem_map.mpr ⟨x, q, numOf_eq e⟩
theorem pops {fn : SF} {h : List AO} {l : Str → Option AV} {w : List Nat} {x : Nat} (ls : l (S! "waiting") = some (.ref wt)) (hw : h[wt]? = some (.list (rf (w ++ [x])))) (n : (w ++ [x]).length ≤ szMax) :
    meth fn (var (S! "waiting")) (S! "pop") [] ⟨h, l⟩ = some (.ref x, ⟨h.set wt (.list (rf w)), l⟩) := by
  rw [lmeth (k := wt) (σ' := ⟨h, l⟩) (xs := rf (w ++ [x])) (by simp only [var_ap, Option.map_some, ls]) hw]
  have hq : rf (w ++ [x]) = rf w ++ [.ref x] := by simp [rf]
  rw [hq] at hw
  simp only [evl_nil, Option.bind_some, pop_ap (l := l) hw (by rw [← hq, rf_len]; exact n)]
theorem met_turn (G : Gr N Γ Δ) {h : List AO} {l : Str → Option AV} {F w : List Nat} {x : Nat} {t : TI} (W : Wd D Γ Δ ex nm h) (hDf : D ≤ fd) (hDw : D ≤ wt) (ne : fd ≠ wt) (hf : h[fd]? = some (.list (rf F))) (hw : h[wt]? = some (.list (rf (w ++ [x])))) (e : Γ x = some t)
    (hF : ∀ y ∈ F, ∃ t, Γ y = some t) (nd : F.Nodup) (wl : (w ++ [x]).length ≤ 20000) (n : Nat) (l1 : l (S! "found") = some (.ref fd)) (l2 : l (S! "waiting") = some (.ref wt)) :
    ∃ h' l', seq (L25_0 n) ⟨h, l⟩ = some (.next, ⟨h', l'⟩) ∧ Up [fd, wt] h h' ∧ l' (S! "found") = some (.ref fd) ∧ l' (S! "waiting") = some (.ref wt) ∧
      h'[fd]? = some (.list (rf (if x ∈ F then F else F ++ [x]))) ∧ h'[wt]? = some (.list (rf (if x ∈ F then w else w ++ parts Δ t))) := by
  have hfl := lt_of hf
  have hwl := lt_of hw
  have FL := few G nd hF
  have Ns := G.small
  let h1 := h.set wt (.list (rf w))
  have hl1 : h1.length = h.length := by simp [h1]
  have U1 : Up [fd, wt] h h1 := (Up.refl _ _).set (.inl (by simp))
  have W1 : Wd D Γ Δ ex nm h1 := W.up U1 (by (clear_value *; lia)) (by simp; (clear_value *; lia))
  have f1 : h1[fd]? = some (.list (rf F)) := (get_set_ne (by (clear_value *; lia))).trans hf
  have w1 : h1[wt]? = some (.list (rf w)) := get_set hw
  let l' := upd l (S! "t") (.ref x)
  let X1 : List AO := [.junk, .list (ofInts (F.map (numOf Γ)))]
  have W2 := W1.app (by (clear_value *; lia)) X1
  have hcomp : comp (S! "one") (var (S! "found")) [] (att (var (S! "one")) (S! "number")) ⟨h1, l'⟩ = some (.ref (h1.length + 1), ⟨h1 ++ X1, l'⟩) := by
    rw [comp_rf0 (h := h1) (b := fd) (fs := F) (l := l') (by simp only [var_ap, upd_ap, if_false, Option.map_some, ofS_inj, String.reduceEq, l', l1]) f1 (by rw [szm]; (clear_value *; lia)) (fun y => .int (numOf Γ y)) (fun v hv ys lv => by
      obtain ⟨u, hu⟩ := hF v hv
      have q := ((W1.app (by (clear_value *; lia)) ys).ty v u hu).choose_spec.rd
      simp only [att_ap, var_ap, upd_ap, if_true, Option.map_some, Option.bind_some, q, numOf_eq hu])]
    rw [nums_map]
  have htest : tcmp .NotIn (att (var (S! "t")) (S! "number")) (comp (S! "one") (var (S! "found")) [] (att (var (S! "one")) (S! "number"))) ⟨h1, l'⟩ = some (!decide (x ∈ F), ⟨h1 ++ X1, l'⟩) := by
    have RT := (W1.ty x t e).choose_spec.rd
    rw [tcmp_ap, att_ap]
    have : var (S! "t") ⟨h1, l'⟩ = some (.ref x, ⟨h1, l'⟩) := by kernel_rfl!
    rw [this]
    simp only [Option.bind_some, Option.map_some, RT, hcomp, c_nin]
    rw [in_list (xs := ofInts (F.map (numOf Γ))) (get_app 1) (by rw [szm]; simp [ofInts]; (clear_value *; lia))]
    simp only [inL_ints, num_mem G hF e, Option.map_some]
  unfold L25_0
  have hpop : setl (S! "t") (meth ((run theQ (n + 9)).fn) (var (S! "waiting")) (S! "pop") []) ⟨h, l⟩ = some (.next, ⟨h1, l'⟩) := by
    rw [setl_ap, pops l2 hw (by rw [szm]; (clear_value *; lia))]; rfl
  by_cases hx : x ∈ F
  · rw [if_pos hx, if_pos hx]
    refine mkE2 (h1 ++ X1) l' ⟨?_, U1.appR X1, by simp only [upd_ap, if_false, ofS_inj, String.reduceEq, l', l1], by simp only [upd_ap, if_false, ofS_inj, String.reduceEq, l', l2], (get_lt (by (clear_value *; lia))).trans f1, (get_lt (by (clear_value *; lia))).trans w1⟩
    rw [seq_next hpop, seq_next (σ' := ⟨h1 ++ X1, l'⟩) (by rw [iff_ap, htest]; simp only [hx, decide_true, Bool.not_true, Option.bind_some, brS_f]; rfl)]
    rfl
  · rw [if_neg hx, if_neg hx]
    let h2 := (h1 ++ X1).set fd (.list (rf F ++ [.ref x]))
    have hl2 : h2.length = h.length + 2 := by simp [h2, X1, hl1]
    have U2 : Up [fd, wt] h h2 := (U1.appR X1).set (.inl (by simp))
    have W3 := W.up U2 (by (clear_value *; lia)) (by simp; (clear_value *; lia))
    refine ex2_3 (parts_ok W3 G (by (clear_value *; lia)) e (show 8 ≤ n + 8 from Nat.le_add_left 8 n)) fun X q c1 c2 c3 => ?_
    have pl := parts_len G e
    have w2 : h2[wt]? = some (.list (rf w)) := (get_set_ne (by (clear_value *; lia))).trans ((get_lt (by (clear_value *; lia))).trans w1)
    have f2 : h2[fd]? = some (.list (rf F ++ [.ref x])) := get_set ((get_lt (by (clear_value *; lia))).trans f1)
    let h3 := (h2 ++ X).set wt (.list (rf w ++ rf (parts Δ t)))
    refine mkE2 h3 (upd l' (S! "waiting") (.ref wt)) ⟨?_, (U2.appR X).set (.inl (by simp)), by simp only [upd_ap, if_false, ofS_inj, String.reduceEq, l', l1], by simp only [upd_ap, if_true], ?_, ?_⟩
    · rw [seq_next hpop, seq_next (σ' := ⟨h3, upd l' (S! "waiting") (.ref wt)⟩) ?_]
      · rfl
      · rw [iff_ap, htest]
        simp only [hx, decide_false, Bool.not_false, Option.bind_some, brS_t]
        rw [seq_next (σ' := ⟨h2, l'⟩) (by
          rw [sE_ap, lmeth (k := fd) (σ' := ⟨h1 ++ X1, l'⟩) (xs := rf F) (by simp only [var_ap, upd_ap, if_false, Option.map_some, ofS_inj, String.reduceEq, l', l1]) ((get_lt (by (clear_value *; lia))).trans f1)]
          have : var (S! "t") ⟨h1 ++ X1, l'⟩ = some (.ref x, ⟨h1 ++ X1, l'⟩) := by kernel_rfl!
          simp only [evl_cons, evl_nil, this, Option.bind_some, append_ap (h := h1 ++ X1) (xs := rf F) ((get_lt (by (clear_value *; lia))).trans f1) (by rw [rf_len, szm]; (clear_value *; lia)), Option.map_some]
          rfl)]
        rw [seq_next (σ' := ⟨h3, upd l' (S! "waiting") (.ref wt)⟩) (by
          have lw : l' (S! "waiting") = some (.ref wt) := by simp only [upd_ap, if_false, ofS_inj, String.reduceEq, l', l2]
          have : var (S! "t") ⟨h2, l'⟩ = some (.ref x, ⟨h2, l'⟩) := by kernel_rfl!
          have w3 : (h2 ++ X)[wt]? = some (.list (rf w)) := (get_lt (by (clear_value *; lia))).trans w2
          have pl3 : (rf (parts Δ t)).length ≤ szMax := by rw [rf_len, szm]; (clear_value *; lia)
          have wl3 : (rf w).length ≤ szMax := by rw [rf_len, szm]; simp at wl; (clear_value *; lia)
          have nq : wt ≠ q := by (clear_value *; lia)
          rw [augl_ap, lw]
          simp only [Option.bind_some, callf_ap, evl_cons, evl_nil, this, c1 l', i_list w3 c3 nq wl3 pl3]
          rfl)]
        rfl
    · exact (get_set_ne (by (clear_value *; lia))).trans ((get_lt (by (clear_value *; lia))).trans (f2.trans (by simp [rf])))
    · have := get_set (o := AO.list (rf w ++ rf (parts Δ t))) ((get_lt (xs := X) (show wt < h2.length by (clear_value *; lia))).trans w2)
      exact this.trans (by simp [rf])
theorem met_test {h : List AO} {l : Str → Option AV} {w : List Nat} (hw : h[wt]? = some (.list (rf w))) (l2 : l (S! "waiting") = some (.ref wt)) :
    tcmp .NotEq (var (S! "waiting")) (lst []) ⟨h, l⟩ = some (!decide (w = []), ⟨h ++ [.list []], l⟩) := by
  have hwl := lt_of hw
  simp only [tcmp_ap, var_ap, Option.map_some, Option.bind_some, c_ne, lst_ap, evl_nil, l2]
  rw [b_list (xs := rf w) (ys := []) ((get_lt hwl).trans hw) get_app0]
  cases w <;> rfl
theorem met_loop (G : Gr N Γ Δ) (hDf : D ≤ fd) (hDw : D ≤ wt) (ne : fd ≠ wt) (n : Nat) : ∀ (k : Nat) (h : List AO) (l : Str → Option AV) (F w : List Nat) (B m : Nat), B ≤ k → k < m → B ≤ 7000 → FI Γ Δ N r B F w → Wd D Γ Δ ex nm h → h[fd]? = some (.list (rf F)) → h[wt]? = some (.list (rf w)) →
    l (S! "found") = some (.ref fd) → l (S! "waiting") = some (.ref wt) →
    ∃ h' l' F' B', whileN (tcmp .NotEq (var (S! "waiting")) (lst [])) (seq (L25_0 n)) m ⟨h, l⟩ = some (.next, ⟨h', l'⟩) ∧ Up [fd, wt] h h' ∧ h'[fd]? = some (.list (rf F')) ∧ l' (S! "found") = some (.ref fd) ∧ FI Γ Δ N r B' F' [] := by
  intro k
  induction k with
  | zero =>
    intro h l F w B m hB hm hB2 I W hf hw lf lw
    obtain ⟨m, rfl⟩ : ∃ m', m = m' + 1 := ⟨m - 1, by lia⟩
    have hb := I.bd
    have : w = [] := List.eq_nil_of_length_eq_zero (by lia)
    subst this
    refine ⟨h ++ [.list []], l, F, B, ?_, Up.app _ _ _, (get_lt (lt_of hf)).trans hf, lf, I⟩
    unfold whileN
    rw [met_test hw lw]
    simp
  | succ k ih =>
    intro h l F w B m hB hm hB2 I W hf hw lf lw
    obtain ⟨m, rfl⟩ : ∃ m', m = m' + 1 := ⟨m - 1, by lia⟩
    rcases List.eq_nil_or_concat w with rfl | ⟨w', x, rfl⟩
    · refine ⟨h ++ [.list []], l, F, B, ?_, Up.app _ _ _, (get_lt (lt_of hf)).trans hf, lf, I⟩
      unfold whileN
      rw [met_test hw lw]
      simp
    · rw [List.concat_eq_append] at I hw
      have hb := I.bd
      simp at hb
      obtain ⟨t, e⟩ := I.inW x (by simp)
      have hfl := lt_of hf
      have hwl := lt_of hw
      refine ex2_6 (met_turn G (h := h ++ [.list []]) (l := l) (W.app (by lia) _) hDf hDw ne ((get_lt hfl).trans hf) ((get_lt hwl).trans hw) e I.inF I.nd (by simp; lia) n lf lw) fun h' l' e1 U1 f1 f2 f3 f4 => ?_
      have U2 : Up [fd, wt] h h' := (Up.app _ _ _).trans U1
      have W2 := W.up U2 (by lia) (by simp; lia)
      have nxt : ∃ B', B = B' + 1 ∧ FI Γ Δ N r B' (if x ∈ F then F else F ++ [x]) (if x ∈ F then w' else w' ++ parts Δ t) := by
        by_cases hx : x ∈ F
        · rw [if_pos hx, if_pos hx]; exact I.old hx
        · rw [if_neg hx, if_neg hx]; exact I.fresh G e hx
      obtain ⟨B', rfl, I2⟩ := nxt
      obtain ⟨h'', l'', F', B'', e2, U3, g1, g2, g3⟩ := ih h' l' _ _ B' m (by lia) (by lia) (by lia) I2 W2 f3 f4 f1 f2
      refine ⟨h'', l'', F', B'', ?_, U2.trans U3, g1, g2, g3⟩
      unfold whileN
      rw [met_test hw lw]
      have : decide (w' ++ [x] = []) = false := by simp
      rw [this]
      simp only [Bool.not_false, Option.bind_some, if_true, e1]
      exact e2
theorem lawmet_ok (G : Gr N Γ Δ) {h : List AO} (W : Wd D Γ Δ ex nm h) (hD : D ≤ h.length) {b o : Nat} {oi : OI} (hb : h[b]? = some (.list [.ref o])) (ho : Δ o = some oi) (hx : oi.ex = true) {m : Nat} (hm : 13 ≤ m) :
    ∃ h' q F, Call m 25 [.ref b] h (.ref q) h' ∧ Up [] h h' ∧ h.length ≤ q ∧ h'[q]? = some (.list (rf F)) ∧ F.Nodup ∧ ∀ x, x ∈ F ↔ Rch Γ Δ oi.ty x := by
  obtain ⟨n, rfl⟩ := ge_ex (show 13 ≤ m by assumption)
  have Ns := G.small
  have hbl := lt_of hb
  let l1 := upd (env [(S! "objs", .ref b)]) (S! "found") (.ref h.length)
  let l2 := upd l1 (S! "waiting") (.ref (h.length + 2))
  let h2 := h ++ [.list [], .junk, .list (rf [oi.ty])]
  obtain ⟨h', l', F', B', e1, U, g1, g2, g3⟩ := met_loop (r := oi.ty) (fd := h.length) (wt := h.length + 2) G hD (by lia) (by lia) n (1 + 6 * N) h2 l2 [] [oi.ty] (1 + 6 * N) loops (Nat.le_refl _) (by unfold loops; lia) (by lia)
    (FI.start (G.oty o oi ho)) (W.app hD _) get_app0 (get_app 2) (by kernel_rfl!) (by kernel_rfl!)
  refine ⟨h', h.length, F', fun l => ?_, ?_, Nat.le_refl _, g1, g3.nd, g3.stop⟩
  · rw [fn25]
    apply frun_ret'
    unfold B25
    rw [seq_next (σ' := ⟨h ++ [.list []], l1⟩) (by simp only [Option.bind_some, setl_ap, lst_ap, evl_nil]; rfl)]
    rw [seq_next (σ' := ⟨h2, l2⟩) (by
      rw [setl_ap, comp_rf (h := h ++ [.list []]) (b := b) (fs := [o]) (l := l1) (by kernel_rfl!) ((get_lt hbl).trans hb) (by rw [szm]; simp) (oex Δ) (fun f => .ref (oty Δ f))
        (fun v hv ys lv => by
          rw [List.mem_singleton.mp hv]
          have q := (((W.app hD [.list []]).app (by simp; lia) ys).ob o oi ho).choose_spec.rd
          simp only [List.append_assoc, List.cons_append, List.nil_append] at q
          simp only [bool_ap, tval_ap, att_ap, var_ap, upd_ap, if_true, Option.map_some, Option.bind_some, List.append_assoc, List.cons_append, List.nil_append, trl_one, q, oex, ho])
        (fun v hv _ ys lv => by
          rw [List.mem_singleton.mp hv]
          have q := (((W.app hD [.list []]).app (by simp; lia) ys).ob o oi ho).choose_spec.rd
          simp only [List.append_assoc, List.cons_append, List.nil_append] at q
          simp only [att_ap, var_ap, upd_ap, if_true, Option.map_some, Option.bind_some, List.append_assoc, List.cons_append, List.nil_append, q, oty, ho])]
      have : ([o].filter (oex Δ)) = [o] := by simp [oex, ho, hx]
      rw [this]
      simp only [Option.bind_some, List.append_assoc, List.cons_append, List.nil_append, List.length_append, List.length_cons, List.length_nil, List.map_cons, List.map_nil, oty, ho]
      rfl)]
    rw [seq_next (σ' := ⟨h', l'⟩) (by rw [whl_ap]; exact e1)]
    apply seq_ret
    simp only [var_ap, Option.map_some, sRet_ap, g2]
    rfl
  · exact ((Up.app [h.length, h.length + 2] h _).trans U).mono fun j hj hl => by
      simp at hj; lia
end
end Mine.L
end
section
namespace Mine.L
noncomputable def UpD (D : Nat) (S : List Nat) (h h' : List AO) : Prop := h.length ≤ h'.length ∧ ∀ j, D ≤ j → j < h.length → j ∉ S → h'[j]? = h[j]?
theorem UpD.refl (D : Nat) (S : List Nat) (h : List AO) : UpD D S h h := ⟨Nat.le_refl _, fun _ _ _ _ => rfl⟩
theorem UpD.trans {D : Nat} {S : List Nat} {a b c : List AO} (x : UpD D S a b) (y : UpD D S b c) : UpD D S a c :=
  ⟨Nat.le_trans x.1 y.1, fun j hd hj hs => (y.2 j hd (Nat.lt_of_lt_of_le hj x.1) hs).trans (x.2 j hd hj hs)⟩
theorem UpD.app (D : Nat) (S : List Nat) (h xs : List AO) : UpD D S h (h ++ xs) := ⟨by simp, fun j _ hj _ => get_lt hj⟩
theorem UpD.appR {D : Nat} {S : List Nat} {h h' : List AO} (x : UpD D S h h') (xs : List AO) : UpD D S h (h' ++ xs) := x.trans (UpD.app D S h' xs)
theorem UpD.set {D : Nat} {S : List Nat} {h h' : List AO} (x : UpD D S h h') {i : Nat} {o : AO} (hi : i ∈ S ∨ h.length ≤ i ∨ i < D) : UpD D S h (h'.set i o) :=
  ⟨by simpa using x.1, fun j hd hj hs => by rw [get_set_ne (by rintro rfl; rcases hi with hi | hi | hi; exact hs hi; lia; lia)]; exact x.2 j hd hj hs⟩
theorem UpD.get {D : Nat} {S : List Nat} {h h' : List AO} (x : UpD D S h h') {j : Nat} {o : AO} (e : h[j]? = some o) (hd : D ≤ j) (hs : j ∉ S) : h'[j]? = some o := (x.2 j hd (lt_of e) hs).trans e
theorem UpD.ofUp {D : Nat} {S : List Nat} {h h' : List AO} (x : Up S h h') : UpD D S h h' := ⟨x.1, fun j _ hj hs => x.2 j hj hs⟩
theorem UpD.mono {D : Nat} {S T : List Nat} {h h' : List AO} (x : UpD D S h h') (k : ∀ j ∈ S, j < h.length → j ∈ T) : UpD D T h h' := ⟨x.1, fun j hd hj hs => x.2 j hd hj fun q => hs (k j q hj)⟩
structure Kp (D : Nat) (kp : List (Nat × AO)) (h : List AO) : Prop where
  at' : ∀ p ∈ kp, h[p.1]? = some p.2
  lt : ∀ p ∈ kp, p.1 < D
  fl : ∀ p ∈ kp, ∀ f, p.2 = .flds f → ∃ c d, c ≠ 1 ∧ c ≠ 2 ∧ (p.1 + 1, AO.inst c d) ∈ kp
section
variable {D : Nat} {kp : List (Nat × AO)} {h h' : List AO}
theorem Kp.frame (K : Kp D kp h) (k : ∀ j, j < D → h'[j]? = h[j]?) : Kp D kp h' := ⟨fun p hp => (k _ (K.lt p hp)).trans (K.at' p hp), K.lt, K.fl⟩
theorem Kp.app (K : Kp D kp h) (hD : D ≤ h.length) (xs : List AO) : Kp D kp (h ++ xs) := K.frame fun j hj => get_lt (by lia)
theorem Kp.putHigh (K : Kp D kp h) {i : Nat} {o : AO} (hi : D ≤ i) : Kp D kp (h.set i o) := K.frame fun j hj => get_set_ne (by lia)
theorem Kp.up (K : Kp D kp h) {S : List Nat} (u : Up S h h') (hD : D ≤ h.length) (hS : ∀ j ∈ S, D ≤ j) : Kp D kp h' := K.frame fun j hj => u.2 j (by lia) fun q => by have := hS j q; lia
theorem Kp.setFl (K : Kp D kp h) {a c : Nat} {f : List (Str × AV)} {o : AO} (hp : 0 < a) (hi : h[a]? = some (.inst c (a - 1))) (hc : c = 1 ∨ c = 2) (hf : h[a - 1]? = some (.flds f)) : Kp D kp (h.set (a - 1) o) := by
  refine ⟨fun p hp' => ?_, K.lt, K.fl⟩
  have e := K.at' p hp'
  rw [get_set_ne]; exact e
  intro q
  rw [← q, hf] at e
  obtain ⟨c', d, n1, n2, hm⟩ := K.fl p hp' f (Option.some.inj e).symm
  have := K.at' _ hm
  rw [show p.1 + 1 = a by lia, hi] at this
  cases this
  rcases hc with rfl | rfl
  · exact n1 rfl
  · exact n2 rfl
end
structure IsRows (D : Nat) (h : List AO) (rw' : Nat) (R : List (Str × Nat)) : Prop where
  hD : D ≤ rw'
  lst : ∃ ts, h[rw']? = some (.list (rf ts)) ∧ ts.length = R.length ∧ ∀ (i t : Nat) (p : Str × Nat), ts[i]? = some t → R[i]? = some p → D ≤ t ∧ t ≠ rw' ∧ h[t]? = some (.tup [.str p.1, .ref p.2])
structure NumOK (R : List (Str × Nat)) (ex nm ex0 nm0 : Nat → Int) : Prop where
  rc : ∀ (j x : Nat), R[j]? = some (S! "record", x) → ex x = j + 1
  rn : ∀ x, (S! "record", x) ∉ R → ex x = ex0 x
  oc : ∀ (j o : Nat) (k : Str), R[j]? = some (k, o) → k ≠ S! "record" → nm o = j + 1
  on : ∀ o, (∀ k, k ≠ S! "record" → (k, o) ∉ R) → nm o = nm0 o
theorem NumOK.addR {R : List (Str × Nat)} {ex nm ex0 nm0 : Nat → Int} (N : NumOK R ex nm ex0 nm0) {x : Nat} (hx : (S! "record", x) ∉ R) : NumOK (R ++ [(S! "record", x)]) (set1 ex x (R.length + 1)) nm ex0 nm0 := by
  refine ⟨fun j y e => ?_, fun y e => ?_, fun j o k e hk => ?_, fun o e => N.on o fun k hk hm => e k hk (List.mem_append_left _ hm)⟩
  · by_cases hj : j < R.length
    · rw [List.getElem?_append_left hj] at e
      have : y ≠ x := fun q => hx (q ▸ List.mem_of_getElem? e)
      simp only [set1, this, if_false]; exact N.rc j y e
    · rw [List.getElem?_append_right (by lia)] at e
      have hj2 : j - R.length = 0 := by have := (List.getElem?_eq_some_iff.mp e).1; simp at this; lia
      rw [hj2] at e
      simp at e
      subst e
      have : j = R.length := by lia
      subst this
      simp [set1]
  · have : y ≠ x := fun q => e (by rw [q]; simp)
    simp only [set1, this, if_false]
    exact N.rn y fun q => e (List.mem_append_left _ q)
  · by_cases hj : j < R.length
    · rw [List.getElem?_append_left hj] at e
      exact N.oc j o k e hk
    · rw [List.getElem?_append_right (by lia)] at e
      have hj2 : j - R.length = 0 := by have := (List.getElem?_eq_some_iff.mp e).1; simp at this; lia
      rw [hj2] at e
      simp at e
      exact absurd e.1.symm hk
theorem NumOK.addO {R : List (Str × Nat)} {ex nm ex0 nm0 : Nat → Int} (N : NumOK R ex nm ex0 nm0) {x : Nat} {k : Str} (hk : k ≠ S! "record") (hx : ∀ k, k ≠ S! "record" → (k, x) ∉ R) : NumOK (R ++ [(k, x)]) ex (set1 nm x (R.length + 1)) ex0 nm0 := by
  refine ⟨fun j y e => ?_, fun y e => N.rn y fun q => e (List.mem_append_left _ q), fun j o k' e hk' => ?_, fun o e => ?_⟩
  · by_cases hj : j < R.length
    · rw [List.getElem?_append_left hj] at e
      exact N.rc j y e
    · rw [List.getElem?_append_right (by lia)] at e
      have hj2 : j - R.length = 0 := by have := (List.getElem?_eq_some_iff.mp e).1; simp at this; lia
      rw [hj2] at e
      simp at e
      exact absurd e.1 hk
  · by_cases hj : j < R.length
    · rw [List.getElem?_append_left hj] at e
      have : o ≠ x := fun q => hx k' hk' (q ▸ List.mem_of_getElem? e)
      simp only [set1, this, if_false]; exact N.oc j o k' e hk'
    · rw [List.getElem?_append_right (by lia)] at e
      have hj2 : j - R.length = 0 := by have := (List.getElem?_eq_some_iff.mp e).1; simp at this; lia
      rw [hj2] at e
      simp at e
      have : j = R.length := by lia
      subst this
      simp [set1, e.2]
  · have : o ≠ x := fun q => e k hk (by rw [q]; simp)
    simp only [set1, this, if_false]
    exact N.on o fun k hk q => e k hk (List.mem_append_left _ q)
structure P2 (D : Nat) (Γ : Nat → Option TI) (Δ : Nat → Option OI) (kp : List (Nat × AO)) (ex0 nm0 : Nat → Int) (wk rw' : Nat) (h : List AO) (M : List Nat) (R : List (Str × Nat)) (ex nm : Nat → Int) : Prop where
  W : Wd D Γ Δ ex nm h
  K : Kp D kp h
  walk : IsWalk Γ h wk M
  rows : IsRows D h rw' R
  num : NumOK R ex nm ex0 nm0
  hw : D + 1 ≤ wk
  hr : wk + 2 < rw'
section
variable {D N : Nat} {Γ : Nat → Option TI} {Δ : Nat → Option OI} {kp : List (Nat × AO)} {ex0 nm0 ex nm : Nat → Int} {wk rw' : Nat} {h : List AO} {M : List Nat} {R : List (Str × Nat)}
theorem IsRows.frame {h' : List AO} (H : IsRows D h rw' R) (u : UpD D [] h h') : IsRows D h' rw' R := by
  obtain ⟨ts, h1, h2, h3⟩ := H.lst
  exact ⟨H.hD, ts, u.get h1 H.hD (by simp), h2, fun i t p e1 e2 => let ⟨q1, q2, q3⟩ := h3 i t p e1 e2; ⟨q1, q2, u.get q3 q1 (by simp)⟩⟩
theorem IsRows.more (H : IsRows D h rw' R) (hD : D ≤ h.length) {k : Str} {x : Nat} {ts : List Nat} (ht : h[rw']? = some (.list (rf ts))) : IsRows D ((h ++ [AO.tup [AV.str k, AV.ref x]]).set rw' (.list (rf ts ++ [AV.ref h.length]))) rw' (R ++ [(k, x)]) := by
  obtain ⟨ts', h1, h2, h3⟩ := H.lst
  have hl := lt_of ht
  have : ts' = ts := by
    rw [ht] at h1
    have : rf ts = rf ts' := by injection Option.some.inj h1
    unfold rf at this
    exact (List.map_inj_right (f := AV.ref) (fun x y e => by injection e)).mp this.symm
  subst this
  refine ⟨H.hD, ts' ++ [h.length], ?_, by simp [h2], fun i t p e1 e2 => ?_⟩
  · rw [get_set ((get_lt hl).trans ht)]; simp [rf]
  · by_cases hi : i < ts'.length
    · rw [List.getElem?_append_left hi] at e1
      rw [List.getElem?_append_left (by lia)] at e2
      obtain ⟨q1, q2, q3⟩ := h3 i t p e1 e2
      exact ⟨q1, q2, (get_set_ne (by lia)).trans ((get_lt (lt_of q3)).trans q3)⟩
    · have hi2 := (List.getElem?_eq_some_iff.mp e1).1
      simp at hi2
      have hi3 : i = ts'.length := by lia
      subst hi3
      rw [List.getElem?_append_right (by lia)] at e1 e2
      simp at e1
      rw [h2] at e2
      simp at e2
      subst e1; subst e2
      exact ⟨hD, by lia, by rw [get_set_ne (by lia), get_app0]; rfl⟩
theorem rows_append (P : P2 D Γ Δ kp ex0 nm0 wk rw' h M R ex nm) (hl : R.length ≤ 20000) {k : Str} {x : Nat} {fn : SF} {e1 e2 : SE} {l : Str → Option AV} (lr : l (S! "rows") = some (.ref rw')) (q1 : e1 ⟨h, l⟩ = some (.str k, ⟨h, l⟩)) (q2 : e2 ⟨h, l⟩ = some (.ref x, ⟨h, l⟩)) :
    ∃ h', sE (meth fn (var (S! "rows")) (S! "append") [tupE [e1, e2]]) ⟨h, l⟩ = some (.next, ⟨h', l⟩) ∧ UpD D [rw'] h h' ∧ Wd D Γ Δ ex nm h' ∧ Kp D kp h' ∧ IsWalk Γ h' wk M ∧ IsRows D h' rw' (R ++ [(k, x)]) ∧
      (∀ l, bcall (.bltn "len") [var (S! "rows")] ⟨h', upd l (S! "rows") (.ref rw')⟩ = some (.int (R.length + 1), ⟨h', upd l (S! "rows") (.ref rw')⟩)) ∧ bcall (.bltn "len") [var (S! "rows")] ⟨h', l⟩ = some (.int (R.length + 1), ⟨h', l⟩) := by
  obtain ⟨ts, h1, h2, h3⟩ := P.rows.lst
  have hrl := lt_of h1
  have hw := P.hw; have hr := P.hr
  have hd := P.rows.hD
  let g := (h ++ [AO.tup [.str k, .ref x]]).set rw' (.list (rf ts ++ [.ref h.length]))
  have hg : g[rw']? = some (.list (rf ts ++ [.ref h.length])) := get_set ((get_lt hrl).trans h1)
  have hlen : (rf ts ++ [AV.ref h.length]).length ≤ szMax := by rw [szm]; simp [rf]; lia
  have hlen2 : (((rf ts ++ [AV.ref h.length]).length : Nat) : Int) = R.length + 1 := by simp [rf, h2]
  refine ⟨g, ?_, ((UpD.refl _ _ _).appR _).set (.inl (by simp)), (P.W.app (by lia) _).putHigh hd, (P.K.app (by lia) _).putHigh hd, P.walk.frame fun j q1 q2 => (get_set_ne (by lia)).trans (get_lt (by lia)), P.rows.more (by lia) h1, fun l => ?_, ?_⟩
  · rw [sE_ap, lmeth (k := rw') (σ' := ⟨h, l⟩) (xs := rf ts) (by simp only [var_ap, Option.map_some, lr]) h1]
    simp only [evl_cons, evl_nil, tupE_ap, q1, q2, Option.bind_some, append_ap (l := l) ((get_lt (xs := [AO.tup [.str k, .ref x]]) hrl).trans h1) (show (rf ts).length ≤ szMax from by rw [rf_len, szm]; lia), Option.map_some]
    rfl
  · simp only [var_ap, upd_ap, if_true, Option.map_some, Option.bind_some, evl_cons, evl_nil, bcall_ap, len_ap (l := upd l (S! "rows") (.ref rw')) hg hlen, hlen2]
  · simp only [var_ap, Option.map_some, Option.bind_some, evl_cons, evl_nil, bcall_ap, lr, len_ap (l := l) hg hlen, hlen2]
theorem rec_turn (P : P2 D Γ Δ kp ex0 nm0 wk rw' h M R ex nm) (hl : R.length ≤ 20000) {x : Nat} {t : TI} (e : Γ x = some t) (hx : (S! "record", x) ∉ R) (n : Nat) {l : Str → Option AV} (l1 : l (S! "record") = some (.ref x)) (l2 : l (S! "rows") = some (.ref rw')) :
    ∃ h', seq (L5_0 n) ⟨h, l⟩ = some (.next, ⟨h', l⟩) ∧ UpD D [rw'] h h' ∧ P2 D Γ Δ kp ex0 nm0 wk rw' h' M (R ++ [(S! "record", x)]) (set1 ex x (R.length + 1)) nm := by
  refine ex1_8 (rows_append (k := S! "record") (x := x) (fn := (run theQ (n + 18)).fn) (e1 := lit (.str (S! "record"))) (e2 := var (S! "record")) P hl l2 rfl (by simp only [var_ap, Option.map_some, l1])) fun g e1 U W1 K1 I1 R1 _ e2 => ?_
  obtain ⟨xx, HT⟩ := W1.ty x t e
  have hlt := W1.ltT x t e
  have hw := P.hw; have hr := P.hr
  refine ⟨g.set (x - 1) (.flds (tyF x t xx (R.length + 1))), ?_, U.set (.inr (.inr (by lia))), ⟨W1.setEx e HT, K1.setFl HT.pos HT.inst (.inl rfl) HT.flds, I1.frame fun j q1 q2 => get_set_ne (by lia), R1.frame ((UpD.refl _ _ _).set (.inr (.inr (by lia)))), P.num.addR hx, P.hw, P.hr⟩⟩
  unfold L5_0
  rw [seq_next e1, seq_next (σ' := ⟨g.set (x - 1) (.flds (tyF x t xx (R.length + 1))), l⟩) (by
    rw [seta_ap, e2]
    simp only [Option.bind_some, asgA_ap, var_ap, l1, Option.map_some, HT.wr.1])]
  rfl
theorem obj_turn (P : P2 D Γ Δ kp ex0 nm0 wk rw' h M R ex nm) (hl : R.length ≤ 20000) {x : Nat} {o : OI} (e : Δ x = some o) (hk : o.kind ≠ S! "record") (hx : ∀ k, k ≠ S! "record" → (k, x) ∉ R) (fn : SF) {l : Str → Option AV} (l1 : l (S! "obj") = some (.ref x)) (l2 : l (S! "rows") = some (.ref rw')) :
    ∃ h', seq [sE (meth fn (var (S! "rows")) (S! "append") [tupE [att (var (S! "obj")) (S! "kind"), var (S! "obj")]]), seta (var (S! "obj")) (S! "number") (bcall (.bltn "len") [var (S! "rows")])] ⟨h, l⟩ = some (.next, ⟨h', l⟩) ∧ UpD D [rw'] h h' ∧
      P2 D Γ Δ kp ex0 nm0 wk rw' h' M (R ++ [(o.kind, x)]) ex (set1 nm x (R.length + 1)) := by
  have RO := (P.W.ob x o e).choose_spec.rd
  refine ex1_8 (rows_append (k := o.kind) (x := x) (fn := fn) (e1 := att (var (S! "obj")) (S! "kind")) (e2 := var (S! "obj")) P hl l2 (by simp only [att_ap, var_ap, Option.map_some, Option.bind_some, l1, RO]) (by simp only [var_ap, Option.map_some, l1])) fun g e1 U W1 K1 I1 R1 _ e2 => ?_
  obtain ⟨xx, HT⟩ := W1.ob x o e
  have hlt := W1.ltO x o e
  have hw := P.hw; have hr := P.hr
  refine ⟨g.set (x - 1) (.flds (obF o xx (R.length + 1))), ?_, U.set (.inr (.inr (by lia))), ⟨W1.setNm e HT, K1.setFl HT.pos HT.inst (.inr rfl) HT.flds, I1.frame fun j q1 q2 => get_set_ne (by lia), R1.frame ((UpD.refl _ _ _).set (.inr (.inr (by lia)))), P.num.addO hk hx, P.hw, P.hr⟩⟩
  rw [seq_next e1, seq_next (σ' := ⟨g.set (x - 1) (.flds (obF o xx (R.length + 1))), l⟩) (by
    rw [seta_ap, e2]
    simp only [Option.bind_some, asgA_ap, var_ap, l1, Option.map_some, HT.wr.1])]
  rfl
theorem P2.app (P : P2 D Γ Δ kp ex0 nm0 wk rw' h M R ex nm) (xs : List AO) : P2 D Γ Δ kp ex0 nm0 wk rw' (h ++ xs) M R ex nm := by
  have hw := P.hw; have hr := P.hr; have hl := P.walk.lt
  exact ⟨P.W.app (by lia) xs, P.K.app (by lia) xs, P.walk.frame fun j _ _ => get_lt (by lia), P.rows.frame (UpD.app _ _ _ _), P.num, P.hw, P.hr⟩
theorem P2.setIt (P : P2 D Γ Δ kp ex0 nm0 wk rw' h M R ex nm) {j b k : Nat} {o : AO} (hj : h[j]? = some (.liter b k)) (hD : D ≤ j) : P2 D Γ Δ kp ex0 nm0 wk rw' (h.set j o) M R ex nm := by
  have hw := P.hw; have hr := P.hr
  have ne : ∀ {i : Nat} {p : AO}, h[i]? = some p → (∀ b k, p ≠ .liter b k) → (h.set j o)[i]? = some p := fun {i p} e q => by
    rw [get_set_ne]; exact e
    rintro rfl
    rw [hj] at e
    exact q b k (Option.some.inj e).symm
  refine ⟨P.W.putHigh hD, P.K.putHigh hD, ⟨P.walk.pos, ne P.walk.inst (by simp), ne P.walk.flds (by simp), ne P.walk.met (by simp), ne P.walk.rcs (by simp)⟩, ?_, P.num, P.hw, P.hr⟩
  obtain ⟨ts, h1, h2, h3⟩ := P.rows.lst
  exact ⟨P.rows.hD, ts, ne h1 (by simp), h2, fun i t p e1 e2 => let ⟨q1, q2, q3⟩ := h3 i t p e1 e2; ⟨q1, q2, ne q3 (by simp)⟩⟩
noncomputable def rrow (x : Nat) : Str × Nat := (S! "record", x)
theorem recs_loop (P : P2 D Γ Δ kp ex0 nm0 wk rw' h M R ex nm) (nr : List Nat) (nd : nr.Nodup) (hn : ∀ x ∈ nr, (∃ t, Γ x = some t) ∧ (S! "record", x) ∉ R) (hl : R.length + nr.length ≤ 20000) {b : Nat} (hb : h[b]? = some (.list (rf nr))) (hbD : D ≤ b) (hbr : b ≠ rw') (n : Nat) {l : Str → Option AV} (l2 : l (S! "rows") = some (.ref rw')) :
    ∃ h' l' ex', forN (S! "record") (.ref h.length) (seq (L5_0 n)) loops ⟨h ++ [.liter b 0], l⟩ = some (.next, ⟨h', l'⟩) ∧ UpD D [rw'] h h' ∧ P2 D Γ Δ kp ex0 nm0 wk rw' h' M (R ++ nr.map rrow) ex' nm ∧ (∀ y, y ≠ S! "record" → l' y = l y) := by
  have hrl := P.rows.lst
  have hw := P.hw; have hr := P.hr
  have hrw : rw' < h.length := let ⟨ts, q, _⟩ := hrl; lt_of q
  have hbl := lt_of hb
  let J : Nat → List AO → (Str → Option AV) → Prop := fun i g lg => ∃ ex', UpD D [rw'] h g ∧ P2 D Γ Δ kp ex0 nm0 wk rw' g M (R ++ (nr.take i).map rrow) ex' nm ∧ ∀ y, y ≠ S! "record" → lg y = l y
  obtain ⟨h', l', e1, ex', J1, J2, J3⟩ := forN_list (x := S! "record") (b := b) (xs := rf nr) (body := seq (L5_0 n)) (j := h.length) (by rw [rf_len, szm]; lia) J
    (fun i g lg zp0 => by obtain ⟨ex', q, _⟩ := zp0; exact q.get hb hbD (by simpa using hbr))
    (fun i g lg o zp1 zp2 => by obtain ⟨ex', q1, q2, q3⟩ := zp1; obtain ⟨k, hk⟩ := zp2; exact ⟨ex', q1.set (.inr (.inl (Nat.le_refl _))), q2.setIt hk (by lia), q3⟩)
    (fun i g lg v zp3 hv hj => by
      obtain ⟨ex', q1, q2, q3⟩ := zp3
      obtain ⟨x, hx, rfl⟩ := rf_get hv
      obtain ⟨⟨t, et⟩, hnx⟩ := hn x (List.mem_of_getElem? hx)
      have hi := (List.getElem?_eq_some_iff.mp hx).1
      have hnot : (S! "record", x) ∉ R ++ (nr.take i).map rrow := by
        intro q
        rcases List.mem_append.mp q with q | q
        · exact hnx q
        · obtain ⟨y, hy, hq⟩ := List.mem_map.mp q
          have : y = x := (Prod.mk.inj hq).2
          subst this
          obtain ⟨k, hk, hk2⟩ := List.mem_take_iff_getElem.mp hy
          have e3 : nr[k]? = nr[i]? := by rw [List.getElem?_eq_getElem (by lia), hk2, hx]
          have := (List.getElem?_inj (by lia) nd).mp e3
          lia
      refine ex1_3 (rec_turn q2 (by simp; lia) et hnot n (l := upd lg (S! "record") (.ref x)) (by kernel_rfl!) (by simp only [upd_ap, if_false, ofS_inj, String.reduceEq, q3 _ (show S! "rows" ≠ S! "record" from by rw [ne_eq, ofS_inj]; decide), l2])) fun g' t1 t2 t3 => ?_
      refine ⟨.next, g', _, t1, .inl rfl, t2.2 _ (by lia) (lt_of hj) (by simp; lia), set1 ex' x ((R ++ (nr.take i).map rrow).length + 1), q1.trans t2, ?_, fun y hy => ?_⟩
      · rw [take_succ hx, List.map_append, ← List.append_assoc]; exact t3
      · rw [upd_ap, if_neg hy]; exact q3 y hy)
    nr.length 0 (h ++ [.liter b 0]) l loops (by rw [rf_len]; lia) (by unfold loops; lia) get_app0 (by lia)
    ⟨ex, UpD.app _ _ _ _, by simpa using P.app [.liter b 0], fun _ _ => rfl⟩
  rw [rf_len, List.take_length] at J2
  exact ⟨h', l', ex', e1, J1, J2, J3⟩
end
end Mine.L
end
section
namespace Mine.L
noncomputable def isVP (o : OI) : Bool := o.kind == S! "var" || o.kind == S! "proc"
noncomputable def seg (Δ : Nat → Option OI) (p : Nat × List Nat) : List (Str × Nat) := p.2.map rrow ++ (match Δ p.1 with | some o => if isVP o then [(o.kind, p.1)] else [] | none => [])
noncomputable def rowsOf (Δ : Nat → Option OI) (H : List (Nat × List Nat)) : List (Str × Nat) := H.flatMap (seg Δ)
inductive Hist (Γ : Nat → Option TI) (Δ : Nat → Option OI) : List Nat → List Nat → List (Nat × List Nat) → List Nat → Prop
  | nil {M : List Nat} : Hist Γ Δ M [] [] M
  | skip {M os M' : List Nat} {o : Nat} {oi : OI} {H : List (Nat × List Nat)} : Δ o = some oi → oi.ex = false → Hist Γ Δ M os H M' → Hist Γ Δ M (o :: os) H M'
  | take {M os M' new : List Nat} {o : Nat} {oi : OI} {H : List (Nat × List Nat)} : Δ o = some oi → oi.ex = true → MI Γ Δ M → MI Γ Δ (M ++ new) → oi.ty ∈ M ++ new → (∀ x ∈ new, Rch Γ Δ oi.ty x) → Hist Γ Δ (M ++ new) os H M' →
      Hist Γ Δ M (o :: os) ((o, new.filter (own Γ)) :: H) M'
section
variable {D N : Nat} {Γ : Nat → Option TI} {Δ : Nat → Option OI} {kp : List (Nat × AO)} {ex0 nm0 ex nm : Nat → Int} {wk rw' : Nat} {h : List AO} {M : List Nat} {R : List (Str × Nat)}
theorem Hist.append {M1 M2 M3 a b : List Nat} {H1 H2 : List (Nat × List Nat)} (x : Hist Γ Δ M1 a H1 M2) (y : Hist Γ Δ M2 b H2 M3) : Hist Γ Δ M1 (a ++ b) (H1 ++ H2) M3 := by
  induction x with
  | nil => exact y
  | skip e1 e2 _ ih => exact .skip e1 e2 (ih y)
  | take e1 e2 e3 e4 e5 e6 _ ih => exact .take e1 e2 e3 e4 e5 e6 (ih y)
theorem own_in {x : Nat} (h : own Γ x = true) : ∃ t, Γ x = some t := by
  unfold own at h
  split at h
  · exact ⟨_, by assumption⟩
  · cases h
theorem exp_turn (G : Gr N Γ Δ) (P : P2 D Γ Δ kp ex0 nm0 wk rw' h M R ex nm) (I : MI Γ Δ M) (hl : R.length ≤ 10000) {o : Nat} {oi : OI} (e : Δ o = some oi) (hk : oi.kind ≠ S! "record") (hx : ∀ k, k ≠ S! "record" → (k, o) ∉ R) (hR : ∀ y, (S! "record", y) ∈ R → y ∈ M)
    (n : Nat) {l : Str → Option AV} (l1 : l (S! "obj") = some (.ref o)) (l2 : l (S! "rows") = some (.ref rw')) (l3 : l (S! "walk") = some (.ref wk)) :
    (oi.ex = false ∧ seq (L5_1 n) ⟨h, l⟩ = some (.cont, ⟨h, l⟩)) ∨
    (oi.ex = true ∧ ∃ h' l' new ex' nm', seq (L5_1 n) ⟨h, l⟩ = some (.next, ⟨h', l'⟩) ∧ UpD D [wk + 1, wk + 2, rw'] h h' ∧ P2 D Γ Δ kp ex0 nm0 wk rw' h' (M ++ new) (R ++ seg Δ (o, new.filter (own Γ))) ex' nm' ∧
      MI Γ Δ (M ++ new) ∧ oi.ty ∈ M ++ new ∧ (∀ x ∈ new, Rch Γ Δ oi.ty x) ∧ l' (S! "rows") = some (.ref rw') ∧ l' (S! "walk") = some (.ref wk)) := by
  have RO := (P.W.ob o oi e).choose_spec.rd
  have hw := P.hw; have hr := P.hr
  have wl := P.walk.lt
  have RW := P.walk.rd
  have Ns := G.small
  unfold L5_1
  cases hex : oi.ex with
  | false =>
    refine .inl ⟨rfl, seq_cont ?_⟩
    simp only [iff_ap, tnot_ap, tval_ap, att_ap, var_ap, l1, Option.map_some, Option.bind_some, RO, hex, Bool.not_false, brS_t, bool_ap]
    exact seq_cont rfl
  | true =>
    refine .inr ⟨rfl, ?_⟩
    have rcl : (rf (M.filter (own Γ))).length ≤ szMax := by have := List.length_filter_le (own Γ) M; have := few G I.nd I.inM; rw [rf_len, szm]; lia
    let la := upd l (S! "known") (.int (rf (M.filter (own Γ))).length)
    refine ex3_7 (reach_ok (r := oi.ty) G P.W (by (clear_value *; lia)) P.walk I (G.oty o oi e) (show 19 ≤ n + 19 from Nat.le_add_left 19 n)) fun h1 M' new c1 U1 W1 MI1 r1 z_8 rch => ?_
    obtain rfl := z_8
    have ML := few G MI1.nd MI1.inM
    have P1 : P2 D Γ Δ kp ex0 nm0 wk rw' h1 (M ++ new) R ex nm := by
      refine ⟨P.W.up U1 (by (clear_value *; lia)) (by simp; (clear_value *; lia)), P.K.up U1 (by (clear_value *; lia)) (by simp; (clear_value *; lia)), W1, ?_, P.num, hw, hr⟩
      obtain ⟨ts, q1, q2, q3⟩ := P.rows.lst
      exact ⟨P.rows.hD, ts, U1.get q1 (by simp; (clear_value *; lia)), q2, fun i t p e1 e2 => let ⟨z1, z2, z3⟩ := q3 i t p e1 e2
        ⟨z1, z2, U1.get z3 (by
          intro hm
          simp at hm
          rcases hm with rfl | rfl
          · rw [P.walk.met] at z3; cases z3
          · rw [P.walk.rcs] at z3; cases z3)⟩⟩
    let nr := new.filter (own Γ)
    have hsl : slc (att (var (S! "walk")) (S! "records")) (var (S! "known")) (lit .none) ⟨h1, la⟩ = some (.ref (h1.length + 1), ⟨h1 ++ [.junk, .list (rf nr)], la⟩) := by
      have rw1 := W1.rd
      have rcl1 : (rf ((M ++ new).filter (own Γ))).length ≤ szMax := by have := List.length_filter_le (own Γ) (M ++ new); rw [rf_len, szm]; (clear_value *; lia)
      have hdrop : (rf ((M ++ new).filter (own Γ))).drop (rf (M.filter (own Γ))).length = rf nr := by
        simp [rf, nr, List.filter_append]
      rw [slc_ap, att_ap]
      have q1 : var (S! "walk") ⟨h1, la⟩ = some (.ref wk, ⟨h1, la⟩) := ev_var (Eq.trans (by kernel_rfl!) l3)
      have q2 : var (S! "known") ⟨h1, la⟩ = some (.int (rf (M.filter (own Γ))).length, ⟨h1, la⟩) := by kernel_rfl!
      simp only [q1, q2, Option.bind_some, Option.map_some, rw1, lit_ap, slc_list W1.rcs rcl1 (sl_from (Int.natCast_nonneg _)), Int.toNat_natCast, hdrop]
    let h2 := h1 ++ [AO.junk, AO.list (rf nr)]
    have P2' := P1.app [AO.junk, AO.list (rf nr)]
    have wl1 := W1.lt
    have nrl : nr.length ≤ N := by
      have := List.length_filter_le (own Γ) new
      simp at ML
      show (new.filter (own Γ)).length ≤ N
      (clear_value *; lia)
    have ndn := (List.nodup_append.mp MI1.nd).2.1
    have dis := (List.nodup_append.mp MI1.nd).2.2
    obtain ⟨ts1, hts1, _⟩ := P1.rows.lst
    have rwl1 := lt_of hts1
    refine ex3_4 (recs_loop P2' nr (ndn.sublist List.filter_sublist) (fun x hx => ⟨own_in (List.mem_filter.mp hx).2, fun q => dis x (hR x q) x (List.mem_filter.mp hx).1 rfl⟩) (by (clear_value *; lia)) (b := h1.length + 1) (get_app 1) (by (clear_value *; lia)) (by (clear_value *; lia)) n (l := la) (by simp only [upd_ap, if_false, ofS_inj, String.reduceEq, la, l2])) fun h3 l3' ex' e3 U3 P3 L3 => ?_
    have lo : l3' (S! "obj") = some (.ref o) := by rw [L3 _ (by rw [ne_eq, ofS_inj]; decide)]; simp only [upd_ap, if_false, ofS_inj, String.reduceEq, la, l1]
    have lr : l3' (S! "rows") = some (.ref rw') := by rw [L3 _ (by rw [ne_eq, ofS_inj]; decide)]; simp only [upd_ap, if_false, ofS_inj, String.reduceEq, la, l2]
    have lw : l3' (S! "walk") = some (.ref wk) := by rw [L3 _ (by rw [ne_eq, ofS_inj]; decide)]; simp only [upd_ap, if_false, ofS_inj, String.reduceEq, la, l3]
    have U13 : UpD D [wk + 1, wk + 2, rw'] h h3 := (((UpD.ofUp U1).mono fun j hj _ => by simp at hj ⊢; (clear_value *; lia)).appR _).trans (U3.mono fun j hj _ => by simp at hj ⊢; (clear_value *; lia))
    have step1 : ∀ rest, seq (iff' (tnot (tval (att (var (S! "obj")) (S! "exported")))) [sCont] [] :: setl (S! "known") (bcall (.bltn "len") [att (var (S! "walk")) (S! "records")]) :: sE (meth ((run theQ (n + 19)).fn) (var (S! "walk")) (S! "reach") [att (var (S! "obj")) (S! "type")]) ::
        forl (S! "record") (slc (att (var (S! "walk")) (S! "records")) (var (S! "known")) (lit .none)) (L5_0 n) :: rest) ⟨h, l⟩ = seq rest ⟨h3, l3'⟩ := by
      intro rest
      rw [seq_next (σ' := ⟨h, l⟩) (by
        simp only [iff_ap, tnot_ap, tval_ap, att_ap, var_ap, l1, Option.map_some, Option.bind_some, RO, hex, Bool.not_true, brS_f, bool_ap]
        rfl)]
      rw [seq_next (σ' := ⟨h, la⟩) (by
        have q1 : var (S! "walk") ⟨h, l⟩ = some (.ref wk, ⟨h, l⟩) := ev_var (Eq.trans (by kernel_rfl!) l3)
        simp only [setl_ap, bcall_ap, evl_cons, evl_nil, att_ap, q1, Option.map_some, Option.bind_some, RW, len_ap P.walk.rcs rcl]
        rfl)]
      rw [seq_next (σ' := ⟨h1, la⟩) (by
        rw [sE_ap, imeth (k := wk) (c := 0) (d := wk - 1) (m := 4) (σ' := ⟨h, la⟩) (fs := [(S! "module", .str (S! "M")), (S! "met", .ref (wk + 1)), (S! "records", .ref (wk + 2))]) (K := ⟨3, [(Str.ofString "reach", 4)], walkAttrs⟩) (by simp only [var_ap, upd_ap, if_false, Option.map_some, ofS_inj, String.reduceEq, la, l3]) P.walk.inst P.walk.flds rfl (by kernel_rfl) (by kernel_rfl)]
        have q1 : var (S! "obj") ⟨h, la⟩ = some (.ref o, ⟨h, la⟩) := ev_var (Eq.trans (by kernel_rfl!) l1)
        simp only [evl_cons, evl_nil, att_ap, q1, Option.bind_some, Option.map_some, RO, c1 la])]
      rw [seq_next (σ' := ⟨h3, l3'⟩) (forl_go (b := h1.length + 1) (xs := rf nr) hsl (get_app 1) (by rw [rf_len, szm]; (clear_value *; lia)) e3)]
    have nrec : ∀ k, k ≠ S! "record" → (k, o) ∉ R ++ nr.map rrow := fun k hk q => by
      rcases List.mem_append.mp q with q | q
      · exact hx k hk q
      · obtain ⟨y, _, hq⟩ := List.mem_map.mp q
        exact hk (Prod.mk.inj hq).1.symm
    have RO3 := (P3.W.ob o oi e).choose_spec.rd
    by_cases hv : isVP oi = true
    · obtain ⟨h4, e4, U4, P4⟩ := obj_turn P3 (by simp; (clear_value *; lia)) e hk nrec ((run theQ (n + 18)).fn) lo lr
      refine ⟨h4, l3', new, ex', set1 nm o ((R ++ nr.map rrow).length + 1), ?_, U13.trans (U4.mono fun j hj _ => by simp at hj ⊢; (clear_value *; lia)), ?_, MI1, r1, rch, lr, lw⟩
      · rw [step1]
        apply seq_next
        have ht : tAll .Or [tcmp .Eq (att (var (S! "obj")) (S! "kind")) (lit (.str (S! "var"))), tcmp .Eq (att (var (S! "obj")) (S! "kind")) (lit (.str (S! "proc")))] ⟨h3, l3'⟩ = some (true, ⟨h3, l3'⟩) := by
          unfold isVP at hv
          simp only [tor2, tcmp_ap, att_ap, lit_ap, var_ap, Option.map_some, Option.bind_some, c_eq, s_str, lo, RO3]
          cases q : oi.kind == S! "var" with
          | true => rfl
          | false => rw [q, Bool.false_or] at hv; simp only [orK_f, tcmp_ap, att_ap, lit_ap, var_ap, Option.map_some, Option.bind_some, c_eq, s_str, lo, RO3, hv]
        rw [iff_ap, ht]
        simp only [Option.bind_some, brS_t]
        exact e4
      · have : R ++ seg Δ (o, new.filter (own Γ)) = R ++ nr.map rrow ++ [(oi.kind, o)] := by unfold seg; simp only [e, hv, if_true, List.append_assoc]; rfl
        rw [this]; exact P4
    · refine ⟨h3, l3', new, ex', nm, ?_, U13, ?_, MI1, r1, rch, lr, lw⟩
      · rw [step1]
        apply seq_next
        have ht : tAll .Or [tcmp .Eq (att (var (S! "obj")) (S! "kind")) (lit (.str (S! "var"))), tcmp .Eq (att (var (S! "obj")) (S! "kind")) (lit (.str (S! "proc")))] ⟨h3, l3'⟩ = some (false, ⟨h3, l3'⟩) := by
          unfold isVP at hv
          simp only [Bool.or_eq_true, not_or, Bool.not_eq_true] at hv
          simp only [orK_f, tor2, tcmp_ap, att_ap, lit_ap, var_ap, Option.map_some, Option.bind_some, c_eq, s_str, lo, RO3, hv.1, hv.2]
        rw [iff_ap, ht]
        simp only [Option.bind_some, brS_f]
        rfl
      · have : R ++ seg Δ (o, new.filter (own Γ)) = R ++ nr.map rrow := by unfold seg; simp only [e, hv, Bool.false_eq_true, if_false, List.append_nil]; rfl
        rw [this]; exact P3
theorem seg_in {p : Nat × List Nat} {k : Str} {x : Nat} (h : (k, x) ∈ seg Δ p) : (k = S! "record" ∧ x ∈ p.2) ∨ x = p.1 := by
  unfold seg at h
  rcases List.mem_append.mp h with q | q
  · obtain ⟨y, hy, e⟩ := List.mem_map.mp q
    cases e; exact .inl ⟨rfl, hy⟩
  · split at q
    · split at q
      · rw [List.mem_singleton] at q; cases q; exact .inr rfl
      · cases q
    · cases q
theorem seg_len (G : Gr N Γ Δ) {new : List Nat} (nd : new.Nodup) (hn : ∀ x ∈ new, ∃ t, Γ x = some t) {o : Nat} : (seg Δ (o, new.filter (own Γ))).length ≤ N + 1 := by
  have := few G nd hn
  have := List.length_filter_le (own Γ) new
  unfold seg
  have h2 : (match Δ o with | some p => if isVP p then [(p.kind, o)] else [] | none => []).length ≤ 1 := by
    split
    · split <;> simp
    · simp
  simp only [List.length_append, List.length_map]
  lia
theorem exports_ok (G : Gr N Γ Δ) (W : Wd D Γ Δ ex0 nm0 h) (Kk : Kp D kp h) (hD : D ≤ h.length) (hpos : 0 < h.length) {tr ob : Nat} {os : List Nat} {fs : List (Str × AV)} (t1 : h[tr]? = some (.inst 4 (tr - 1))) (t2 : h[tr - 1]? = some (.flds fs)) (t3 : getF (S! "name") fs = some (.str (S! "M"))) (t4 : getF (S! "objs") fs = some (.ref ob))
    (t5 : (tr, AO.inst 4 (tr - 1)) ∈ kp) (t6 : (tr - 1, AO.flds fs) ∈ kp) (t7 : (ob, AO.list (rf os)) ∈ kp) (ndo : os.Nodup) (hos : ∀ o ∈ os, ∃ oi, Δ o = some oi ∧ oi.kind ≠ S! "record") (hol : os.length ≤ 8) {m : Nat} (hm : 23 ≤ m) :
    ∃ h' rw' H M' ex' nm', Call m 5 [.ref tr] h (.ref rw') h' ∧ h.length ≤ h'.length ∧ (∀ j, D ≤ j → j < h.length → h'[j]? = h[j]?) ∧ Wd D Γ Δ ex' nm' h' ∧ Kp D kp h' ∧ IsRows D h' rw' (rowsOf Δ H) ∧ NumOK (rowsOf Δ H) ex' nm' ex0 nm0 ∧ Hist Γ Δ [] os H M' ∧ h.length ≤ rw' := by
  obtain ⟨n, rfl⟩ := ge_ex (show 23 ≤ m by assumption)
  have Ns := G.small
  let wk := h.length + 1
  let rw' := h.length + 4
  let wf : List (Str × AV) := [(S! "module", .str (S! "M")), (S! "met", .ref (wk + 1)), (S! "records", .ref (wk + 2))]
  let h1 := h ++ [AO.flds wf, AO.inst 0 h.length, AO.idict [], AO.list []]
  let h2 := h1 ++ [AO.list []]
  let l0 := env [(S! "tree", .ref tr)]
  let la := upd l0 (S! "walk") (.ref wk)
  let lb := upd la (S! "rows") (.ref rw')
  have rdN : ∀ l, attr theQ (.ref tr) (S! "name") ⟨h, l⟩ = some (.str (S! "M")) := fun l => attr_of t1 t2 (by kernel_rfl) t3 rfl
  have hwalk : setl (S! "walk") (newc ((run theQ (n + 20)).fn) 0 3 [att (var (S! "tree")) (S! "name")]) ⟨h, l0⟩ = some (.next, ⟨h1, la⟩) := by
    rw [setl_ap, newc_ap (vs := [.str (S! "M")]) (σ' := ⟨h, l0⟩) (by simp only [att_ap, var_ap, env_cons, if_true, Option.map_some, Option.bind_some, evl_cons, evl_nil, l0, rdN]) (by intro q; simp at q; rw [q] at hpos; simp at hpos)]
    rw [show n + 20 = (n + 17) + 3 from rfl, fn3]
    have key : frun (seq B3) (env [(S! "self", .ref (h.length + 1)), (S! "module", .str (S! "M"))]) ⟨h ++ [.flds [], .inst 0 h.length], l0⟩ = some (.none, ⟨h1, l0⟩) := by
      apply frun_next'
      unfold B3
      have s1 : ∀ (l : Str → Option AV), setAttr theQ (.ref (h.length + 1)) (S! "module") (.str (S! "M")) ⟨h ++ [.flds [], .inst 0 h.length], l⟩ = some ⟨h ++ [.flds [(S! "module", .str (S! "M"))], .inst 0 h.length], l⟩ := fun l => by
        rw [setAttr_of (c := 0) (d := h.length) (fs := []) (gs := [(S! "module", .str (S! "M"))]) (get_app 1) get_app0 (by kernel_rfl) (by simp) (by kernel_rfl), set_app0]; rfl
      have s2 : ∀ (l : Str → Option AV), setAttr theQ (.ref (h.length + 1)) (S! "met") (.ref (h.length + 2)) ⟨h ++ [.flds [(S! "module", .str (S! "M"))], .inst 0 h.length, .idict []], l⟩ = some ⟨h ++ [.flds [(S! "module", .str (S! "M")), (S! "met", .ref (h.length + 2))], .inst 0 h.length, .idict []], l⟩ := fun l => by
        rw [setAttr_of (c := 0) (d := h.length) (fs := [(S! "module", .str (S! "M"))]) (gs := [(S! "module", .str (S! "M")), (S! "met", .ref (h.length + 2))]) (get_app 1) get_app0 (by kernel_rfl) (by simp) (by kernel_rfl), set_app0]; rfl
      have s3 : ∀ (l : Str → Option AV), setAttr theQ (.ref (h.length + 1)) (S! "records") (.ref (h.length + 3)) ⟨h ++ [.flds [(S! "module", .str (S! "M")), (S! "met", .ref (h.length + 2))], .inst 0 h.length, .idict [], .list []], l⟩ = some ⟨h1, l⟩ := fun l => by
        rw [setAttr_of (c := 0) (d := h.length) (fs := [(S! "module", .str (S! "M")), (S! "met", .ref (h.length + 2))]) (gs := wf) (get_app 1) get_app0 (by kernel_rfl) (by simp) (by kernel_rfl), set_app0]; rfl
      simp only [then_n, var_ap, env_cons, if_true, if_false, Option.map_some, Option.bind_some, seq_cons, seq_nil, seta_ap, asgA_ap, lst_ap, dictE_ap, evl_nil, ofS_inj, String.reduceEq, List.append_assoc, List.cons_append, List.nil_append, s1, s2, s3, List.length_append, List.length_cons, List.length_nil]
      rfl
    rw [key]
    rfl
  have hW : Wd D Γ Δ ex0 nm0 h2 := (W.app hD _).app (by simp; (clear_value *; lia)) _
  have hwalk2 : IsWalk Γ h2 wk [] := by
    refine ⟨by simp [wk], ?_, ?_, ?_, ?_⟩
    · exact (get_lt (by simp [h1, wk])).trans (get_app 1)
    · exact (get_lt (by simp [h1, wk])).trans get_app0
    · exact (get_lt (by simp [h1, wk])).trans (get_app 2)
    · exact (get_lt (by simp [h1, wk])).trans (get_app 3)
  have hr4 : h2[rw']? = some (.list []) := by
    have : h1.length = rw' := by simp [h1, rw']
    rw [← this]; exact get_app0
  have P0 : P2 D Γ Δ kp ex0 nm0 wk rw' h2 [] [] ex0 nm0 := ⟨hW, (Kk.app hD _).app (by simp; (clear_value *; lia)) _, hwalk2, ⟨by lia, [], hr4, rfl, fun i t p e1 _ => by simp at e1⟩, ⟨fun j x e => by simp at e, fun _ _ => rfl, fun j x k e => by simp at e, fun _ _ => rfl⟩, by lia, by lia⟩
  have I0 : MI Γ Δ [] := ⟨.nil, by simp, by simp, by simp⟩
  have hlen2 : h2.length = h.length + 5 := by simp [h2, h1]
  have obD := Kk.lt _ t7
  let J : Nat → List AO → (Str → Option AV) → Prop := fun i g lg => ∃ M H ex nm, UpD D [wk + 1, wk + 2, rw'] h2 g ∧ P2 D Γ Δ kp ex0 nm0 wk rw' g M (rowsOf Δ H) ex nm ∧ MI Γ Δ M ∧ Hist Γ Δ [] (os.take i) H M ∧ (rowsOf Δ H).length ≤ 1001 * i ∧
    (∀ y, (S! "record", y) ∈ rowsOf Δ H → y ∈ M) ∧ (∀ k y, k ≠ S! "record" → (k, y) ∈ rowsOf Δ H → y ∈ os.take i) ∧ lg (S! "rows") = some (.ref rw') ∧ lg (S! "walk") = some (.ref wk)
  refine cps fun C kont => ?_
  obtain ⟨h', l', e1, M', H', ex', nm', J1, J2, _, J4, _, _, _, J5, _⟩ := forN_list (x := S! "obj") (b := ob) (xs := rf os) (body := seq (L5_1 n)) (j := h2.length) (by rw [rf_len, szm]; (clear_value *; lia)) J
    (fun i g lg zp0 => exE4 zp0 fun M H ex nm Q => Q.2.1.K.at' _ t7)
    (fun i g lg o zp1 zp2 => exE4 zp1 fun M H ex nm Q => zp2.elim fun k hk => mkE4 M H ex nm ⟨Q.1.set (.inr (.inl (Nat.le_refl _))), Q.2.1.setIt hk (by clear zp1; (clear_value *; lia)), Q.2.2⟩)
    (fun i g lg v zp3 hv hj => by
      refine exE4 zp3 fun M H ex nm Q => anD9 Q fun q1 q2 q3 q4 q5 q6 q7 q8 q9 => ?_
      clear zp3 Q
      obtain ⟨o, ho, rfl⟩ := rf_get hv
      obtain ⟨oi, eo, hk⟩ := hos o (List.mem_of_getElem? ho)
      have hi := (List.getElem?_eq_some_iff.mp ho).1
      have hnot : o ∉ os.take i := by
        intro hm
        obtain ⟨k, hk, hk2⟩ := List.mem_take_iff_getElem.mp hm
        have e3 : os[k]? = os[i]? := by rw [List.getElem?_eq_getElem (by (clear_value *; lia)), hk2, ho]
        have := (List.getElem?_inj (by (clear_value *; lia)) ndo).mp e3
        (clear_value *; lia)
      have turn := exp_turn G q2 q3 (by have : 1001 * i ≤ 1001 * 8 := Nat.mul_le_mul_left _ (by (clear_value *; lia)); (clear_value *; lia)) eo hk (fun k hk hm => hnot (q7 k o hk hm)) q6 n (l := upd lg (S! "obj") (.ref o)) (by kernel_rfl!) (by simp only [upd_ap, if_false, ofS_inj, String.reduceEq]; exact q8) (by simp only [upd_ap, if_false, ofS_inj, String.reduceEq]; exact q9)
      rcases turn with ⟨hex, t⟩ | ⟨hex, g', l', new, ex', nm', t, U, P', MI', r1, rch, lr, lw⟩
      · refine ⟨.cont, g, _, t, .inr rfl, rfl, mkE4 M H ex nm ⟨q1, q2, q3, ?_, by (clear_value *; lia), q6, fun k y hk hm => ?_, by simp only [upd_ap, if_false, ofS_inj, String.reduceEq]; exact q8, by simp only [upd_ap, if_false, ofS_inj, String.reduceEq]; exact q9⟩⟩
        · rw [take_succ ho]
          have := q4.append (.skip eo hex .nil)
          rwa [List.append_nil] at this
        · rw [take_succ ho]; exact List.mem_append_left _ (q7 k y hk hm)
      · have hrow : rowsOf Δ (H ++ [(o, new.filter (own Γ))]) = rowsOf Δ H ++ seg Δ (o, new.filter (own Γ)) := by simp [rowsOf, List.flatMap_append]
        have ndn := (List.nodup_append.mp MI'.nd).2.1
        refine ⟨.next, g', l', t, .inl rfl, U.2 _ (by (clear_value *; lia)) (lt_of hj) (by simp; lia), mkE4 (M ++ new) (H ++ [(o, new.filter (own Γ))]) ex' nm' ⟨q1.trans U, by rw [hrow]; exact P', MI', ?_, ?_, fun y hm => ?_, fun k y hk hm => ?_, lr, lw⟩⟩
        · rw [take_succ ho]
          exact q4.append (.take eo hex q3 MI' r1 rch .nil)
        · rw [hrow, List.length_append]
          have := seg_len G ndn (fun x hx => MI'.inM x (List.mem_append_right _ hx)) (o := o)
          (clear_value *; lia)
        · rw [hrow] at hm
          rcases List.mem_append.mp hm with hm | hm
          · exact List.mem_append_left _ (q6 y hm)
          · unfold seg at hm
            rcases List.mem_append.mp hm with hm | hm
            · obtain ⟨z, hz, e⟩ := List.mem_map.mp hm
              cases e
              exact List.mem_append_right _ (List.mem_filter.mp hz).1
            · simp only [eo] at hm
              split at hm
              · rw [List.mem_singleton] at hm
                exact absurd (Prod.mk.inj hm).1.symm hk
              · cases hm
        · rw [take_succ ho]
          rw [hrow] at hm
          rcases List.mem_append.mp hm with hm | hm
          · exact List.mem_append_left _ (q7 k y hk hm)
          · rcases seg_in hm with ⟨q, _⟩ | q
            · exact absurd q hk
            · rw [q]; simp)
    os.length 0 (h2 ++ [.liter ob 0]) lb loops (by rw [rf_len]; (clear_value *; lia)) (by unfold loops; (clear_value *; lia)) get_app0 (by (clear_value *; lia))
    ⟨[], [], ex0, nm0, UpD.app _ _ _ _, P0.app _, I0, .nil, by simp [rowsOf], by simp [rowsOf], by simp [rowsOf], by simp only [upd_ap, if_true, lb], by simp only [upd_ap, if_true, if_false, ofS_inj, String.reduceEq, lb, la]⟩
  rw [rf_len, List.take_length] at J4
  refine kont ⟨h', rw', H', M', ex', nm', fun l => ?_, by have := J1.1; (clear_value *; lia), fun j q1 q2 => ?_, J2.W, J2.K, J2.rows, J2.num, J4, by lia⟩
  · rw [fn5]
    apply frun_ret'
    unfold B5
    rw [seq_next hwalk, seq_next (σ' := ⟨h2, lb⟩) (by rw [setl_ap, lst_ap, evl_nil]; show some (Fl.next, (⟨h1 ++ [.list []], upd la (S! "rows") (.ref h1.length)⟩ : St)) = _; rw [show h1.length = rw' from by simp [h1, rw']])]
    rw [seq_next (σ' := ⟨h', l'⟩) (forl_go (b := ob) (xs := rf os) (h := h2) (l := lb) ?_ (P0.K.at' _ t7) (by rw [rf_len, szm]; (clear_value *; lia)) e1)]
    · apply seq_ret
      simp only [var_ap, Option.map_some, sRet_ap, J5]
      rfl
    · have rdO : ∀ l, attr theQ (.ref tr) (S! "objs") ⟨h2, l⟩ = some (.ref ob) := fun l => attr_of (P0.K.at' _ t5) (P0.K.at' _ t6) (by kernel_rfl) t4 rfl
      simp only [att_ap, var_ap, env_cons, upd_ap, if_true, if_false, Option.map_some, Option.bind_some, ofS_inj, String.reduceEq, lb, la, l0, rdO]
  · have : h2[j]? = h[j]? := (get_lt (by simp [h1]; (clear_value *; lia))).trans (get_lt q2)
    rw [← this]
    exact J1.2 j q1 (by (clear_value *; lia)) (by simp; lia)
end
end Mine.L
end
section
namespace Mine.L
theorem tand3 (s t u : STt) (σ : St) : tAll .And [s, t, u] σ = (s σ).bind (andK (tAll .And [t, u])) := by
  show ((s σ).bind fun p => match BoolOp.And, p.1 with | .And, false => some (false, p.2) | .Or, true => some (true, p.2) | _, _ => tAll .And [t, u] p.2) = _
  cases h : s σ with
  | none => rfl
  | some p => obtain ⟨b, σ₁⟩ := p; cases b <;> rfl
section
variable {D N : Nat} {Γ : Nat → Option TI} {Δ : Nat → Option OI} {kp : List (Nat × AO)} {ex0 nm0 ex nm : Nat → Int} {h : List AO} {M : List Nat}
theorem Wd.putCell (W : Wd D Γ Δ ex nm h) {i : Nat} {c : Option AV} {o : AO} (hi : h[i]? = some (.cell c)) : Wd D Γ Δ ex nm (h.set i o) := by
  refine ⟨fun a t e => ?_, fun a p e => ?_, W.ltT, W.ltO⟩
  · obtain ⟨x, K⟩ := W.ty a t e
    refine ⟨x, K.frame fun j h1 h2 => get_set_ne ?_⟩
    rintro rfl
    have : i = a - 1 ∨ i = a ∨ i = a + 1 ∨ i = a + 2 := at4 h1 h2
    rcases this with rfl | rfl | rfl | rfl
    · rw [K.flds] at hi; cases hi
    · rw [K.inst] at hi; cases hi
    · rw [K.fs] at hi; cases hi
    · rw [K.ps] at hi; cases hi
  · obtain ⟨x, K⟩ := W.ob a p e
    refine ⟨x, K.frame fun j h1 h2 => get_set_ne ?_⟩
    rintro rfl
    have : i = a - 1 ∨ i = a := at2 h1 h2
    rcases this with rfl | rfl
    · rw [K.flds] at hi; cases hi
    · rw [K.inst] at hi; cases hi
theorem Kp.putAt (K : Kp D kp h) {i : Nat} {o : AO} (hi : ∀ p ∈ kp, p.1 ≠ i) : Kp D kp (h.set i o) :=
  ⟨fun p hp => (get_set_ne (fun q => hi p hp q.symm)).trans (K.at' p hp), K.lt, K.fl⟩
theorem set_same {h : List AO} {i : Nat} {o : AO} (e : h[i]? = some o) : h.set i o = h := by
  obtain ⟨hi, rfl⟩ := List.getElem?_eq_some_iff.mp e
  exact List.set_getElem_self hi
inductive DE where
  | nums (l : List Int)
  | name (s : Str)
noncomputable def srt (l : List Int) : List Int := l.mergeSort fun x y => decide (x ≤ y)
noncomputable def dues (Γ : Nat → Option TI) (Δ : Nat → Option OI) (p : Nat × List Nat) : List DE := .nums (srt (p.2.map (numOf Γ))) :: (match Δ p.1 with | some o => if isVP o then [.name o.name] else [] | none => [])
noncomputable def duesOf (Γ : Nat → Option TI) (Δ : Nat → Option OI) (H : List (Nat × List Nat)) : List DE := H.flatMap (dues Γ Δ)
noncomputable def DueIs (D : Nat) (h : List AO) : AV → DE → Prop
  | v, .nums l => ∃ a, v = .ref a ∧ D ≤ a ∧ h[a]? = some (.list (ofInts l))
  | v, .name s => v = .str s
noncomputable def DuesAre (D : Nat) (h : List AO) (dl : List AV) (ds : List DE) : Prop := dl.length = ds.length ∧ ∀ (i : Nat) (v : AV) (d : DE), dl[i]? = some v → ds[i]? = some d → DueIs D h v d
theorem DuesAre.mono {h h' : List AO} {dl : List AV} {ds : List DE} (x : DuesAre D h dl ds) (k : ∀ a l, D ≤ a → h[a]? = some (.list (ofInts l)) → (∃ (i : Nat), dl[i]? = some (.ref a)) → h'[a]? = some (.list (ofInts l))) : DuesAre D h' dl ds :=
  ⟨x.1, fun i v d e1 e2 => by
    have := x.2 i v d e1 e2
    cases d with
    | nums l => obtain ⟨a, rfl, q1, q2⟩ := this; exact ⟨a, rfl, q1, k a l q1 q2 ⟨i, e1⟩⟩
    | name s => exact this⟩
theorem DuesAre.snoc {h : List AO} {dl : List AV} {ds : List DE} {v : AV} {d : DE} (x : DuesAre D h dl ds) (y : DueIs D h v d) : DuesAre D h (dl ++ [v]) (ds ++ [d]) := by
  refine ⟨by simp [x.1], fun i w e e1 e2 => ?_⟩
  by_cases hi : i < dl.length
  · rw [List.getElem?_append_left hi] at e1
    rw [List.getElem?_append_left (by rw [← x.1]; exact hi)] at e2
    exact x.2 i w e e1 e2
  · have := (List.getElem?_eq_some_iff.mp e1).1
    simp at this
    have : i = dl.length := by lia
    subst this
    rw [List.getElem?_append_right (by lia)] at e1
    rw [List.getElem?_append_right (by rw [x.1]; lia), x.1] at e2
    simp at e1 e2
    subst e1; subst e2; exact y
noncomputable def HeldOK (Γ : Nat → Option TI) (hl : List Int) (M : List Nat) : Prop := ∀ k, k ∈ hl ↔ ∃ x ∈ M, own Γ x = true ∧ numOf Γ x = k
theorem perm_of_same {α : Type} [BEq α] [LawfulBEq α] {a b : List α} (na : a.Nodup) (nb : b.Nodup) (h : ∀ x, x ∈ a ↔ x ∈ b) : a.Perm b := by
  rw [List.perm_iff_count]
  intro x
  rw [na.count, nb.count]
  by_cases q : x ∈ a
  · rw [if_pos q, if_pos ((h x).mp q)]
  · rw [if_neg q, if_neg fun r => q ((h x).mpr r)]
theorem srt_perm {a b : List Int} (p : a.Perm b) : srt a = srt b := by
  refine List.Perm.eq_of_pairwise (le := fun x y => x ≤ y) (fun x y _ _ h1 h2 => by lia) ?_ ?_ (((List.mergeSort_perm a _).trans p).trans (List.mergeSort_perm b _).symm)
  · have := List.pairwise_mergeSort (le := fun x y : Int => decide (x ≤ y)) (fun a b c h1 h2 => by simp at *; lia) (fun a b => by simp; lia) a
    exact this.imp fun h => by simpa using h
  · have := List.pairwise_mergeSort (le := fun x y : Int => decide (x ≤ y)) (fun a b c h1 h2 => by simp at *; lia) (fun a b => by simp; lia) b
    exact this.imp fun h => by simpa using h
noncomputable def frs (Γ : Nat → Option TI) (hl : List Int) (F : List Nat) : List Nat := F.filter fun x => own Γ x && !decide (numOf Γ x ∈ hl)
theorem fresh_same (G : Gr N Γ Δ) {new F : List Nat} {hl : List Int} {r : Nat} (hr : ∃ t, Γ r = some t) (I : MI Γ Δ M) (I' : MI Γ Δ (M ++ new)) (r1 : r ∈ M ++ new) (rch : ∀ x ∈ new, Rch Γ Δ r x) (hF : ∀ x, x ∈ F ↔ Rch Γ Δ r x) (ok : HeldOK Γ hl M) (x : Nat) :
    x ∈ frs Γ hl F ↔ x ∈ new.filter (own Γ) := by
  unfold frs
  rw [List.mem_filter, List.mem_filter]
  simp only [Bool.and_eq_true, Bool.not_eq_true', decide_eq_false_iff_not]
  constructor
  · rintro ⟨q1, q2, q3⟩
    refine ⟨?_, q2⟩
    rcases List.mem_append.mp (I'.clo r1 ((hF x).mp q1)) with q | q
    · exact absurd ((ok _).mpr ⟨x, q, q2, rfl⟩) q3
    · exact q
  · rintro ⟨q1, q2⟩
    refine ⟨(hF x).mpr (rch x q1), q2, fun q => ?_⟩
    obtain ⟨y, hy, ho, e⟩ := (ok _).mp q
    have : y = x := numOf_inj G (I.inM y hy) (own_in q2) e
    subst this
    exact (List.nodup_append.mp I'.nd).2.2 y hy y q1 rfl
theorem held_more (G : Gr N Γ Δ) {new fr : List Nat} {hl : List Int} (ok : HeldOK Γ hl M) (hf : ∀ x, x ∈ fr ↔ x ∈ new.filter (own Γ)) : HeldOK Γ (hl ++ fr.map (numOf Γ)) (M ++ new) := by
  intro k
  rw [List.mem_append, ok k, List.mem_map]
  constructor
  · rintro (⟨x, h1, h2⟩ | ⟨x, h1, h2⟩)
    · exact ⟨x, List.mem_append_left _ h1, h2⟩
    · obtain ⟨q1, q2⟩ := List.mem_filter.mp ((hf x).mp h1)
      exact ⟨x, List.mem_append_right _ q1, q2, h2⟩
  · rintro ⟨x, h1, h2, h3⟩
    rcases List.mem_append.mp h1 with q | q
    · exact .inl ⟨x, q, h2, h3⟩
    · exact .inr ⟨x, (hf x).mpr (List.mem_filter.mpr ⟨q, h2⟩), h3⟩
theorem allInts_of : ∀ ns : List Int, allInts (ofInts ns) = some ns
  | [] => rfl
  | n :: ns => by show (allInts (ofInts ns)).map (n :: ·) = _; rw [allInts_of ns]; rfl
theorem sorted_ap {h : List AO} {l : Str → Option AV} {a : Nat} {ns : List Int} (e : h[a]? = some (.list (ofInts ns))) (n : ns.length ≤ 63) : callB (.bltn "sorted") [.ref a] ⟨h, l⟩ = some (.ref h.length, ⟨h ++ [.list (ofInts (srt ns))], l⟩) := by
  rw [b_sorted]
  show (listAt h a).bind _ = _
  rw [list_at e]
  show (allInts (ofInts ns)).bind _ = _
  rw [allInts_of]
  exact if_pos (by simpa [ofInts] using n)
structure P3 (D : Nat) (Γ : Nat → Option TI) (Δ : Nat → Option OI) (kp : List (Nat × AO)) (ex nm : Nat → Int) (hh du : Nat) (h : List AO) (hl : List Int) (dl : List AV) (ds : List DE) : Prop where
  W : Wd D Γ Δ ex nm h
  K : Kp D kp h
  c0 : h[0]? = some (.cell (some (.ref hh)))
  held : h[hh]? = some (.list (ofInts hl))
  due : h[du]? = some (.list dl)
  dues : DuesAre D h dl ds
  hD : D ≤ hh
  dD : D ≤ du
  ne : hh ≠ du
  apart : ∀ (i a : Nat), dl[i]? = some (.ref a) → a ≠ hh ∧ a ≠ du
variable {hh du : Nat} {hl : List Int} {dl : List AV} {ds : List DE}
theorem P3.up (P : P3 D Γ Δ kp ex nm hh du h hl dl ds) {h' : List AO} (u : Up [] h h') : P3 D Γ Δ kp ex nm hh du h' hl dl ds := by
  have l1 := lt_of P.held
  have hD := P.hD
  exact ⟨P.W.up u (by lia) (by simp), P.K.up u (by lia) (by simp), u.get P.c0 (by simp), u.get P.held (by simp), u.get P.due (by simp), P.dues.mono fun a l _ e _ => u.get e (by simp), P.hD, P.dD, P.ne, P.apart⟩
theorem P3.setIt (P : P3 D Γ Δ kp ex nm hh du h hl dl ds) {j b k : Nat} {o : AO} (hj : h[j]? = some (.liter b k)) (hD : D ≤ j) (hp : 0 < D) : P3 D Γ Δ kp ex nm hh du (h.set j o) hl dl ds := by
  have ne : ∀ {i : Nat} {p : AO}, h[i]? = some p → (∀ b k, p ≠ .liter b k) → (h.set j o)[i]? = some p := fun {i p} e q => by
    rw [get_set_ne]; exact e
    rintro rfl
    rw [hj] at e
    exact q b k (Option.some.inj e).symm
  exact ⟨P.W.putHigh hD, P.K.putHigh hD, ne P.c0 (by simp), ne P.held (by simp), ne P.due (by simp), P.dues.mono fun a l _ e _ => ne e (by simp), P.hD, P.dD, P.ne, P.apart⟩
theorem P3.more (P : P3 D Γ Δ kp ex nm hh du h hl dl ds) {v : AV} {d : DE} (hd : DueIs D h v d) (ha : ∀ a, v = .ref a → a ≠ hh ∧ a ≠ du) : P3 D Γ Δ kp ex nm hh du (h.set du (.list (dl ++ [v]))) hl (dl ++ [v]) (ds ++ [d]) := by
  have hp := P.dD
  have ap := P.apart
  have e0 := P.due
  refine ⟨P.W.putHigh hp, P.K.putHigh hp, (get_set_ne ?_).trans P.c0, (get_set_ne (fun q => P.ne q.symm)).trans P.held, get_set P.due, ?_, P.hD, P.dD, P.ne, ?_⟩
  · rintro rfl; rw [P.c0] at e0; cases e0
  · have x : DuesAre D (h.set du (.list (dl ++ [v]))) dl ds := P.dues.mono fun a l _ e ⟨i, q⟩ => (get_set_ne (fun q2 => (ap i a q).2 q2.symm)).trans e
    refine x.snoc ?_
    cases d with
    | nums l => obtain ⟨a, rfl, q1, q2⟩ := hd; exact ⟨a, rfl, q1, (get_set_ne (fun q3 => (ha a rfl).2 q3.symm)).trans q2⟩
    | name s => exact hd
  · intro i a e
    by_cases hi : i < dl.length
    · rw [List.getElem?_append_left hi] at e; exact ap i a e
    · rw [List.getElem?_append_right (by lia)] at e
      have := (List.getElem?_eq_some_iff.mp e).1
      simp at this
      have : i - dl.length = 0 := by lia
      rw [this] at e
      simp at e
      exact ha a e
theorem due_app {P : P3 D Γ Δ kp ex nm hh du h hl dl ds} {fn : SF} {e : SE} {l : Str → Option AV} {v : AV} {h1 : List AO} (P1 : P3 D Γ Δ kp ex nm hh du h1 hl dl ds) (ld : l (S! "due") = some (.ref du)) (he : e ⟨h, l⟩ = some (v, ⟨h1, l⟩)) (hn : dl.length ≤ szMax) :
    sE (meth fn (var (S! "due")) (S! "append") [e]) ⟨h, l⟩ = some (.next, ⟨h1.set du (.list (dl ++ [v])), l⟩) := by
  rw [sE_ap, lmeth (k := du) (σ' := ⟨h, l⟩) (xs := dl) (by simp only [var_ap, Option.map_some, ld]) P.due]
  simp only [evl_cons, evl_nil, he, Option.bind_some, append_ap (l := l) P1.due hn, Option.map_some]
theorem due_turn (G : Gr N Γ Δ) (hp : 0 < D) (P : P3 D Γ Δ kp ex nm hh du h hl dl ds) {new : List Nat} (ok : HeldOK Γ hl M) (hll : hl.length ≤ 20000) (hdl : dl.length ≤ 20000) {o : Nat} {oi : OI} (e : Δ o = some oi) (n : Nat) {l : Str → Option AV} (l1 : l (S! "obj") = some (.ref o)) (l2 : l (S! "due") = some (.ref du)) :
    (oi.ex = false → seq (L26_0 n) ⟨h, l⟩ = some (.next, ⟨h, l⟩)) ∧
    (oi.ex = true → MI Γ Δ M → MI Γ Δ (M ++ new) → oi.ty ∈ M ++ new → (∀ x ∈ new, Rch Γ Δ oi.ty x) →
      ∃ h' l' hl' dl', seq (L26_0 n) ⟨h, l⟩ = some (.next, ⟨h', l'⟩) ∧ UpD D [hh, du] h h' ∧ P3 D Γ Δ kp ex nm hh du h' hl' dl' (ds ++ dues Γ Δ (o, new.filter (own Γ))) ∧ HeldOK Γ hl' (M ++ new) ∧ hl'.length ≤ hl.length + 60 ∧ dl'.length ≤ dl.length + 2 ∧
        l' (S! "due") = some (.ref du) ∧ ∀ y, y ≠ S! "fresh" → l' y = l y) := by
  have RO := (P.W.ob o oi e).choose_spec.rd
  have l1h := lt_of P.held
  have hDh := P.hD
  have Ns := G.small
  unfold L26_0
  constructor
  · intro hex
    rw [seq_next (σ' := ⟨h, l⟩) (by simp only [iff_ap, tval_ap, att_ap, var_ap, l1, Option.map_some, Option.bind_some, RO, hex, brS_f, bool_ap]; rfl)]
    rfl
  · intro hex I I' r1 rch
    let h1 := h ++ [AO.list [.ref o]]
    have P1 := P.up (Up.app [] h [AO.list [.ref o]])
    refine ex3_6 (lawmet_ok G P1.W (by simp; (clear_value *; lia)) (b := h.length) (o := o) get_app0 e hex (show 13 ≤ n + 25 from Nat.le_add_left 13 (n + 12))) fun h2 q F c1 U2 q1 hF ndF hr => ?_
    have P2 := P1.up U2
    have inF : ∀ x ∈ F, ∃ t, Γ x = some t := fun x hx => rch_in G (G.oty o oi e) ((hr x).mp hx)
    have FL := few G ndF inF
    have l2h := lt_of P2.held
    let fr := frs Γ hl F
    have frl : fr.length ≤ 60 := by have := List.length_filter_le (fun x => own Γ x && !decide (numOf Γ x ∈ hl)) F; show (F.filter _).length ≤ 60; (clear_value *; lia)
    have same := fresh_same G (G.oty o oi e) I I' r1 rch hr ok
    have ndfr : fr.Nodup := ndF.sublist List.filter_sublist
    have ndnr : (new.filter (own Γ)).Nodup := (List.nodup_append.mp I'.nd).2.1.sublist List.filter_sublist
    have hsrt : srt (fr.map (numOf Γ)) = srt ((new.filter (own Γ)).map (numOf Γ)) := srt_perm ((perm_of_same ndfr ndnr same).map _)
    have c0at : ∀ {g : List AO}, g[0]? = some (AO.cell (some (.ref hh))) → ∀ lv, celv 0 ⟨g, lv⟩ = some (.ref hh, ⟨g, lv⟩) := fun {g} eg lv => by unfold celv; rw [cell_at eg]; rfl
    let h3 := h2 ++ [AO.junk, AO.list (rf fr)]
    let la := upd l (S! "fresh") (.ref (h2.length + 1))
    have s1 : setl (S! "fresh") (comp (S! "t") (callf ((run theQ (n + 25)).fn) 25 [lst [var (S! "obj")]]) [tAll .And [tcmp .Eq (att (var (S! "t")) (S! "form")) (lit (.str (S! "record"))), tcmp .Eq (att (var (S! "t")) (S! "module")) (lit (.str (S! "M"))), tcmp .NotIn (att (var (S! "t")) (S! "number")) (celv 0)]] (var (S! "t"))) ⟨h, l⟩ = some (.next, ⟨h3, la⟩) := by
      rw [setl_ap, comp_rf (h := h2) (b := q) (fs := F) (l := l) ?_ hF (by rw [szm]; (clear_value *; lia)) (fun x => own Γ x && !decide (numOf Γ x ∈ hl)) AV.ref ?_ ?_]
      · rfl
      · have q0 : lst [var (S! "obj")] ⟨h, l⟩ = some (.ref h.length, ⟨h1, l⟩) := by simp only [var_ap, Option.map_some, Option.bind_some, lst_ap, evl_cons, evl_nil, l1]; rfl
        simp only [callf_ap, evl_cons, evl_nil, q0, Option.bind_some]
        exact c1 l
      · intro v hv ys lv
        obtain ⟨t, et⟩ := inF v hv
        have Wv := P2.W.app (by (clear_value *; lia)) ys
        have RT := (Wv.ty v t et).choose_spec.rd
        have hc0 : (h2 ++ ys)[0]? = some (AO.cell (some (.ref hh))) := (get_lt (lt_of P2.c0)).trans P2.c0
        have hhe : (h2 ++ ys)[hh]? = some (.list (ofInts hl)) := (get_lt l2h).trans P2.held
        have ro : own Γ v = (t.form == S! "record" && t.mod == S! "M") := by unfold own; rw [et]
        have hn : (ofInts hl).length ≤ szMax := by rw [szm]; simp [ofInts]; (clear_value *; lia)
        rw [trl_one, tand3]
        cases hf : t.form == S! "record" with
        | false => simp only [tcmp_ap, att_ap, var_ap, upd_ap, if_true, Option.map_some, Option.bind_some, RT, lit_ap, c_eq, s_str, hf, ro, Bool.false_and, andK_f]
        | true =>
          simp only [tand2, tcmp_ap, att_ap, var_ap, upd_ap, if_true, Option.map_some, Option.bind_some, RT, lit_ap, c_eq, s_str, hf, ro, Bool.true_and, andK_t]
          cases hm : t.mod == S! "M" with
          | false => simp only [Bool.false_and, andK_f]
          | true => simp only [if_true, tcmp_ap, att_ap, var_ap, upd_ap, Option.map_some, Option.bind_some, RT, c0at hc0, c_nin, in_list hhe hn, inL_ints, numOf_eq et, Bool.true_and, andK_t]
      · intro v hv _ ys lv
        simp only [var_ap, upd_ap, if_true, Option.map_some]
    have P3' := P2.up (Up.app [] h2 [AO.junk, AO.list (rf fr)])
    have numsOf : ∀ {g : List AO} {lv : Str → Option AV}, Wd D Γ Δ ex nm g → D ≤ g.length → g[h2.length + 1]? = some (.list (rf fr)) → lv (S! "fresh") = some (.ref (h2.length + 1)) →
        comp (S! "t") (var (S! "fresh")) [] (att (var (S! "t")) (S! "number")) ⟨g, lv⟩ = some (.ref (g.length + 1), ⟨g ++ [.junk, .list (ofInts (fr.map (numOf Γ)))], lv⟩) := fun {g lv} Wg hg hfr hlv => by
      rw [comp_rf0 (h := g) (b := h2.length + 1) (fs := fr) (l := lv) (by simp only [var_ap, Option.map_some, hlv]) hfr (by rw [szm]; (clear_value *; lia)) (fun y => .int (numOf Γ y)) (fun v hv ys lw => by
        obtain ⟨u, hu⟩ := inF v (List.mem_filter.mp hv).1
        have q := ((Wg.app hg ys).ty v u hu).choose_spec.rd
        simp only [att_ap, var_ap, upd_ap, if_true, Option.map_some, Option.bind_some, q, numOf_eq hu])]
      rw [nums_map]
    have h3l : h3.length = h2.length + 2 := by simp [h3]
    have fr3 : h3[h2.length + 1]? = some (.list (rf fr)) := get_app 1
    let nums := fr.map (numOf Γ)
    let h4a := h3 ++ [AO.junk, AO.list (ofInts nums)]
    let h4 := h4a.set hh (.list (ofInts hl ++ ofInts nums))
    have P4a := P3'.up (Up.app [] h3 [AO.junk, AO.list (ofInts nums)])
    have s2 : augc 0 .Add (comp (S! "t") (var (S! "fresh")) [] (att (var (S! "t")) (S! "number"))) ⟨h3, la⟩ = some (.next, ⟨h4, la⟩) := by
      unfold augc
      rw [cell_at P3'.c0]
      simp only [Option.bind_some, id]
      rw [numsOf P3'.W (show D ≤ h3.length by (clear_value *; lia)) fr3 (by kernel_rfl!)]
      simp only [Option.bind_some]
      have n1 : (ofInts hl).length ≤ szMax := by rw [szm]; simp [ofInts]; (clear_value *; lia)
      have n2 : (ofInts nums).length ≤ szMax := by rw [szm]; simp [ofInts, nums]; (clear_value *; lia)
      have ne : hh ≠ (h2 ++ [AO.junk, AO.list (rf fr)]).length + 1 := by have := lt_of P3'.held; (clear_value *; lia)
      rw [i_list (h := h4a) (b := h3.length + 1) P4a.held (get_app 1) ne n1 n2]
      simp only [Option.bind_some]
      have c4 : h4[0]? = some (AO.cell (some (.ref hh))) := (get_set_ne (by (clear_value *; lia))).trans P4a.c0
      unfold asgC
      rw [show h4a.set hh (.list (ofInts hl ++ ofInts nums)) = h4 from rfl]
      simp only [cell_at c4, Option.map_some, St.put, set_same c4]
    have P4 : P3 D Γ Δ kp ex nm hh du h4 (hl ++ nums) dl ds := by
      have ap := P4a.apart
      refine ⟨P4a.W.putHigh P.hD, P4a.K.putHigh P.hD, (get_set_ne (by (clear_value *; lia))).trans P4a.c0, by rw [get_set P4a.held]; simp [ofInts], (get_set_ne P.ne).trans P4a.due, P4a.dues.mono fun a l _ e ⟨i, q⟩ => (get_set_ne (fun q2 => (ap i a q).1 q2.symm)).trans e, P.hD, P.dD, P.ne, ap⟩
    have h4l : h4.length = h2.length + 4 := by simp [h4, h4a, h3l]
    have fr4 : h4[h2.length + 1]? = some (.list (rf fr)) := (get_set_ne (by (clear_value *; lia))).trans ((get_lt (by (clear_value *; lia))).trans fr3)
    let h5a := h4 ++ [AO.junk, AO.list (ofInts nums), AO.list (ofInts (srt nums))]
    have P5a := P4.up (Up.app [] h4 [AO.junk, AO.list (ofInts nums), AO.list (ofInts (srt nums))])
    let h5 := h5a.set du (.list (dl ++ [.ref (h4.length + 2)]))
    have dul := lt_of P4.due
    have hs : bcall (.bltn "sorted") [comp (S! "t") (var (S! "fresh")) [] (att (var (S! "t")) (S! "number"))] ⟨h4, la⟩ = some (.ref (h4.length + 2), ⟨h5a, la⟩) := by
      simp only [bcall_ap, evl_cons, evl_nil, numsOf P4.W (by (clear_value *; lia)) fr4 (show la (S! "fresh") = some (.ref (h2.length + 1)) from by simp only [upd_ap, if_true, la]), Option.bind_some]
      rw [sorted_ap (ns := nums) (get_app 1) (by simp [nums]; (clear_value *; lia))]
      simp only [h5a, List.append_assoc, List.cons_append, List.nil_append, List.length_append, List.length_cons, List.length_nil]
      rfl
    have lda : la (S! "due") = some (.ref du) := Eq.trans (by kernel_rfl!) l2
    have s3 := due_app (P := P4) (fn := (run theQ (n + 25)).fn) P5a lda hs (by rw [szm]; (clear_value *; lia))
    have P5 : P3 D Γ Δ kp ex nm hh du h5 (hl ++ nums) (dl ++ [.ref (h4.length + 2)]) (ds ++ [.nums (srt nums)]) := P5a.more ⟨_, rfl, by (clear_value *; lia), get_app 2⟩ (fun a ha => by cases ha; (clear_value *; lia))
    have U5 : UpD D [hh, du] h h5 := by
      have u3 : UpD D [hh, du] h h3 := ((UpD.app D [hh, du] h [AO.list [.ref o]]).trans ((UpD.ofUp U2).mono (by simp))).appR _
      exact (((u3.appR _).set (.inl (by simp))).appR _).set (.inl (by simp))
    have ROa := (P5.W.ob o oi e).choose_spec.rd
    have loa : la (S! "obj") = some (.ref o) := Eq.trans (by kernel_rfl!) l1
    let h6 := h5 ++ [AO.list [.str (S! "var"), .str (S! "proc")]]
    have P6 := P5.up (Up.app [] h5 [AO.list [.str (S! "var"), .str (S! "proc")]])
    have RO6 := (P6.W.ob o oi e).choose_spec.rd
    have hin : tcmp .In (att (var (S! "obj")) (S! "kind")) (lst [lit (.str (S! "var")), lit (.str (S! "proc"))]) ⟨h5, la⟩ = some (isVP oi, ⟨h6, la⟩) := by
      rw [in2 (h := h5) (l := la) (s := oi.kind) (by simp only [att_ap, var_ap, Option.map_some, Option.bind_some, loa, ROa])]
      unfold isVP
      rw [Bool.or_false]
      congr 2
      · have : ∀ a b : Str, (a == b) = (b == a) := fun a b => Bool.eq_iff_iff.mpr ⟨fun q => beq_iff_eq.mpr (beq_iff_eq.mp q).symm, fun q => beq_iff_eq.mpr (beq_iff_eq.mp q).symm⟩
        rw [this, this (S! "proc")]
    have hds : dues Γ Δ (o, new.filter (own Γ)) = .nums (srt nums) :: (if isVP oi then [.name oi.name] else []) := by
      unfold dues; simp only [e]; rw [← hsrt]
    have hok := held_more G ok same
    have fin : ∀ {g : List AO} {f : Fl} {lv}, seq [iff' (tcmp .In (att (var (S! "obj")) (S! "kind")) (lst [lit (.str (S! "var")), lit (.str (S! "proc"))])) [sE (meth ((run theQ (n + 24)).fn) (var (S! "due")) (S! "append") [att (var (S! "obj")) (S! "name")])] []] ⟨h5, la⟩ = some (.next, ⟨g, lv⟩) →
        seq [iff' (tval (att (var (S! "obj")) (S! "exported"))) [setl (S! "fresh") (comp (S! "t") (callf ((run theQ (n + 25)).fn) 25 [lst [var (S! "obj")]]) [tAll .And [tcmp .Eq (att (var (S! "t")) (S! "form")) (lit (.str (S! "record"))), tcmp .Eq (att (var (S! "t")) (S! "module")) (lit (.str (S! "M"))), tcmp .NotIn (att (var (S! "t")) (S! "number")) (celv 0)]] (var (S! "t"))),
          augc 0 .Add (comp (S! "t") (var (S! "fresh")) [] (att (var (S! "t")) (S! "number"))), sE (meth ((run theQ (n + 25)).fn) (var (S! "due")) (S! "append") [bcall (.bltn "sorted") [comp (S! "t") (var (S! "fresh")) [] (att (var (S! "t")) (S! "number"))]]),
          iff' (tcmp .In (att (var (S! "obj")) (S! "kind")) (lst [lit (.str (S! "var")), lit (.str (S! "proc"))])) [sE (meth ((run theQ (n + 24)).fn) (var (S! "due")) (S! "append") [att (var (S! "obj")) (S! "name")])] []] []] ⟨h, l⟩ = some (.next, ⟨g, lv⟩) := fun {g f lv} hq => by
      rw [seq_next (σ' := ⟨g, lv⟩) (by
        rw [iff_ap]
        have : tval (att (var (S! "obj")) (S! "exported")) ⟨h, l⟩ = some (true, ⟨h, l⟩) := by simp only [bool_ap, tval_ap, att_ap, var_ap, Option.map_some, Option.bind_some, l1, RO, hex]
        rw [this]
        simp only [Option.bind_some, brS_t]
        rw [seq_next s1, seq_next s2, seq_next s3]
        exact hq)]
      rfl
    by_cases hv : isVP oi = true
    · have s4 := due_app (P := P6) (fn := (run theQ (n + 24)).fn) (e := att (var (S! "obj")) (S! "name")) P6 lda (v := .str oi.name) (by simp only [att_ap, var_ap, Option.map_some, Option.bind_some, loa, RO6]) (by rw [szm]; simp; (clear_value *; lia))
      refine ⟨_, la, hl ++ nums, dl ++ [.ref (h4.length + 2)] ++ [.str oi.name], fin (f := .next) (g := h6.set du (.list (dl ++ [.ref (h4.length + 2)] ++ [.str oi.name]))) (lv := la) ?_, (U5.appR _).set (.inl (by simp)), ?_, hok, by simp [nums]; (clear_value *; lia), by simp, lda, fun y hy => (upd_ap ..).trans (if_neg hy)⟩
      · rw [seq_next (σ' := ⟨h6.set du (.list (dl ++ [.ref (h4.length + 2)] ++ [.str oi.name])), la⟩) (by
          rw [iff_ap, hin, hv]
          simp only [Option.bind_some, brS_t]
          rw [seq_next s4]; rfl)]
        rfl
      · rw [hds, hv]
        have := P6.more (v := .str oi.name) (d := .name oi.name) rfl (fun a ha => by cases ha)
        simpa using this
    · have hv : isVP oi = false := by simpa using hv
      refine ⟨h6, la, hl ++ nums, dl ++ [.ref (h4.length + 2)], fin (f := .next) ?_, U5.appR _, ?_, hok, by simp [nums]; (clear_value *; lia), by simp, lda, fun y hy => (upd_ap ..).trans (if_neg hy)⟩
      · rw [seq_next (σ' := ⟨h6, la⟩) (by rw [iff_ap, hin, hv]; simp only [Option.bind_some, brS_f]; rfl)]
        rfl
      · rw [hds, hv]
        simpa using P6
end
end Mine.L
end
section
namespace Mine.L
section
variable {D N : Nat} {Γ : Nat → Option TI} {Δ : Nat → Option OI} {kp : List (Nat × AO)} {ex nm : Nat → Int} {h : List AO} {hh du ob : Nat} {os M' : List Nat} {H : List (Nat × List Nat)}
theorem duesOf_append (a b : List (Nat × List Nat)) : duesOf Γ Δ (a ++ b) = duesOf Γ Δ a ++ duesOf Γ Δ b := by simp [duesOf, List.flatMap_append]
theorem due_loop (G : Gr N Γ Δ) (hp : 0 < D) (hol : os.length ≤ 8) (hob : (ob, AO.list (rf os)) ∈ kp) (hH : Hist Γ Δ [] os H M') (hos : ∀ o ∈ os, ∃ oi, Δ o = some oi) (P : P3 D Γ Δ kp ex nm hh du h [] [] []) (n : Nat) {l : Str → Option AV} (l2 : l (S! "due") = some (.ref du)) :
    ∃ h' l' hl dl, forN (S! "obj") (.ref h.length) (seq (L26_0 n)) loops ⟨h ++ [.liter ob 0], l⟩ = some (.next, ⟨h', l'⟩) ∧ UpD D [hh, du] h h' ∧ P3 D Γ Δ kp ex nm hh du h' hl dl (duesOf Γ Δ H) ∧ HeldOK Γ hl M' ∧ l' (S! "due") = some (.ref du) ∧ hl.length ≤ 480 ∧ dl.length ≤ 16 ∧
      (∀ y, y ≠ S! "obj" → y ≠ S! "fresh" → l' y = l y) := by
  have obD := P.K.lt _ hob
  have hlt := lt_of P.held
  have hD := P.hD
  let J : Nat → List AO → (Str → Option AV) → Prop := fun i g lg => ∃ Hd Hr M hl dl, H = Hd ++ Hr ∧ Hist Γ Δ M (os.drop i) Hr M' ∧ UpD D [hh, du] h g ∧ P3 D Γ Δ kp ex nm hh du g hl dl (duesOf Γ Δ Hd) ∧ HeldOK Γ hl M ∧ hl.length ≤ 60 * i ∧ dl.length ≤ 2 * i ∧ lg (S! "due") = some (.ref du) ∧
      (∀ y, y ≠ S! "obj" → y ≠ S! "fresh" → lg y = l y)
  obtain ⟨h', l', e1, Hd, Hr, M, hl, dl, J1, J2, J3, J4, J5, J6, J7, J8, J9⟩ := forN_list (x := S! "obj") (b := ob) (xs := rf os) (body := seq (L26_0 n)) (j := h.length) (by rw [rf_len, szm]; lia) J
    (fun i g lg zp0 => exE5 zp0 fun Hd Hr M hl dl Q => Q.2.2.2.1.K.at' _ hob)
    (fun i g lg o zp1 zp2 => exE5 zp1 fun Hd Hr M hl dl Q => zp2.elim fun k hk => mkE5 Hd Hr M hl dl ⟨Q.1, Q.2.1, Q.2.2.1.set (.inr (.inl (Nat.le_refl _))), Q.2.2.2.1.setIt hk (by clear zp1 Q; lia) hp, Q.2.2.2.2⟩)
    (fun i g lg v zp3 hv hj => by
      refine exE5 zp3 fun Hd Hr M hl dl Q => anD9 Q fun q1 q2 q3 q4 q5 q6 q7 q8 q9 => ?_
      clear zp3 Q
      obtain ⟨o, ho, rfl⟩ := rf_get hv
      have hi := (List.getElem?_eq_some_iff.mp ho).1
      have hdrop : os.drop i = o :: os.drop (i + 1) := by
        rw [List.drop_eq_getElem_cons hi]
        congr 1
        rw [List.getElem?_eq_getElem hi] at ho
        exact Option.some.inj ho
      rw [hdrop] at q2
      obtain ⟨oi, eo⟩ := hos o (List.mem_of_getElem? ho)
      cases q2 with
      | skip e1 e2 q2 =>
        rw [eo] at e1; cases e1
        obtain ⟨t, _⟩ := due_turn (new := []) G hp q4 q5 (by lia) (by lia) eo n (l := upd lg (S! "obj") (.ref o)) (by kernel_rfl!) (by simp only [upd_ap, if_false, ofS_inj, String.reduceEq]; exact q8)
        exact ⟨.next, g, _, t e2, .inl rfl, rfl, mkE5 Hd Hr M hl dl ⟨q1, q2, q3, q4, q5, by lia, by lia, by simp only [upd_ap, if_false, ofS_inj, String.reduceEq]; exact q8, fun y y1 y2 => by rw [upd_ap, if_neg y1]; exact q9 y y1 y2⟩⟩
      | @take _ _ _ new _ oi' Hr' e1 e2 I I' r1 rch q2 =>
        rw [eo] at e1; cases e1
        obtain ⟨_, t⟩ := due_turn (new := new) G hp q4 q5 (by lia) (by lia) eo n (l := upd lg (S! "obj") (.ref o)) (by kernel_rfl!) (by simp only [upd_ap, if_false, ofS_inj, String.reduceEq]; exact q8)
        obtain ⟨g', l', hl', dl', t1, U, P', ok', b1, b2, ld, lo⟩ := t e2 I I' r1 rch
        refine ⟨.next, g', l', t1, .inl rfl, U.2 _ (by lia) (lt_of hj) (by have := lt_of P.due; simp; lia), mkE5 (Hd ++ [(o, new.filter (own Γ))]) Hr' (M ++ new) hl' dl' ⟨by rw [q1]; simp, q2, q3.trans U, ?_, ok', by lia, by lia, ld, fun y y1 y2 => ?_⟩⟩
        · rw [duesOf_append]
          have : duesOf Γ Δ [(o, new.filter (own Γ))] = dues Γ Δ (o, new.filter (own Γ)) := by simp [duesOf]
          rw [this]; exact P'
        · rw [lo y y2, upd_ap, if_neg y1]; exact q9 y y1 y2)
    os.length 0 (h ++ [.liter ob 0]) l loops (by rw [rf_len]; lia) (by unfold loops; lia) get_app0 (by lia)
    ⟨[], H, [], [], [], rfl, hH, UpD.app _ _ _ _, P.up (Up.app _ _ _), fun k => by simp, by simp, by simp, l2, fun _ _ _ => rfl⟩
  rw [rf_len, List.drop_length] at J2
  rw [rf_len] at J6 J7
  cases J2
  rw [List.append_nil] at J1
  subst J1
  exact ⟨h', l', hl, dl, e1, J3, J4, J5, J8, by lia, by lia, J9⟩
inductive MatchD (Γ : Nat → Option TI) (Δ : Nat → Option OI) : List DE → List (Str × Nat) → Prop
  | nil : MatchD Γ Δ [] []
  | nums {nr : List Nat} {ds : List DE} {R : List (Str × Nat)} : (∀ x ∈ nr, own Γ x = true) → nr.length ≤ 60 → MatchD Γ Δ ds R → MatchD Γ Δ (.nums (srt (nr.map (numOf Γ))) :: ds) (nr.map rrow ++ R)
  | name {o : Nat} {oi : OI} {ds : List DE} {R : List (Str × Nat)} : Δ o = some oi → isVP oi = true → MatchD Γ Δ ds R → MatchD Γ Δ (.name oi.name :: ds) ((oi.kind, o) :: R)
theorem hist_match (G : Gr N Γ Δ) {M : List Nat} (x : Hist Γ Δ M os H M') : MatchD Γ Δ (duesOf Γ Δ H) (rowsOf Δ H) := by
  induction x with
  | nil => exact .nil
  | skip _ _ _ ih => exact ih
  | @take M os M' new o oi H e1 e2 I I' r1 rch _ ih =>
    have hn := few G (List.nodup_append.mp I'.nd).2.1 (fun x hx => I'.inM x (List.mem_append_right _ hx))
    have Ns := G.small
    have hl : (new.filter (own Γ)).length ≤ 60 := by have := List.length_filter_le (own Γ) new; lia
    have hd : duesOf Γ Δ ((o, new.filter (own Γ)) :: H) = .nums (srt ((new.filter (own Γ)).map (numOf Γ))) :: ((if isVP oi then [.name oi.name] else []) ++ duesOf Γ Δ H) := by simp [duesOf, dues, e1]
    have hr : rowsOf Δ ((o, new.filter (own Γ)) :: H) = (new.filter (own Γ)).map rrow ++ ((if isVP oi then [(oi.kind, o)] else []) ++ rowsOf Δ H) := by simp [rowsOf, seg, e1]
    rw [hd, hr]
    refine .nums (fun x hx => (List.mem_filter.mp hx).2) hl ?_
    by_cases hv : isVP oi = true
    · rw [if_pos hv, if_pos hv]; exact .name e1 hv ih
    · rw [if_neg hv, if_neg hv]; exact ih
theorem rrow_inj {x y : Nat} (h : rrow x = rrow y) : x = y := (Prod.mk.inj h).2
theorem hist_base {M : List Nat} (x : Hist Γ Δ M os H M') : ∀ R₀ : List (Str × Nat), (∀ y ∈ M, own Γ y = true → rrow y ∈ R₀) →
    (∀ (i z : Nat) (t : TI) (b : Nat), (rowsOf Δ H)[i]? = some (rrow z) → Γ z = some t → par t = some b → own Γ b = true → rrow b ∈ R₀ ++ (rowsOf Δ H).take i) ∧ ∀ y ∈ M', own Γ y = true → rrow y ∈ R₀ ++ rowsOf Δ H := by
  induction x with
  | nil => intro R₀ h; exact ⟨fun i z t b e => by simp [rowsOf] at e, fun y hy ho => by simpa [rowsOf] using h y hy ho⟩
  | skip _ _ _ ih => exact ih
  | @take M os M' new o oi H e1 e2 I I' r1 rch _ ih =>
    intro R₀ h0
    let nr := new.filter (own Γ)
    let sg := seg Δ (o, nr)
    have hr : rowsOf Δ ((o, nr) :: H) = sg ++ rowsOf Δ H := by simp [rowsOf, sg]
    have hsg : ∀ y ∈ nr, rrow y ∈ sg := fun y hy => List.mem_append_left _ (List.mem_map.mpr ⟨y, hy, rfl⟩)
    obtain ⟨ih1, ih2⟩ := ih (R₀ ++ sg) (fun y hy ho => by
      rcases List.mem_append.mp hy with q | q
      · exact List.mem_append_left _ (h0 y q ho)
      · exact List.mem_append_right _ (hsg y (List.mem_filter.mpr ⟨q, ho⟩)))
    show (∀ (i z : Nat) (t : TI) (b : Nat), (rowsOf Δ ((o, nr) :: H))[i]? = some (rrow z) → _) ∧ _
    rw [hr]
    refine ⟨fun i z t b e ez hp ho => ?_, fun y hy ho => by rw [← List.append_assoc]; exact ih2 y hy ho⟩
    by_cases hi : i < sg.length
    · rw [List.getElem?_append_left hi] at e
      have hzs : (S! "record", z) ∈ sg := List.mem_of_getElem? e
      rw [List.take_append_of_le_length (Nat.le_of_lt hi)]
      have hin : i < nr.length ∧ nr[i]? = some z := by
        by_cases hi2 : i < nr.length
        · refine ⟨hi2, ?_⟩
          have : sg[i]? = (nr.map rrow)[i]? := List.getElem?_append_left (by simpa using hi2)
          rw [this, List.getElem?_map, List.getElem?_eq_getElem hi2] at e
          rw [List.getElem?_eq_getElem hi2, rrow_inj (Option.some.inj e)]
        · exfalso
          have : sg[i]? = _ := List.getElem?_append_right (by simpa using hi2)
          rw [this] at e
          have hm := List.mem_of_getElem? e
          simp only [e1] at hm
          split at hm
          · rename_i hv
            rw [List.mem_singleton] at hm
            have hk : oi.kind = S! "record" := (Prod.mk.inj hm).1.symm
            unfold isVP at hv
            rw [hk] at hv
            rw [beqS, beqS] at hv
            exact absurd hv (by decide)
          · cases hm
      have hz : z ∈ new := (List.mem_filter.mp (List.mem_of_getElem? hin.2)).1
      obtain ⟨p, q, hpq, hb⟩ := I'.ord z t b (List.mem_append_right _ hz) ez hp
      rcases List.append_eq_append_iff.mp hpq with ⟨a', q1, q2⟩ | ⟨c', q1, q2⟩
      · -- p = M ++ a', new = a' ++ z :: q
        rw [q1] at hb
        rcases List.mem_append.mp hb with hb | hb
        · exact List.mem_append_left _ (h0 b hb ho)
        · refine List.mem_append_right _ ?_
          have hnr : nr = a'.filter (own Γ) ++ (z :: q).filter (own Γ) := by show new.filter _ = _; rw [q2, List.filter_append]
          have hoz : own Γ z = true := (List.mem_filter.mp (List.mem_of_getElem? hin.2)).2
          have hnd : nr.Nodup := (List.nodup_append.mp I'.nd).2.1.sublist List.filter_sublist
          have e3 : nr[(a'.filter (own Γ)).length]? = some z := by rw [hnr, List.getElem?_append_right (Nat.le_refl _)]; simp [hoz]
          have : (a'.filter (own Γ)).length = i := (List.getElem?_inj (List.getElem?_eq_some_iff.mp e3).1 hnd).mp (e3.trans hin.2.symm)
          have htk : nr.take i = a'.filter (own Γ) := by rw [hnr, ← this, List.take_left']; rfl
          have : sg.take i = (nr.map rrow).take i := List.take_append_of_le_length (by simpa using Nat.le_of_lt hin.1)
          rw [this, ← List.map_take, htk]
          exact List.mem_map.mpr ⟨b, List.mem_filter.mpr ⟨hb, ho⟩, rfl⟩
      · -- M = p ++ c', so b stood before
        refine List.mem_append_left _ (h0 b ?_ ho)
        rw [q1]; exact List.mem_append_left _ hb
    · rw [List.getElem?_append_right (by (clear_value *; lia))] at e
      have := ih1 (i - sg.length) z t b e ez hp ho
      rw [List.take_append, List.take_of_length_le (by (clear_value *; lia)), ← List.append_assoc]
      exact this
theorem hist_obj1 {M : List Nat} (x : Hist Γ Δ M os H M') : ∀ k o, k ≠ S! "record" → (k, o) ∈ rowsOf Δ H → o ∈ os ∧ ∃ oi, Δ o = some oi ∧ oi.ex = true ∧ isVP oi = true := by
  induction x with
  | nil => intro k o _ h; simp [rowsOf] at h
  | skip _ _ _ ih => intro k o hk h; obtain ⟨q1, q2⟩ := ih k o hk h; exact ⟨.tail _ q1, q2⟩
  | @take M os M' new o' oi H e1 e2 _ _ _ _ _ ih =>
    intro k o hk h
    have hr : rowsOf Δ ((o', new.filter (own Γ)) :: H) = (new.filter (own Γ)).map rrow ++ ((if isVP oi then [(oi.kind, o')] else []) ++ rowsOf Δ H) := by simp [rowsOf, seg, e1]
    rw [hr] at h
    rcases List.mem_append.mp h with q | q
    · obtain ⟨y, _, e⟩ := List.mem_map.mp q
      exact absurd (Prod.mk.inj e).1.symm hk
    · rcases List.mem_append.mp q with q | q
      · split at q
        · rename_i hv
          rw [List.mem_singleton] at q
          cases q
          exact ⟨.head _, oi, e1, e2, hv⟩
        · cases q
      · obtain ⟨q1, q2⟩ := ih k o hk q; exact ⟨.tail _ q1, q2⟩
theorem hist_obj2 {M : List Nat} (x : Hist Γ Δ M os H M') : ∀ o oi, o ∈ os → Δ o = some oi → oi.ex = true → isVP oi = true → (oi.kind, o) ∈ rowsOf Δ H := by
  induction x with
  | nil => intro o oi h; cases h
  | skip e1 e2 _ ih =>
    intro o oi h e ex vp
    rcases List.mem_cons.mp h with rfl | h
    · rw [e] at e1; cases e1; rw [ex] at e2; cases e2
    · exact ih o oi h e ex vp
  | @take M os M' new o' oi' H e1 e2 _ _ _ _ _ ih =>
    intro o oi h e ex vp
    have hr : rowsOf Δ ((o', new.filter (own Γ)) :: H) = (new.filter (own Γ)).map rrow ++ ((if isVP oi' then [(oi'.kind, o')] else []) ++ rowsOf Δ H) := by simp [rowsOf, seg, e1]
    rw [hr]
    rcases List.mem_cons.mp h with rfl | h
    · rw [e] at e1; cases e1
      rw [if_pos vp]
      exact List.mem_append_right _ (List.mem_append_left _ (.head _))
    · exact List.mem_append_right _ (List.mem_append_right _ (ih o oi h e ex vp))
theorem hist_rec {M : List Nat} (x : Hist Γ Δ M os H M') : (∀ y ∈ M, y ∈ M') ∧ ∀ y, rrow y ∈ rowsOf Δ H → y ∈ M' ∧ own Γ y = true := by
  induction x with
  | nil => exact ⟨fun _ h => h, fun y h => by simp [rowsOf] at h⟩
  | skip _ _ _ ih => exact ih
  | @take M os M' new o' oi H e1 e2 _ _ _ _ _ ih =>
    refine ⟨fun y hy => ih.1 y (List.mem_append_left _ hy), fun y h => ?_⟩
    have hr : rowsOf Δ ((o', new.filter (own Γ)) :: H) = (new.filter (own Γ)).map rrow ++ ((if isVP oi then [(oi.kind, o')] else []) ++ rowsOf Δ H) := by simp [rowsOf, seg, e1]
    rw [hr] at h
    rcases List.mem_append.mp h with q | q
    · obtain ⟨z, hz, e⟩ := List.mem_map.mp q
      rw [rrow_inj e] at hz
      obtain ⟨z1, z2⟩ := List.mem_filter.mp hz
      exact ⟨ih.1 y (List.mem_append_right _ z1), z2⟩
    · rcases List.mem_append.mp q with q | q
      · split at q
        · rename_i hv
          rw [List.mem_singleton] at q
          have hk : oi.kind = S! "record" := (Prod.mk.inj q).1.symm
          unfold isVP at hv
          rw [hk, beqS, beqS] at hv
          exact absurd hv (by decide)
        · cases q
      · exact ih.2 y q
end
end Mine.L
end
section
namespace Mine.L
theorem item_list {h : List AO} {l : Str → Option AV} {a i : Nat} {xs : List AV} {v : AV} (e : h[a]? = some (.list xs)) (n : xs.length ≤ szMax) (hv : xs[i]? = some v) : item (.ref a) (.int i) ⟨h, l⟩ = some v := by
  have hi := (List.getElem?_eq_some_iff.mp hv).1
  show itemI a i ⟨h, l⟩ = _
  unfold itemI; simp only [e]; unfold pickL
  simp only [n, if_true, idx?, show (0 : Int) ≤ i from by lia, show (i : Int) < xs.length from by lia, Int.toNat_natCast, Option.bind_some, hv]
theorem item_tup {h : List AO} {l : Str → Option AV} {a i : Nat} {xs : List AV} {v : AV} (e : h[a]? = some (.tup xs)) (n : xs.length ≤ szMax) (hv : xs[i]? = some v) : item (.ref a) (.int i) ⟨h, l⟩ = some v := by
  have hi := (List.getElem?_eq_some_iff.mp hv).1
  show itemI a i ⟨h, l⟩ = _
  unfold itemI; simp only [e]; unfold pickL
  simp only [n, if_true, idx?, show (0 : Int) ≤ i from by lia, show (i : Int) < xs.length from by lia, Int.toNat_natCast, Option.bind_some, hv]
theorem item_pair {h : List AO} {l : Str → Option AV} {a : Nat} {x y : AV} (e : h[a]? = some (.tup [x, y])) : item (.ref a) (.int 0) ⟨h, l⟩ = some x ∧ item (.ref a) (.int 1) ⟨h, l⟩ = some y :=
  ⟨item_tup (i := 0) e (by rw [szm]; simp) rfl, item_tup (i := 1) e (by rw [szm]; simp) rfl⟩
theorem tor_cons (t : STt) (ts : List STt) (σ : St) : tAll .Or (t :: ts) σ = (t σ).bind (orK (tAll .Or ts)) := by
  show ((t σ).bind fun p => match BoolOp.Or, p.1 with | .And, false => some (false, p.2) | .Or, true => some (true, p.2) | _, _ => tAll .Or ts p.2) = _
  cases h : t σ with
  | none => rfl
  | some p => obtain ⟨b, σ₁⟩ := p; cases b <;> rfl
theorem tor_nil (σ : St) : tAll .Or [] σ = some (false, σ) := rfl
theorem forl_range {x : Str} {e : SE} {body : List SS} {σ σ' : St} {b k : Nat} {h : List AO} {l : Str → Option AV} {f : Fl} (he : e σ = some (.ref b, ⟨h, l⟩)) (hb : h[b]? = some (.rng k)) (n : k ≤ 1000)
    (kk : forN x (.ref h.length) (seq body) loops ⟨h ++ [.riter 0 k], l⟩ = some (f, σ')) : forl x e body σ = some (f, σ') := by
  have hm : mkIter (.ref b) ⟨h, l⟩ = some (.ref h.length, ⟨h ++ [.riter 0 k], l⟩) := by
    have : (if (0 : Int) < (k : Int) then (k : Int) else 0) = k := by split <;> lia
    refine iter_at ?_
    unfold iterAt
    simp only [hb, show (-1000 : Int) ≤ (k : Int) from by lia, show (k : Int) ≤ 1000 from by lia, and_self, if_true, this]
  rw [forl_ap, he, Option.bind_some, hm, Option.bind_some]
  exact kk
theorem range_ap {h : List AO} {l : Str → Option AV} {k : Int} (h0 : 0 ≤ k) (h1 : k ≤ 1000) : callB (.typ "range") [.int k] ⟨h, l⟩ = some (.ref h.length, ⟨h ++ [.rng k], l⟩) := by
  rw [t_range]
  exact if_pos ⟨by lia, h1⟩
section
variable {D N : Nat} {Γ : Nat → Option TI} {Δ : Nat → Option OI} {ex0 nm0 ex nm : Nat → Int} {h : List AO} {rl : Nat} {R : List (Str × Nat)}
noncomputable def rowAt (h : List AO) (t : Nat) : Nat := match h[t]? with
  | some (.tup [_, .ref a]) => a
  | _ => 0
structure CK (D N : Nat) (Γ : Nat → Option TI) (Δ : Nat → Option OI) (ex0 nm0 ex nm : Nat → Int) (h : List AO) (rl : Nat) (R : List (Str × Nat)) (ts : List Nat) : Prop where
  G : Gr N Γ Δ
  W : Wd D Γ Δ ex nm h
  hD : D ≤ h.length
  lst : h[rl]? = some (.list (rf ts))
  len : ts.length = R.length
  rows : ∀ (i t : Nat) (p : Str × Nat), ts[i]? = some t → R[i]? = some p → h[t]? = some (.tup [.str p.1, .ref p.2])
  num : NumOK R ex nm ex0 nm0
  base : ∀ (i z : Nat) (t : TI) (b : Nat), R[i]? = some (rrow z) → Γ z = some t → par t = some b → own Γ b = true → rrow b ∈ R.take i
  rec' : ∀ y, rrow y ∈ R → own Γ y = true
  zero : ∀ a t, Γ a = some t → t.mod = S! "M" → ex0 a = 0
  small : R.length ≤ 20000
variable {ts : List Nat}
theorem CK.up (C : CK D N Γ Δ ex0 nm0 ex nm h rl R ts) {h' : List AO} (u : Up [] h h') : CK D N Γ Δ ex0 nm0 ex nm h' rl R ts :=
  ⟨C.G, C.W.up u C.hD (by simp), Nat.le_trans C.hD u.1, u.get C.lst (by simp), C.len, fun i t p e1 e2 => u.get (C.rows i t p e1 e2) (by simp), C.num, C.base, C.rec', C.zero, C.small⟩
theorem spot_turn (C : CK D N Γ Δ ex0 nm0 ex nm h rl R ts) {sm p i : Nat} {ss : List Nat} {x : Nat} (hs : h[sm]? = some (.list (rf ss))) (sl : ss.length ≤ 60) {tt : Nat} (e1 : ss[i]? = some tt) (e2 : h[tt]? = some (.tup [.str (S! "record"), .ref x])) (eR : R[p + i]? = some (rrow x))
    {l : Str → Option AV} (l1 : l (S! "some") = some (.ref sm)) (l2 : l (S! "spot") = some (.int i)) (l3 : l (S! "at") = some (.int p)) : ∃ v, seq L26_1 ⟨h, l⟩ = some (.next, ⟨h, upd l (S! "base") v⟩) := by
  have ho := C.rec' x (List.mem_of_getElem? eR)
  obtain ⟨t, et⟩ := own_in ho
  have hf : t.form = S! "record" := by unfold own at ho; rw [et] at ho; simp at ho; exact ho.1
  have RT := (C.W.ty x t et).choose_spec.rd
  have i1 : ∀ l, item (.ref sm) (.int i) ⟨h, l⟩ = some (.ref tt) := fun l => item_list hs (by rw [rf_len, szm]; lia) (by unfold rf; rw [List.getElem?_map, e1]; rfl)
  have i2 : ∀ l, item (.ref tt) (.int 1) ⟨h, l⟩ = some (.ref x) := fun l => (item_pair e2).2
  have hx : ex x = (p : Int) + (i : Int) + 1 := by have := C.num.rc (p + i) x eR; rw [this]; lia
  have hse : sub (sub (var (S! "some")) (var (S! "spot"))) (lit (.int 1)) ⟨h, l⟩ = some (.ref x, ⟨h, l⟩) := by
    simp only [sub_ap, var_ap, l1, l2, lit_ap, Option.map_some, Option.bind_some, i1, i2]
  refine ⟨bv t.base, ?_⟩
  unfold L26_1
  rw [seq_next (σ' := ⟨h, l⟩) (by
    rw [iff_ap, tcmp_ap, att_ap, hse]
    simp only [Option.bind_some, Option.map_some, RT, bino_ap, var_ap, l2, l3, lit_ap, add_int, c_ne, b_int, hx, beq_self_eq_true, Bool.not_true, brS_f]
    rfl)]
  rw [seq_next (σ' := ⟨h, upd l (S! "base") (bv t.base)⟩) (by
    rw [setl_ap, att_ap, hse]
    simp only [Option.bind_some, Option.map_some, RT])]
  cases hb : t.base with
  | none =>
    rw [seq_next (σ' := ⟨h, upd l (S! "base") (bv none)⟩) (by
      rw [iff_ap, tand3]
      simp only [brS_f, andK_f, tcmp_ap, lit_ap, var_ap, upd_ap, if_true, Option.map_some, Option.bind_some, c_isn0, seq_nil, bv])]
    rfl
  | some b =>
    obtain ⟨u, hu, _⟩ := C.G.base x t b et hb
    have RU := (C.W.ty b u hu).choose_spec.rd
    rw [seq_next (σ' := ⟨h, upd l (S! "base") (bv (some b))⟩) (by
      rw [iff_ap, tand3]
      simp only [tcmp_ap, var_ap, upd_ap, if_true, Option.map_some, Option.bind_some, lit_ap, c_eq, c_isn1, bv, tand2, att_ap, RU, s_str, andK_t]
      cases hm : u.mod == S! "M" with
      | false => simp only [Option.bind_some, brS_f, andK_f]; rfl
      | true =>
        have hm' : u.mod = S! "M" := by simpa using hm
        have hle : ex b ≤ (p : Int) + i := by
          by_cases hob : own Γ b = true
          · have hpar : par t = some b := by unfold par; rw [if_pos hf]; exact hb
            obtain ⟨j, hj, hj2⟩ := List.mem_take_iff_getElem.mp (C.base (p + i) x t b eR et hpar hob)
            have := C.num.rc j b (by rw [List.getElem?_eq_getElem (by lia), hj2]; rfl)
            lia
          · have : (S! "record", b) ∉ R := fun q => hob (C.rec' b q)
            rw [C.num.rn b this, C.zero b u hu hm']; lia
        have la : (if S! "at" = S! "base" then some (bv (some b)) else l (S! "at")) = some (.int p) := by rw [if_neg (by rw [ofS_inj]; decide)]; exact l3
        have lsp : (if S! "spot" = S! "base" then some (bv (some b)) else l (S! "spot")) = some (.int i) := by rw [if_neg (by rw [ofS_inj]; decide)]; exact l2
        have hgt : decide (ex b > (p : Int) + i) = false := by simpa using hle
        simp only [bv] at la lsp
        simp only [if_true, tcmp_ap, att_ap, var_ap, upd_ap, Option.map_some, Option.bind_some, RU, bino_ap, la, lsp, add_int, c_gt, hgt, brS_f, andK_t]
        rfl)]
    rfl
theorem check_nums (C : CK D N Γ Δ ex0 nm0 ex nm h rl R ts) {p : Nat} {nr : List Nat} {R' : List (Str × Nat)} (hR : R.drop p = nr.map rrow ++ R') (hl : nr.length ≤ 60) (ho : ∀ x ∈ nr, own Γ x = true) {a : Nat} (ha : h[a]? = some (.list (ofInts (srt (nr.map (numOf Γ))))))
    {l : Str → Option AV} (l1 : l (S! "rows") = some (.ref rl)) (l2 : l (S! "at") = some (.int p)) (l3 : l (S! "entry") = some (.ref a)) (hp : p ≤ R.length) :
    ∃ h' l', seq L26_2 ⟨h, l⟩ = some (.next, ⟨h', l'⟩) ∧ Up [] h h' ∧ l' (S! "rows") = some (.ref rl) ∧ l' (S! "at") = some (.int (p + nr.length : Nat)) ∧ (∀ y, y ≠ S! "at" → y ≠ S! "some" → y ≠ S! "spot" → y ≠ S! "base" → l' y = l y) := by
  have hRi : ∀ i, i < nr.length → R[p + i]? = (nr.map rrow)[i]? := fun i hi => by
    have : (R.drop p)[i]? = (nr.map rrow ++ R')[i]? := by rw [hR]
    rw [List.getElem?_drop, List.getElem?_append_left (by simpa using hi)] at this
    exact this
  have hRl : p + nr.length ≤ R.length := by
    have := congrArg List.length hR
    simp at this; lia
  let k := nr.length
  let ss := (ts.take (p + k)).drop p
  have sl : ss.length = k := by simp [ss, C.len]; lia
  have hsi : ∀ i, i < k → ss[i]? = ts[p + i]? := fun i hi => by
    show ((ts.take (p + k)).drop p)[i]? = _
    rw [List.getElem?_drop, List.getElem?_take_of_lt (by (clear_value *; lia))]
  have pair : ∀ i tt, ss[i]? = some tt → ∃ x, nr[i]? = some x ∧ R[p + i]? = some (rrow x) ∧ h[tt]? = some (.tup [.str (S! "record"), .ref x]) := fun i tt e => by
    have hi := (List.getElem?_eq_some_iff.mp e).1
    rw [sl] at hi
    have e2 : nr[i]? = some nr[i] := List.getElem?_eq_getElem hi
    have e3 : R[p + i]? = some (rrow nr[i]) := by rw [hRi i hi, List.getElem?_map, e2]; rfl
    exact ⟨nr[i], e2, e3, C.rows (p + i) tt _ (by rw [← hsi i hi]; exact e) e3⟩
  have al := lt_of ha
  have nl : (srt (nr.map (numOf Γ))).length = k := by unfold srt; simp [k]
  have q3 : bcall (.bltn "len") [var (S! "entry")] ⟨h, l⟩ = some (.int k, ⟨h, l⟩) := by
    simp only [var_ap, Option.map_some, Option.bind_some, evl_cons, evl_nil, bcall_ap, l3, len_ap (l := l) ha (by rw [szm]; simp [ofInts, nl]; lia)]
    simp [ofInts, nl]
  let h1 := h ++ [AO.junk, AO.list (rf ss)]
  let la := upd l (S! "some") (.ref (h.length + 1))
  have tl : (rf ts).length ≤ szMax := by rw [rf_len, szm, C.len]; have := C.small; (clear_value *; lia)
  have s1 : setl (S! "some") (slc (var (S! "rows")) (var (S! "at")) (bino .Add (var (S! "at")) (bcall (.bltn "len") [var (S! "entry")]))) ⟨h, l⟩ = some (.next, ⟨h1, la⟩) := by
    have q1 : var (S! "rows") ⟨h, l⟩ = some (.ref rl, ⟨h, l⟩) := ev_var (Eq.trans (by kernel_rfl!) l1)
    have q2 : var (S! "at") ⟨h, l⟩ = some (.int p, ⟨h, l⟩) := ev_var (Eq.trans (by kernel_rfl!) l2)
    have hsl : ((rf ts).take ((p : Int) + (k : Int)).toNat).drop (p : Int).toNat = rf ss := by
      rw [show ((p : Int) + (k : Int)).toNat = p + k by (clear_value *; lia), Int.toNat_natCast]; simp [rf, ss]
    rw [setl_ap, slc_ap]
    simp only [q1, q2, q3, bino_ap, Option.bind_some, add_int, slc_list C.lst tl (sl_mid (Int.natCast_nonneg p) (show (0 : Int) ≤ (p : Int) + (k : Int) from by (clear_value *; lia))), hsl]
    rfl
  have C1 := C.up (Up.app [] h [AO.junk, AO.list (rf ss)])
  have hs1 : h1[h.length + 1]? = some (.list (rf ss)) := get_app 1
  have pair1 : ∀ i tt, ss[i]? = some tt → ∃ x, nr[i]? = some x ∧ R[p + i]? = some (rrow x) ∧ ∀ ys, (h1 ++ ys)[tt]? = some (.tup [.str (S! "record"), .ref x]) := fun i tt e => by
    obtain ⟨x, e1, e2, e3⟩ := pair i tt e
    refine ⟨x, e1, e2, fun ys => ?_⟩
    have := lt_of e3
    exact (get_lt (by simp [h1]; (clear_value *; lia))).trans ((get_lt this).trans e3)
  let h2 := h1 ++ [AO.junk, AO.list (ss.map fun _ => AV.bool false)]
  have c1 : comp (S! "row") (var (S! "some")) [] (cmpE .NotEq (sub (var (S! "row")) (lit (.int 0))) (lit (.str (S! "record")))) ⟨h1, la⟩ = some (.ref (h1.length + 1), ⟨h2, la⟩) := by
    rw [comp_rf0 (h := h1) (b := h.length + 1) (fs := ss) (l := la) (by kernel_rfl!) hs1 (by rw [szm]; lia) (fun _ => .bool false) (fun v hv ys lv => by
      obtain ⟨i, hi⟩ := List.getElem?_of_mem hv
      obtain ⟨x, _, _, e3⟩ := pair1 i v hi
      simp only [cmpE_ap, sub_ap, var_ap, upd_ap, if_true, Option.map_some, Option.bind_some, lit_ap, (item_pair (e3 ys)).1, c_ne, b_str, beq_self_eq_true, Bool.not_true])]
  have inF : ∀ xs : List Nat, inL (.bool true) (xs.map fun _ => AV.bool false) = some false := by
    intro xs
    induction xs with
    | nil => rfl
    | cons x xs ih => show ((eqS (.bool false) (.bool true)).bind fun b => (inL (.bool true) (xs.map fun _ => AV.bool false)).map fun c => b || c) = _; rw [ih]; rfl
  have t1 : tcmp .In (lit (.bool true)) (comp (S! "row") (var (S! "some")) [] (cmpE .NotEq (sub (var (S! "row")) (lit (.int 0))) (lit (.str (S! "record"))))) ⟨h1, la⟩ = some (false, ⟨h2, la⟩) := by
    rw [tcmp_ap, lit_ap]
    simp only [Option.bind_some, c1, c_in]
    rw [in_list (xs := ss.map fun _ => AV.bool false) (get_app 1) (by rw [szm]; simp; lia)]
    simp only [inF, Option.map_some]
  have C2 := C1.up (Up.app [] h1 [AO.junk, AO.list (ss.map fun _ => AV.bool false)])
  have hs2 : h2[h.length + 1]? = some (.list (rf ss)) := (get_lt (lt_of hs1)).trans hs1
  have h2l : h2.length = h1.length + 2 := by simp [h2]
  have pair2 : ∀ i tt, ss[i]? = some tt → ∃ x, nr[i]? = some x ∧ h2[tt]? = some (AO.tup [AV.str (S! "record"), AV.ref x]) ∧ ∀ ys, (h2 ++ ys)[tt]? = some (AO.tup [AV.str (S! "record"), AV.ref x]) := fun i tt e => by
    obtain ⟨x, e1, _, e3⟩ := pair1 i tt e
    have := e3 [AO.junk, AO.list (ss.map fun _ => AV.bool false)]
    exact ⟨x, e1, this, fun ys => (get_lt (lt_of this)).trans this⟩
  have hmap : ss.map (rowAt h2) = nr := by
    apply List.ext_getElem?
    intro i
    rw [List.getElem?_map]
    cases hq : ss[i]? with
    | none =>
      have := List.getElem?_eq_none_iff.mp hq
      rw [sl] at this
      rw [List.getElem?_eq_none this]; rfl
    | some tt =>
      obtain ⟨x, e1, e2, _⟩ := pair2 i tt hq
      rw [e1, Option.map_some]
      unfold rowAt; rw [e2]
  let h3 := h2 ++ [AO.junk, AO.list (ofInts (nr.map (numOf Γ)))]
  have c2 : comp (S! "row") (var (S! "some")) [] (att (sub (var (S! "row")) (lit (.int 1))) (S! "number")) ⟨h2, la⟩ = some (.ref (h2.length + 1), ⟨h3, la⟩) := by
    rw [comp_rf0 (h := h2) (b := h.length + 1) (fs := ss) (l := la) (by kernel_rfl!) hs2 (by rw [szm]; lia) (fun v => .int (numOf Γ (rowAt h2 v))) (fun v hv ys lv => by
      obtain ⟨i, hi⟩ := List.getElem?_of_mem hv
      obtain ⟨x, e1, e2, e3⟩ := pair2 i v hi
      obtain ⟨t, et⟩ := own_in (ho x (List.mem_of_getElem? e1))
      have RT := ((show Wd D Γ Δ ex nm (h2 ++ ys) from C2.W.app C2.hD ys).ty x t et).choose_spec.rd
      have hr : rowAt h2 v = x := by unfold rowAt; rw [e2]
      simp only [att_ap, sub_ap, var_ap, upd_ap, if_true, Option.map_some, Option.bind_some, lit_ap, (item_pair (e3 ys)).2, RT, hr, numOf_eq et])]
    have : (ss.map fun v => AV.int (numOf Γ (rowAt h2 v))) = ofInts (nr.map (numOf Γ)) := by
      conv => rhs; rw [← hmap]
      unfold ofInts; simp only [List.map_map]; rfl
    rw [this]
  let h4 := h3 ++ [AO.list (ofInts (srt (nr.map (numOf Γ))))]
  have lea : la (S! "entry") = some (.ref a) := Eq.trans (by kernel_rfl!) l3
  have h3l : h3.length = h1.length + 4 := by simp [h3, h2l]
  have h1l : h1.length = h.length + 2 := by simp [h1]
  have ha4 : h4[a]? = some (.list (ofInts (srt (nr.map (numOf Γ))))) := (get_lt (by (clear_value *; lia))).trans ((get_lt (by (clear_value *; lia))).trans ((get_lt (by (clear_value *; lia))).trans ((get_lt al).trans ha)))
  have t2 : tcmp .NotEq (bcall (.bltn "sorted") [comp (S! "row") (var (S! "some")) [] (att (sub (var (S! "row")) (lit (.int 1))) (S! "number"))]) (var (S! "entry")) ⟨h2, la⟩ = some (false, ⟨h4, la⟩) := by
    rw [tcmp_ap]
    simp only [bcall_ap, evl_cons, evl_nil, c2, Option.bind_some]
    rw [sorted_ap (ns := nr.map (numOf Γ)) (get_app 1) (by simp; (clear_value *; lia))]
    simp only [Option.bind_some, var_ap, lea, Option.map_some, c_ne]
    rw [b_list (h := h4) (xs := ofInts (srt (nr.map (numOf Γ)))) get_app0 ha4]
    unfold eqL
    rw [allInts_of]
    simp only [Option.bind_some, decide_true]
    cases q : (ofInts (srt (nr.map (numOf Γ)))).isEmpty <;> rfl
  have hts : tAll .Or [tcmp .In (lit (.bool true)) (comp (S! "row") (var (S! "some")) [] (cmpE .NotEq (sub (var (S! "row")) (lit (.int 0))) (lit (.str (S! "record"))))),
      tcmp .NotEq (bcall (.bltn "sorted") [comp (S! "row") (var (S! "some")) [] (att (sub (var (S! "row")) (lit (.int 1))) (S! "number"))]) (var (S! "entry"))] ⟨h1, la⟩ = some (false, ⟨h4, la⟩) := by
    rw [tor2, t1]
    simp only [Option.bind_some, t2, orK_f]
  have U4 : Up [] h h4 := ((((Up.app [] h _).appR _).appR _).appR _)
  have C4 := C.up U4
  have hs4 : h4[h.length + 1]? = some (.list (rf ss)) := (get_lt (by (clear_value *; lia))).trans ((get_lt (by (clear_value *; lia))).trans hs2)
  let h5 := h4 ++ [AO.rng k]
  have hrange : bcall (.typ "range") [bcall (.bltn "len") [var (S! "some")]] ⟨h4, la⟩ = some (.ref h4.length, ⟨h5, la⟩) := by
    have : var (S! "some") ⟨h4, la⟩ = some (.ref (h.length + 1), ⟨h4, la⟩) := by kernel_rfl!
    simp only [bcall_ap, evl_cons, evl_nil, this, Option.bind_some, len_ap (l := la) hs4 (by rw [rf_len, szm]; lia), rf_len, sl]
    rw [range_ap (by lia) (by lia)]
  have C5 := C4.up (Up.app [] h4 [AO.rng k])
  have hs5 : h5[h.length + 1]? = some (.list (rf ss)) := (get_lt (lt_of hs4)).trans hs4
  let J : Nat → List AO → (Str → Option AV) → Prop := fun i g lg => Up [] h5 g ∧ (∀ y, y ≠ S! "spot" → y ≠ S! "base" → lg y = la y)
  obtain ⟨h6, l6, e6, U6, L6⟩ := forN_range (x := S! "spot") (N := k) (body := seq L26_1) (j := h5.length) J
    (fun i g lg o q _ => ⟨q.1.set (.inr (Nat.le_refl _)), q.2⟩)
    (fun i g lg hi q zp0 => by
      obtain ⟨y, z, hj⟩ := zp0
      obtain ⟨q1, q2⟩ := q
      have Cg := C5.up q1
      obtain ⟨tt, htt⟩ : ∃ tt, ss[i]? = some tt := ⟨_, List.getElem?_eq_getElem (by (clear_value *; lia))⟩
      obtain ⟨x, e1, e2, e3⟩ := pair1 i tt htt
      have ett : g[tt]? = some (.tup [.str (S! "record"), .ref x]) := by
        have := e3 []
        rw [List.append_nil] at this
        have u15 : Up [] h1 h5 := (((Up.app [] h1 _).appR _).appR _).appR _
        exact q1.get (u15.get this (by simp)) (by simp)
      obtain ⟨v, hv⟩ := spot_turn Cg (sm := h.length + 1) (p := p) (i := i) (ss := ss) (x := x) (q1.get hs5 (by simp)) (by lia) htt ett e2 (l := upd lg (S! "spot") (.int i)) (by simp only [upd_ap, if_true, if_false, ofS_inj, String.reduceEq, q2 _ (show S! "some" ≠ S! "spot" from by rw [ne_eq, ofS_inj]; decide) (show S! "some" ≠ S! "base" from by rw [ne_eq, ofS_inj]; decide), la]) (by kernel_rfl!) (by simp only [upd_ap, if_false, ofS_inj, String.reduceEq, q2 _ (show S! "at" ≠ S! "spot" from by rw [ne_eq, ofS_inj]; decide) (show S! "at" ≠ S! "base" from by rw [ne_eq, ofS_inj]; decide), la, l2])
      exact ⟨.next, g, _, hv, .inl rfl, rfl, q1, fun y y1 y2 => by rw [upd_ap, if_neg y2, upd_ap, if_neg y1]; exact q2 y y1 y2⟩)
    k 0 (h5 ++ [.riter 0 k]) la loops (by (clear_value *; lia)) (by unfold loops; lia) get_app0 ⟨Up.app _ _ _, fun _ _ _ => rfl⟩
  have U56 : Up [] h h6 := (U4.appR _).trans U6
  have l6a : l6 (S! "at") = some (.int p) := by rw [L6 _ (by rw [ne_eq, ofS_inj]; decide) (by rw [ne_eq, ofS_inj]; decide)]; simp only [upd_ap, if_false, ofS_inj, String.reduceEq, la, l2]
  have l6e : l6 (S! "entry") = some (.ref a) := by rw [L6 _ (by rw [ne_eq, ofS_inj]; decide) (by rw [ne_eq, ofS_inj]; decide)]; exact lea
  refine mkE2 h6 (upd l6 (S! "at") (.int (p + nr.length : Nat))) ⟨?_, U56, ?_, by simp only [upd_ap, if_true], fun y y1 y2 y3 y4 => ?_⟩
  · unfold L26_2
    rw [seq_next (σ' := ⟨h6, upd l6 (S! "at") (.int (p + nr.length : Nat))⟩) (by
      have ti : tval (bcall (.bltn "isinstance") [var (S! "entry"), lit (.typ "str")]) ⟨h, l⟩ = some (false, ⟨h, l⟩) := by
        simp only [tval_ap, bcall_ap, evl_cons, evl_nil, var_ap, l3, lit_ap, Option.map_some, Option.bind_some, is_list ha, bool_ap]
      rw [iff_ap, ti]
      simp only [Option.bind_some, brS_f]
      rw [seq_next s1]
      rw [seq_next (σ' := ⟨h4, la⟩) (by rw [iff_ap, hts]; rfl)]
      rw [seq_next (σ' := ⟨h6, l6⟩) (forl_range (b := h4.length) (k := k) hrange get_app0 (by lia) e6)]
      rw [seq_next (σ' := ⟨h6, upd l6 (S! "at") (.int (p + nr.length : Nat))⟩) (by
        have ha6 : h6[a]? = some (.list (ofInts (srt (nr.map (numOf Γ))))) := U56.get ha (by simp)
        rw [augl_ap, l6a]
        simp only [Option.bind_some, bcall_ap, evl_cons, evl_nil, var_ap, l6e, Option.map_some, len_ap (l := l6) ha6 (show (ofInts (srt (nr.map (numOf Γ)))).length ≤ szMax from by rw [szm]; simp [ofInts, nl]; lia), i_int]
        simp only [ofInts, List.length_map, nl, k]
        rfl)]
      rfl)]
    rfl
  · simp only [upd_ap, if_false, ofS_inj, String.reduceEq, L6 _ (show S! "rows" ≠ S! "spot" from by rw [ne_eq, ofS_inj]; decide) (show S! "rows" ≠ S! "base" from by rw [ne_eq, ofS_inj]; decide), la, l1]
  · rw [upd_ap, if_neg y1, L6 y y3 y4]
    show upd l (S! "some") _ y = l y
    rw [upd_ap, if_neg y2]
end
end Mine.L
end
section
namespace Mine.L
section
variable {D N : Nat} {Γ : Nat → Option TI} {Δ : Nat → Option OI} {ex0 nm0 ex nm : Nat → Int} {h : List AO} {rl : Nat} {R : List (Str × Nat)} {ts : List Nat}
theorem in_vp {h : List AO} {l : Str → Option AV} {e : SE} {k : Str} (oi : OI) (he : e ⟨h, l⟩ = some (.str oi.kind, ⟨h, l⟩)) : tcmp .In e (lst [lit (.str (S! "var")), lit (.str (S! "proc"))]) ⟨h, l⟩ = some (isVP oi, ⟨h ++ [.list [.str (S! "var"), .str (S! "proc")]], l⟩) := by
  rw [in2 he]
  unfold isVP
  rw [Bool.or_false]
  have : ∀ a b : Str, (a == b) = (b == a) := fun a b => Bool.eq_iff_iff.mpr ⟨fun q => beq_iff_eq.mpr (beq_iff_eq.mp q).symm, fun q => beq_iff_eq.mpr (beq_iff_eq.mp q).symm⟩
  rw [this, this (S! "proc")]
theorem check_name (C : CK D N Γ Δ ex0 nm0 ex nm h rl R ts) {p o : Nat} {oi : OI} {R' : List (Str × Nat)} (hR : R.drop p = (oi.kind, o) :: R') (eo : Δ o = some oi) (hv : isVP oi = true)
    {l : Str → Option AV} (l1 : l (S! "rows") = some (.ref rl)) (l2 : l (S! "at") = some (.int p)) (l3 : l (S! "entry") = some (.str oi.name)) :
    ∃ h' l', seq L26_2 ⟨h, l⟩ = some (.next, ⟨h', l'⟩) ∧ Up [] h h' ∧ l' (S! "rows") = some (.ref rl) ∧ l' (S! "at") = some (.int (p + 1 : Nat)) ∧ (∀ y, y ≠ S! "at" → l' y = l y) := by
  have hp : p < R.length := by
    have := congrArg List.length hR
    simp at this; lia
  have eR : R[p]? = some (oi.kind, o) := by
    have : (R.drop p)[0]? = some (oi.kind, o) := by rw [hR]; rfl
    rwa [List.getElem?_drop] at this
  have hk : oi.kind ≠ S! "record" := fun q => by
    unfold isVP at hv
    rw [q, beqS, beqS] at hv
    exact absurd hv (by decide)
  obtain ⟨tt, htt⟩ : ∃ tt, ts[p]? = some tt := ⟨_, List.getElem?_eq_getElem (by rw [C.len]; exact hp)⟩
  have et := C.rows p tt _ htt eR
  have hn : nm o = (p : Int) + 1 := C.num.oc p o _ eR hk
  have tl : (rf ts).length ≤ szMax := by rw [rf_len, szm, C.len]; have := C.small; lia
  have i1 : ∀ {g : List AO}, Up [] h g → ∀ l, item (.ref rl) (.int p) ⟨g, l⟩ = some (.ref tt) := fun {g} u l => item_list (u.get C.lst (by simp)) tl (by unfold rf; rw [List.getElem?_map, htt]; rfl)
  have i2 : ∀ {g : List AO}, Up [] h g → ∀ l, item (.ref tt) (.int 0) ⟨g, l⟩ = some (.str oi.kind) ∧ item (.ref tt) (.int 1) ⟨g, l⟩ = some (.ref o) := fun {g} u l => item_pair (u.get et (by simp))
  have s0 : ∀ {g : List AO}, Up [] h g → sub (sub (var (S! "rows")) (var (S! "at"))) (lit (.int 0)) ⟨g, l⟩ = some (.str oi.kind, ⟨g, l⟩) := fun {g} u => by
    simp only [sub_ap, var_ap, l1, l2, lit_ap, Option.map_some, Option.bind_some, i1 u, i2 u]
  have s1 : ∀ {g : List AO}, Up [] h g → sub (sub (var (S! "rows")) (var (S! "at"))) (lit (.int 1)) ⟨g, l⟩ = some (.ref o, ⟨g, l⟩) := fun {g} u => by
    simp only [sub_ap, var_ap, l1, l2, lit_ap, Option.map_some, Option.bind_some, i1 u, i2 u]
  let h1 := h ++ [AO.list [.str (S! "var"), .str (S! "proc")]]
  have U1 : Up [] h h1 := Up.app _ _ _
  have RO := (((C.up U1).W).ob o oi eo).choose_spec.rd
  refine ⟨h1, upd l (S! "at") (.int (p + 1 : Nat)), ?_, U1, ?_, by simp only [upd_ap, if_true], fun y hy => (upd_ap ..).trans (if_neg hy)⟩
  · unfold L26_2
    rw [seq_next (σ' := ⟨h1, upd l (S! "at") (.int (p + 1 : Nat))⟩) (by
      have ti : tval (bcall (.bltn "isinstance") [var (S! "entry"), lit (.typ "str")]) ⟨h, l⟩ = some (true, ⟨h, l⟩) := by
        simp only [tval_ap, bcall_ap, evl_cons, evl_nil, var_ap, l3, lit_ap, Option.map_some, Option.bind_some, is_str, bool_ap]
      rw [iff_ap, ti]
      simp only [Option.bind_some, brS_t]
      rw [seq_next (σ' := ⟨h1, l⟩) (by
        rw [iff_ap, tor_cons]
        have a1 : tcmp .GtE (var (S! "at")) (bcall (.bltn "len") [var (S! "rows")]) ⟨h, l⟩ = some (false, ⟨h, l⟩) := by
          simp only [tcmp_ap, var_ap, Option.map_some, Option.bind_some, c_ge, evl_cons, evl_nil, bcall_ap, l1, l2, len_ap (l := l) C.lst tl, rf_len, C.len]
          simp; exact hp
        have a2 : tcmp .NotIn (sub (sub (var (S! "rows")) (var (S! "at"))) (lit (.int 0))) (lst [lit (.str (S! "var")), lit (.str (S! "proc"))]) ⟨h, l⟩ = some (false, ⟨h1, l⟩) := by
          have := in_vp (k := oi.kind) oi (s0 (Up.refl _ h))
          rw [tcmp_ap] at this ⊢
          rw [s0 (Up.refl _ h)] at this ⊢
          simp only [Option.bind_some, c_in, c_nin] at this ⊢
          cases hq : lst [lit (.str (S! "var")), lit (.str (S! "proc"))] ⟨h, l⟩ with
          | none => rw [hq] at this; cases this
          | some q =>
            rw [hq] at this
            simp only [Option.bind_some] at this ⊢
            cases hb : inB q.2.h (.str oi.kind) q.1 with
            | none => rw [hb] at this; cases this
            | some b =>
              rw [hb] at this
              simp only [Option.map_some, Option.some.injEq, Prod.mk.injEq] at this ⊢
              rw [this.1, hv]
              exact ⟨rfl, this.2⟩
        rw [a1]
        simp only [Option.bind_some, orK_f]
        rw [tor_cons, a2]
        simp only [Option.bind_some, orK_f]
        rw [tor_cons, tcmp_ap, att_ap, s1 U1]
        simp only [Option.bind_some, Option.map_some, RO, var_ap, l3, c_ne, b_str, beq_self_eq_true, Bool.not_true, orK_f]
        rw [tor_cons, tcmp_ap, att_ap, s1 U1]
        simp only [Option.bind_some, Option.map_some, RO, bino_ap, lit_ap, var_ap, l2, add_int, hn, c_ne, b_int, beq_self_eq_true, Bool.not_true, orK_f]
        rw [tor_cons, tcmp_ap, s0 U1]
        simp only [Option.bind_some]
        rw [att_ap, s1 U1]
        simp only [Option.bind_some, Option.map_some, RO, c_ne, b_str, beq_self_eq_true, Bool.not_true, tor_nil, brS_f, orK_f]
        rfl)]
      rw [seq_next (σ' := ⟨h1, upd l (S! "at") (.int (p + 1 : Nat))⟩) (by
        rw [augl_ap, l2]
        simp only [Option.bind_some, lit_ap, i_int]
        rfl)]
      rfl)]
    rfl
  · rw [upd_ap, if_neg (by rw [ofS_inj]; decide)]; exact l1
theorem check_loop (C : CK D N Γ Δ ex0 nm0 ex nm h rl R ts) {ds : List DE} {dl : List AV} {du : Nat} (hM : MatchD Γ Δ ds R) (hdl : dl.length ≤ 1000) (hdu : h[du]? = some (.list dl)) (hd : DuesAre D h dl ds)
    {l : Str → Option AV} (l1 : l (S! "rows") = some (.ref rl)) (l2 : l (S! "at") = some (.int 0)) :
    ∃ h' l', forN (S! "entry") (.ref h.length) (seq L26_2) loops ⟨h ++ [.liter du 0], l⟩ = some (.next, ⟨h', l'⟩) ∧ Up [] h h' ∧ l' (S! "rows") = some (.ref rl) ∧ l' (S! "at") = some (.int R.length) ∧ (∀ y, y ≠ S! "entry" → y ≠ S! "at" → y ≠ S! "some" → y ≠ S! "spot" → y ≠ S! "base" → l' y = l y) := by
  have dul := lt_of hdu
  let J : Nat → List AO → (Str → Option AV) → Prop := fun i g lg => ∃ p : Nat, Up [] h g ∧ MatchD Γ Δ (ds.drop i) (R.drop p) ∧ p ≤ R.length ∧ lg (S! "rows") = some (.ref rl) ∧ lg (S! "at") = some (.int p) ∧ (∀ y, y ≠ S! "entry" → y ≠ S! "at" → y ≠ S! "some" → y ≠ S! "spot" → y ≠ S! "base" → lg y = l y)
  have dn : ∀ {a b : String}, a ≠ b → S! a ≠ S! b := fun q => by rw [ne_eq, ofS_inj]; exact q
  obtain ⟨h', l', e1, p, J1, J2, J3, J4, J5, J6⟩ := forN_list (x := S! "entry") (b := du) (xs := dl) (body := seq L26_2) (j := h.length) (by rw [szm]; lia) J
    (fun i g lg zp0 => by obtain ⟨p, q1, _⟩ := zp0; exact q1.get hdu (by simp))
    (fun i g lg o zp1 _ => by obtain ⟨p, q1, q2⟩ := zp1; exact ⟨p, q1.set (.inr (Nat.le_refl _)), q2⟩)
    (fun i g lg v zp2 hv hj => by
      obtain ⟨p, q1, q2, q3, q4, q5, q6⟩ := zp2
      have hi := (List.getElem?_eq_some_iff.mp hv).1
      have hi2 : i < ds.length := by rw [← hd.1]; exact hi
      have hdrop : ds.drop i = ds[i] :: ds.drop (i + 1) := List.drop_eq_getElem_cons hi2
      have hdi := hd.2 i v ds[i] hv (List.getElem?_eq_getElem hi2)
      have Cg := C.up q1
      generalize hR : R.drop p = RR at q2
      rw [hdrop] at q2
      generalize hde : ds[i] = de at q2 hdi
      cases q2 with
      | @nums nr _ R' ho hl q2 =>
        obtain ⟨a, rfl, ha1, ha2⟩ := hdi
        refine ex2_5 (check_nums Cg hR hl ho (q1.get ha2 (by simp)) (l := upd lg (S! "entry") (.ref a)) (by rw [upd_ap, if_neg (dn (by decide))]; exact q4) (by rw [upd_ap, if_neg (dn (by decide))]; exact q5) (by kernel_rfl!) q3) fun g' l' t1 u t2 t3 t4 => ?_
        have hRl : p + nr.length ≤ R.length := by
          have := congrArg List.length hR
          simp at this; lia
        refine ⟨.next, g', l', t1, .inl rfl, u.2 _ (lt_of hj) (by simp), p + nr.length, q1.trans u, ?_, hRl, t2, t3, fun y y1 y2 y3 y4 y5 => ?_⟩
        · have : R.drop (p + nr.length) = R' := by
            rw [← List.drop_drop, hR, List.drop_left' (by simp)]
          rw [this]; exact q2
        · rw [t4 y y2 y3 y4 y5, upd_ap, if_neg y1]; exact q6 y y1 y2 y3 y4 y5
      | @name o oi _ R' eo hvp q2 =>
        have hv' : v = .str oi.name := hdi
        subst hv'
        refine ex2_5 (check_name Cg hR eo hvp (l := upd lg (S! "entry") (.str oi.name)) (by rw [upd_ap, if_neg (dn (by decide))]; exact q4) (by rw [upd_ap, if_neg (dn (by decide))]; exact q5) (by kernel_rfl!)) fun g' l' t1 u t2 t3 t4 => ?_
        have hRl : p + 1 ≤ R.length := by
          have := congrArg List.length hR
          simp at this; lia
        refine ⟨.next, g', l', t1, .inl rfl, u.2 _ (lt_of hj) (by simp), p + 1, q1.trans u, ?_, hRl, t2, t3, fun y y1 y2 y3 y4 y5 => ?_⟩
        · have : R.drop (p + 1) = R' := by
            rw [← List.drop_drop, hR]; rfl
          rw [this]; exact q2
        · rw [t4 y y2, upd_ap, if_neg y1]; exact q6 y y1 y2 y3 y4 y5)
    dl.length 0 (h ++ [.liter du 0]) l loops (by lia) (by unfold loops; lia) get_app0 (by lia)
    ⟨0, Up.app _ _ _, hM, by lia, l1, l2, fun _ _ _ _ _ _ => rfl⟩
  rw [hd.1, List.drop_length] at J2
  have hp : p = R.length := by
    generalize hR : R.drop p = RR at J2
    cases J2
    have := congrArg List.length hR
    simp at this; lia
  subst hp
  exact ⟨h', l', e1, J1, J4, J5, J6⟩
theorem nums_turn (W : Wd D Γ Δ ex nm h) {o : Nat} {oi : OI} (eo : Δ o = some oi) (hok : (nm o ≠ 0) ↔ (oi.ex = true ∧ isVP oi = true)) {l : Str → Option AV} (l1 : l (S! "obj") = some (.ref o)) (hD : D ≤ h.length) :
    ∃ X, seq L26_3 ⟨h, l⟩ = some (.next, ⟨h ++ X, l⟩) := by
  have RO := (W.ob o oi eo).choose_spec.rd
  unfold L26_3
  have a1 : cmpE .NotEq (att (var (S! "obj")) (S! "number")) (lit (.int 0)) ⟨h, l⟩ = some (.bool (!(nm o == 0)), ⟨h, l⟩) := by
    simp only [cmpE_ap, att_ap, var_ap, l1, Option.map_some, Option.bind_some, RO, lit_ap, c_ne, b_int]
  cases hx : oi.ex with
  | false =>
    have h0 : nm o = 0 := by
      by_cases q : nm o = 0
      · exact q
      · rw [hx] at hok; exact absurd (hok.mp q).1 (by decide)
    refine ⟨[], ?_⟩
    rw [List.append_nil]
    rw [seq_next (σ' := ⟨h, l⟩) (by
      rw [iff_ap, tcmp_ap, a1]
      simp only [Option.bind_some, and_ap, att_ap, var_ap, l1, Option.map_some, RO, hx, c_ne, b_bool, h0, beq_self_eq_true, Bool.not_true, brS_f, andE_f]
      rfl)]
    rfl
  | true =>
    refine ⟨[.list [.str (S! "var"), .str (S! "proc")]], ?_⟩
    have a2 : cmpE .In (att (var (S! "obj")) (S! "kind")) (lst [lit (.str (S! "var")), lit (.str (S! "proc"))]) ⟨h, l⟩ = some (.bool (isVP oi), ⟨h ++ [.list [.str (S! "var"), .str (S! "proc")]], l⟩) := by
      have hs : att (var (S! "obj")) (S! "kind") ⟨h, l⟩ = some (.str oi.kind, ⟨h, l⟩) := by simp only [att_ap, var_ap, l1, Option.map_some, Option.bind_some, RO]
      have := in_vp (k := oi.kind) oi hs
      rw [tcmp_ap, hs] at this
      rw [cmpE_ap, hs]
      simp only [Option.bind_some] at this ⊢
      cases hq : lst [lit (.str (S! "var")), lit (.str (S! "proc"))] ⟨h, l⟩ with
      | none => rw [hq] at this; cases this
      | some q =>
        rw [hq] at this
        simp only [Option.bind_some] at this ⊢
        cases hb : cmp .In (.str oi.kind) q.1 q.2 with
        | none => rw [hb] at this; cases this
        | some b =>
          rw [hb] at this
          simp only [Option.map_some, Option.some.injEq, Prod.mk.injEq] at this ⊢
          rw [this.1]
          exact ⟨rfl, this.2⟩
    have hb : (!(nm o == 0)) = isVP oi := by
      rw [Bool.eq_iff_iff]
      rw [hx] at hok
      simp only [true_and] at hok
      rw [← hok]; simp
    rw [seq_next (σ' := ⟨h ++ [.list [.str (S! "var"), .str (S! "proc")]], l⟩) (by
      rw [iff_ap, tcmp_ap, a1]
      simp only [Option.bind_some, and_ap]
      have : att (var (S! "obj")) (S! "exported") ⟨h, l⟩ = some (.bool true, ⟨h, l⟩) := by simp only [att_ap, var_ap, l1, Option.map_some, Option.bind_some, RO, hx]
      simp only [this, Option.bind_some, a2, c_ne, b_bool, hb, beq_self_eq_true, Option.map_some, Bool.not_true, brS_f, andE_t]
      rfl)]
    rfl
theorem nums_loop (W : Wd D Γ Δ ex nm h) {kp : List (Nat × AO)} (K : Kp D kp h) {ob : Nat} {os : List Nat} (hob : (ob, AO.list (rf os)) ∈ kp) (hol : os.length ≤ 8) (hos : ∀ o ∈ os, ∃ oi, Δ o = some oi ∧ ((nm o ≠ 0) ↔ (oi.ex = true ∧ isVP oi = true))) (hD : D ≤ h.length) {l : Str → Option AV} :
    ∃ h' l', forN (S! "obj") (.ref h.length) (seq L26_3) loops ⟨h ++ [.liter ob 0], l⟩ = some (.next, ⟨h', l'⟩) ∧ Up [] h h' ∧ (∀ y, y ≠ S! "obj" → l' y = l y) := by
  let J : Nat → List AO → (Str → Option AV) → Prop := fun i g lg => Up [] h g ∧ (∀ y, y ≠ S! "obj" → lg y = l y)
  obtain ⟨h', l', e1, J1, J2⟩ := forN_list (x := S! "obj") (b := ob) (xs := rf os) (body := seq L26_3) (j := h.length) (by rw [rf_len, szm]; lia) J
    (fun i g lg q => q.1.get (K.at' _ hob) (by simp))
    (fun i g lg o q _ => ⟨q.1.set (.inr (Nat.le_refl _)), q.2⟩)
    (fun i g lg v zp3 hv hj => by
      obtain ⟨q1, q2⟩ := zp3
      obtain ⟨o, ho, rfl⟩ := rf_get hv
      obtain ⟨oi, eo, hok⟩ := hos o (List.mem_of_getElem? ho)
      obtain ⟨X, t⟩ := nums_turn (W.up q1 hD (by simp)) eo hok (l := upd lg (S! "obj") (.ref o)) (by kernel_rfl!) (Nat.le_trans hD q1.1)
      exact ⟨.next, g ++ X, _, t, .inl rfl, get_lt (lt_of hj), q1.appR X, fun y hy => by rw [upd_ap, if_neg hy]; exact q2 y hy⟩)
    os.length 0 (h ++ [.liter ob 0]) l loops (by rw [rf_len]; lia) (by unfold loops; lia) get_app0 (by lia) ⟨Up.app _ _ _, fun _ _ => rfl⟩
  exact ⟨h', l', e1, J1, J2⟩
end
end Mine.L
end
section
namespace Mine.L
noncomputable abbrev KE := List ((Str × Str) × Nat × AV)
theorem next_dict {h : List AO} {l : Str → Option AV} {j d i n : Nat} {es : KE} (ej : h[j]? = some (.diter d i n)) (e : h[d]? = some (.tdict es true)) (hn : es.length = n) :
    next (.ref j) ⟨h, l⟩ = match es[i]? with | some p => some (some (.ref p.2.1), ⟨h.set j (.diter d (i + 1) n), l⟩) | none => some (none, ⟨h.set j .junk, l⟩) := by
  have hh : heldAt h d = some es := by unfold heldAt; simp only [e, if_true]
  unfold next nextAt; simp only [ej]; unfold nextD; simp only [hh, Option.bind_some, hn, if_true]; rfl
theorem comp_dloop {x : Str} {d : Nat} {es : KE} {t : STt} {elt : SE} {h : List AO} (n : es.length ≤ szMax) (hb : h[d]? = some (.tdict es true)) (p : Nat → Bool) (f : Nat → AV)
    (ht : ∀ e ∈ es, ∀ ys l, t ⟨h ++ ys, upd l x (.ref e.2.1)⟩ = some (p e.2.1, ⟨h ++ ys, upd l x (.ref e.2.1)⟩))
    (he : ∀ e ∈ es, p e.2.1 = true → ∀ ys l, elt ⟨h ++ ys, upd l x (.ref e.2.1)⟩ = some (f e.2.1, ⟨h ++ ys, upd l x (.ref e.2.1)⟩)) :
    ∀ k i m l, es.length ≤ i + k → k < m → i ≤ es.length → ∃ l', compN x (.ref h.length) (h.length + 1) t elt m ⟨h ++ [.diter d i es.length, .list ((((es.map (·.2.1)).take i).filter p).map f)], l⟩ = some ⟨h ++ [.junk, .list (((es.map (·.2.1)).filter p).map f)], l'⟩ := by
  intro k
  have hl := lt_of hb
  induction k with
  | zero =>
    intro i m l hk hm hi
    obtain ⟨m, rfl⟩ : ∃ m', m = m' + 1 := ⟨m - 1, by lia⟩
    have hn : es[i]? = none := List.getElem?_eq_none (by lia)
    have : i = es.length := by lia
    subst this
    refine ⟨l, ?_⟩
    unfold compN
    rw [next_dict (d := d) (i := es.length) get_app0 ((get_lt hl).trans hb) rfl, hn]
    have : (es.map (·.2.1)).take es.length = es.map (·.2.1) := by rw [List.take_of_length_le (by simp)]
    simp only [Option.bind_some, set_app0, List.set_cons_zero, this]
  | succ k ih =>
    intro i m l hk hm hi
    by_cases hlt : i < es.length
    · obtain ⟨m, rfl⟩ : ∃ m', m = m' + 1 := ⟨m - 1, by lia⟩
      have hv : es[i]? = some es[i] := List.getElem?_eq_getElem hlt
      have hm' : es[i] ∈ es := List.getElem_mem hlt
      obtain ⟨l', e⟩ := ih (i + 1) m (upd l x (.ref es[i].2.1)) (by lia) (by lia) (by lia)
      refine ⟨l', ?_⟩
      unfold compN
      rw [next_dict (d := d) (i := i) get_app0 ((get_lt hl).trans hb) rfl, hv]
      simp only [Option.bind_some, set_app0, List.set_cons_zero]
      rw [ht _ hm']
      simp only [Option.bind_some]
      have hk' : (es.map (·.2.1))[i]? = some es[i].2.1 := by rw [List.getElem?_map, hv]; rfl
      have tk : (es.map (·.2.1)).take (i + 1) = (es.map (·.2.1)).take i ++ [es[i].2.1] := by rw [List.take_add_one, hk']; rfl
      rw [tk, List.filter_append, List.map_append] at e
      by_cases hp : p es[i].2.1 = true
      · rw [if_pos hp, he _ hm' hp]
        simp only [Option.bind_some]
        rw [append_ap (xs := (((es.map (·.2.1)).take i).filter p).map f) (get_app 1) (by have := List.length_filter_le p ((es.map (·.2.1)).take i); simp at this ⊢; lia)]
        simp only [Option.bind_some]
        rw [set_app]
        simpa [hp] using e
      · rw [if_neg hp]
        simpa [hp] using e
    · have : i = es.length := by lia
      subst this
      obtain ⟨m, rfl⟩ : ∃ m', m = m' + 1 := ⟨m - 1, by lia⟩
      have hn : es[es.length]? = none := List.getElem?_eq_none (by lia)
      refine ⟨l, ?_⟩
      unfold compN
      rw [next_dict (d := d) (i := es.length) get_app0 ((get_lt hl).trans hb) rfl, hn]
      have : (es.map (·.2.1)).take es.length = es.map (·.2.1) := by rw [List.take_of_length_le (by simp)]
      simp only [Option.bind_some, set_app0, List.set_cons_zero, this]
theorem comp_dict {x : Str} {iter : SE} {ts : List STt} {elt : SE} {σ : St} {d : Nat} {es : KE} {h : List AO} {l : Str → Option AV} (hi : iter σ = some (.ref d, ⟨h, l⟩)) (hb : h[d]? = some (.tdict es false)) (n : es.length ≤ szMax) (p : Nat → Bool) (f : Nat → AV)
    (ht : ∀ e ∈ es, ∀ ys l, trl ts ⟨h.set d (.tdict es true) ++ ys, upd l x (.ref e.2.1)⟩ = some (p e.2.1, ⟨h.set d (.tdict es true) ++ ys, upd l x (.ref e.2.1)⟩))
    (he : ∀ e ∈ es, p e.2.1 = true → ∀ ys l, elt ⟨h.set d (.tdict es true) ++ ys, upd l x (.ref e.2.1)⟩ = some (f e.2.1, ⟨h.set d (.tdict es true) ++ ys, upd l x (.ref e.2.1)⟩)) :
    comp x iter ts elt σ = some (.ref (h.length + 1), ⟨h.set d (.tdict es true) ++ [.junk, .list (((es.map (·.2.1)).filter p).map f)], l⟩) := by
  have hset : (h.set d (.tdict es true))[d]? = some (.tdict es true) := get_set hb
  have hm : mkIter (.ref d) ⟨h, l⟩ = some (.ref h.length, ⟨h.set d (.tdict es true) ++ [.diter d 0 es.length], l⟩) := by
    rw [iter_at (ao := .diter d 0 es.length) (g := h.set d (.tdict es true)) (by unfold iterAt; simp only [hb]; rfl), List.length_set]
  unfold comp
  rw [hi]
  simp only [Option.bind_some]
  rw [hm]
  simp only [Option.bind_some, St.alloc]
  have hll : (h.set d (.tdict es true)).length = h.length := by simp
  obtain ⟨l', e⟩ := comp_dloop n hset p f ht he es.length 0 loops (fun _ => none) (by lia) (by simp [szMax] at n; unfold loops; lia) (by lia)
  rw [hll] at e
  have : (h.set d (.tdict es true) ++ [AO.diter d 0 es.length]).length = h.length + 1 := by simp
  rw [this]
  have q : h.set d (.tdict es true) ++ [AO.diter d 0 es.length] ++ [AO.list []] = h.set d (.tdict es true) ++ [AO.diter d 0 es.length, AO.list ((((es.map (·.2.1)).take 0).filter p).map f)] := by simp
  rw [q, e]
  rfl
theorem findT_some {k : Str × Str} : ∀ {es : KE}, (∃ e ∈ es, e.1 = k) → ∃ e ∈ es, e.1 = k ∧ findT k es = some e.2.2
  | [], h => by obtain ⟨e, he, _⟩ := h; cases he
  | e :: es, h => by
    unfold findT
    by_cases q : e.1 = k
    · exact ⟨e, .head _, q, by simp [q]⟩
    · obtain ⟨e', he', q'⟩ := h
      have : ∃ e ∈ es, e.1 = k := by
        rcases List.mem_cons.mp he' with rfl | h'
        · exact absurd q' q
        · exact ⟨e', h', q'⟩
      obtain ⟨e2, h2, q2, f2⟩ := findT_some this
      refine ⟨e2, .tail _ h2, q2, ?_⟩
      unfold findT at f2
      simp [q, f2]
structure Built (D N : Nat) (Γ : Nat → Option TI) (Δ : Nat → Option OI) (ex0 nm0 : Nat → Int) (h : List AO) (tr ob : Nat) (os : List Nat) (es : KE) (fT fR : List (Str × AV)) : Prop where
  W : Wd D Γ Δ ex0 nm0 h
  G : Gr N Γ Δ
  hD : D ≤ h.length
  big : 8 ≤ D
  c0 : h[0]? = some (.cell none)
  c1 : h[1]? = some (.cell (some (.ref 6)))
  t5 : h[5]? = some (.flds fT)
  t6 : h[6]? = some (.inst 3 5)
  tk : getF (S! "known") fT = some (.ref 7)
  kn : h[7]? = some (.tdict es false)
  ks : ∀ e ∈ es, h[e.2.1]? = some (.tup [.str e.1.1, .str e.1.2]) ∧ e.2.1 < D ∧ ∃ a t, e.2.2 = .ref a ∧ Γ a = some t ∧ t.mod = e.1.1
  kl : es.length ≤ 1000
  trD : tr < D
  tr1 : h[tr]? = some (.inst 4 (tr - 1))
  tr2 : h[tr - 1]? = some (.flds fR)
  trp : 0 < tr
  tn : getF (S! "name") fR = some (.str (S! "M"))
  tob : getF (S! "objs") fR = some (.ref ob)
  obD : ob < D
  lst : h[ob]? = some (.list (rf os))
  nd : os.Nodup
  ol : os.length ≤ 8
  objs : ∀ o ∈ os, ∃ oi, Δ o = some oi ∧ oi.kind ≠ S! "record" ∧ nm0 o = 0
  zero : ∀ a t, Γ a = some t → t.mod = S! "M" → ex0 a = 0
noncomputable def kpOf (es : KE) (tr ob : Nat) (os : List Nat) (fT fR : List (Str × AV)) : List (Nat × AO) := [(1, .cell (some (.ref 6))), (5, .flds fT), (6, .inst 3 5), (7, .tdict es false), (tr - 1, .flds fR), (tr, .inst 4 (tr - 1)), (ob, .list (rf os))] ++ es.map fun e => (e.2.1, .tup [.str e.1.1, .str e.1.2])
section
variable {D N : Nat} {Γ : Nat → Option TI} {Δ : Nat → Option OI} {ex0 nm0 : Nat → Int} {h : List AO} {tr ob : Nat} {os : List Nat} {es : KE} {fT fR : List (Str × AV)}
theorem Built.kp (B : Built D N Γ Δ ex0 nm0 h tr ob os es fT fR) : Kp D (kpOf es tr ob os fT fR) h := by
  have hb := B.big
  have htp := B.trp
  refine ⟨fun p hp => ?_, fun p hp => ?_, fun p hp f hf => ?_⟩
  · rcases List.mem_append.mp hp with q | q
    · simp only [List.mem_cons, List.not_mem_nil, or_false] at q
      rcases q with rfl | rfl | rfl | rfl | rfl | rfl | rfl
      · exact B.c1
      · exact B.t5
      · exact B.t6
      · exact B.kn
      · exact B.tr2
      · exact B.tr1
      · exact B.lst
    · obtain ⟨e, he, rfl⟩ := List.mem_map.mp q
      exact (B.ks e he).1
  · have h1 := B.trD; have h2 := B.obD
    rcases List.mem_append.mp hp with q | q
    · simp only [List.mem_cons, List.not_mem_nil, or_false] at q
      rcases q with rfl | rfl | rfl | rfl | rfl | rfl | rfl <;> simp only [] <;> lia
    · obtain ⟨e, he, rfl⟩ := List.mem_map.mp q
      exact (B.ks e he).2.1
  · rcases List.mem_append.mp hp with q | q
    · simp only [List.mem_cons, List.not_mem_nil, or_false] at q
      rcases q with rfl | rfl | rfl | rfl | rfl | rfl | rfl
      · cases hf
      · exact ⟨3, 5, by decide, by decide, List.mem_append_left _ (by simp)⟩
      · cases hf
      · cases hf
      · exact ⟨4, tr - 1, by decide, by decide, List.mem_append_left _ (by simp [show tr - 1 + 1 = tr by lia])⟩
      · cases hf
      · cases hf
    · obtain ⟨e, he, rfl⟩ := List.mem_map.mp q
      cases hf
end
end Mine.L
end
section
namespace Mine.L
section
variable {D N : Nat} {Γ : Nat → Option TI} {Δ : Nat → Option OI} {ex0 nm0 : Nat → Int} {h : List AO} {tr ob : Nat} {os : List Nat} {es : KE} {fT fR : List (Str × AV)}
theorem dn {a b : String} (q : a ≠ b) : S! a ≠ S! b := by rw [ne_eq, ofS_inj]; exact q
theorem tail_end (G : Gr N Γ Δ) {ex nm : Nat → Int} (W : Wd D Γ Δ ex nm h) (hD : D ≤ h.length) (K : Kp D (kpOf es tr ob os fT fR) h) (tk : getF (S! "known") fT = some (.ref 7)) (kl : es.length ≤ 1000) (D8 : 8 ≤ D)
    (ks : ∀ e ∈ es, ∃ a t, e.2.2 = .ref a ∧ Γ a = some t ∧ t.mod = e.1.1) {hh : Nat} {hl : List Int} (c0 : h[0]? = some (.cell (some (.ref hh)))) (held : h[hh]? = some (.list (ofInts hl))) (hln : hl.length ≤ 20000) (h7 : hh ≠ 7)
    (ok : ∀ a, own Γ a = true → (ex a ≠ 0 ↔ numOf Γ a ∈ hl)) (l : Str → Option AV) :
    ∃ σ', seq [setl (S! "records") (comp (S! "name") (att (celv 1) (S! "known")) [tAll .And [tcmp .Eq (att (sub (att (celv 1) (S! "known")) (var (S! "name"))) (S! "form")) (lit (.str (S! "record"))), tcmp .Eq (sub (var (S! "name")) (lit (.int 0))) (lit (.str (S! "M")))]] (sub (att (celv 1) (S! "known")) (var (S! "name")))),
      sRet (cmpE .NotIn (lit (.bool false)) (comp (S! "t") (var (S! "records")) [] (cmpE .Eq (cmpE .NotEq (att (var (S! "t")) (S! "exno")) (lit (.int 0))) (cmpE .In (att (var (S! "t")) (S! "number")) (celv 0)))))] ⟨h, l⟩ = some (.ret (.bool true), σ') := by
  have c1 := K.at' (1, .cell (some (.ref 6))) (List.mem_append_left _ (by simp))
  have t6 := K.at' (6, .inst 3 5) (List.mem_append_left _ (by simp))
  have t5 := K.at' (5, .flds fT) (List.mem_append_left _ (by simp))
  have kn := K.at' (7, .tdict es false) (List.mem_append_left _ (by simp))
  have ktup : ∀ e ∈ es, h[e.2.1]? = some (.tup [.str e.1.1, .str e.1.2]) := fun e he => K.at' (e.2.1, .tup [.str e.1.1, .str e.1.2]) (List.mem_append_right _ (List.mem_map.mpr ⟨e, he, rfl⟩))
  simp only at c1 t6 t5 kn
  let g := h.set 7 (.tdict es true)
  have gl : g.length = h.length := by simp [g]
  have g7 : g[7]? = some (.tdict es true) := get_set kn
  have gne : ∀ {j : Nat} {o : AO}, h[j]? = some o → 7 ≠ j → g[j]? = some o := fun e q => (get_set_ne q).trans e
  have Wg : Wd D Γ Δ ex nm g := by
    refine ⟨fun a t e => ?_, fun a p e => ?_, W.ltT, W.ltO⟩
    · obtain ⟨x, H⟩ := W.ty a t e
      refine ⟨x, H.frame fun j h1 h2 => get_set_ne ?_⟩
      rintro rfl
      have : 7 = a - 1 ∨ 7 = a ∨ 7 = a + 1 ∨ 7 = a + 2 := at4 h1 h2
      rcases this with q | q | q | q
      · have := H.flds; rw [← q, kn] at this; cases this
      · have := H.inst; rw [← q, kn] at this; cases this
      · have := H.fs; rw [← q, kn] at this; cases this
      · have := H.ps; rw [← q, kn] at this; cases this
    · obtain ⟨x, H⟩ := W.ob a p e
      refine ⟨x, H.frame fun j h1 h2 => get_set_ne ?_⟩
      rintro rfl
      have : 7 = a - 1 ∨ 7 = a := at2 h1 h2
      rcases this with q | q
      · have := H.flds; rw [← q, kn] at this; cases this
      · have := H.inst; rw [← q, kn] at this; cases this
  have hcel : ∀ {k : List AO} (lv : Str → Option AV), k[1]? = some (AO.cell (some (.ref 6))) → celv 1 ⟨k, lv⟩ = some (.ref 6, ⟨k, lv⟩) := fun lv e => by unfold celv; rw [cell_at e]; rfl
  have hcel0 : ∀ {k : List AO} (lv : Str → Option AV), k[0]? = some (AO.cell (some (.ref hh))) → celv 0 ⟨k, lv⟩ = some (.ref hh, ⟨k, lv⟩) := fun lv e => by unfold celv; rw [cell_at e]; rfl
  have hkn : ∀ {k : List AO} (lv : Str → Option AV), k[1]? = some (AO.cell (some (.ref 6))) → k[6]? = some (AO.inst 3 5) → k[5]? = some (AO.flds fT) → att (celv 1) (S! "known") ⟨k, lv⟩ = some (.ref 7, ⟨k, lv⟩) := fun lv e1 e2 e3 => by
    rw [att_ap, hcel lv e1]
    simp only [Option.bind_some, attr_of e2 e3 (show hasAttr 3 (S! "known") = true from by kernel_rfl) tk rfl, Option.map_some]
  have len1 := lt_of c1; have len6 := lt_of t6; have len5 := lt_of t5; have len7 := lt_of kn
  have found : ∀ e ∈ es, ∃ a t, findT e.1 es = some (.ref a) ∧ Γ a = some t ∧ t.mod = e.1.1 := fun e he => by
    obtain ⟨e', he', q, f⟩ := findT_some ⟨e, he, rfl⟩
    obtain ⟨a, t, h1, h2, h3⟩ := ks e' he'
    exact ⟨a, t, by rw [f, h1], h2, by rw [h3, q]⟩
  let keyAt : Nat → Str × Str := fun b => (keyT h b).getD (Str.ofString "", Str.ofString "")
  have keyOf : ∀ e ∈ es, keyAt e.2.1 = e.1 := fun e he => by
    show (keyT h e.2.1).getD _ = _
    rw [key_at (ktup e he)]; rfl
  let valAt : Nat → Nat := fun b => match findT (keyAt b) es with | some (.ref a) => a | _ => 0
  have valOf : ∀ e ∈ es, ∃ t, findT e.1 es = some (.ref (valAt e.2.1)) ∧ Γ (valAt e.2.1) = some t ∧ t.mod = e.1.1 := fun e he => by
    obtain ⟨a, t, h1, h2, h3⟩ := found e he
    have : valAt e.2.1 = a := by show (match findT (keyAt e.2.1) es with | some (.ref a) => a | _ => 0) = a; rw [keyOf e he, h1]
    exact ⟨t, by rw [this]; exact h1, by rw [this]; exact h2, h3⟩
  let pB : Nat → Bool := fun b => own Γ (valAt b)
  have item7 : ∀ e ∈ es, ∀ ys lv, item (.ref 7) (.ref e.2.1) ⟨g ++ ys, lv⟩ = some (.ref (valAt e.2.1)) := fun e he ys lv => by
    obtain ⟨t, h1, _, _⟩ := valOf e he
    have ne : 7 ≠ e.2.1 := fun q => by have := ktup e he; rw [← q, kn] at this; cases this
    have k1 : (g ++ ys)[7]? = some (.tdict es true) := (get_lt (by (clear_value *; lia))).trans g7
    have k2 : (g ++ ys)[e.2.1]? = some (.tup [.str e.1.1, .str e.1.2]) := (get_lt (by have := lt_of (ktup e he); (clear_value *; lia))).trans (gne (ktup e he) ne)
    have k3 : tdAt (g ++ ys) 7 = some es := by unfold tdAt; simp only [k1]
    show (tdAt (g ++ ys) 7).bind _ = _
    rw [k3]
    show (keyT (g ++ ys) e.2.1).bind _ = _
    rw [key_at k2]
    exact h1
  have subk : ∀ e ∈ es, ∀ ys lv, sub (att (celv 1) (S! "known")) (var (S! "name")) ⟨g ++ ys, upd lv (S! "name") (.ref e.2.1)⟩ = some (.ref (valAt e.2.1), ⟨g ++ ys, upd lv (S! "name") (.ref e.2.1)⟩) := fun e he ys lv => by
    rw [sub_ap, hkn _ ((get_lt (by (clear_value *; lia))).trans (gne c1 (by (clear_value *; lia)))) ((get_lt (by (clear_value *; lia))).trans (gne t6 (by (clear_value *; lia)))) ((get_lt (by (clear_value *; lia))).trans (gne t5 (by (clear_value *; lia))))]
    simp only [Option.bind_some, var_ap, upd_ap, if_true, Option.map_some, item7 e he]
  have s1 := comp_dict (x := S! "name") (iter := att (celv 1) (S! "known")) (ts := [tAll .And [tcmp .Eq (att (sub (att (celv 1) (S! "known")) (var (S! "name"))) (S! "form")) (lit (.str (S! "record"))), tcmp .Eq (sub (var (S! "name")) (lit (.int 0))) (lit (.str (S! "M")))]])
    (elt := sub (att (celv 1) (S! "known")) (var (S! "name"))) (σ := ⟨h, l⟩) (d := 7) (es := es) (h := h) (l := l) (hkn l c1 t6 t5) kn (by rw [szm]; (clear_value *; lia)) pB (fun b => .ref (valAt b))
    (fun e he ys lv => by
      obtain ⟨t, _, et, hm⟩ := valOf e he
      have ne : 7 ≠ e.2.1 := fun q => by have := ktup e he; rw [← q, kn] at this; cases this
      have k2 : (g ++ ys)[e.2.1]? = some (.tup [.str e.1.1, .str e.1.2]) := (get_lt (by have := lt_of (ktup e he); (clear_value *; lia))).trans (gne (ktup e he) ne)
      have RT := ((Wg.app (by (clear_value *; lia)) ys).ty _ t et).choose_spec.rd
      show trl _ ⟨g ++ ys, _⟩ = some (_, ⟨g ++ ys, _⟩)
      rw [trl_one, tand2, tcmp_ap, att_ap, subk e he]
      have ro : pB e.2.1 = (t.form == S! "record" && t.mod == S! "M") := by show own Γ (valAt e.2.1) = _; unfold own; rw [et]
      simp only [Option.bind_some, RT, Option.map_some, lit_ap, c_eq, s_str, ro, hm]
      cases t.form == S! "record" with
      | false => simp only [Bool.false_and, andK_f]
      | true => simp only [if_true, tcmp_ap, sub_ap, var_ap, upd_ap, Option.map_some, Option.bind_some, lit_ap, (item_pair k2).1, c_eq, s_str, Bool.true_and, andK_t])
    (fun e he _ ys lv => subk e he ys lv)
  let as := ((es.map (·.2.1)).filter pB).map valAt
  have has : (((es.map (·.2.1)).filter pB).map fun b => AV.ref (valAt b)) = rf as := by show _ = List.map _ (List.map _ _); rw [List.map_map]; rfl
  have asl : as.length ≤ 1000 := by have := List.length_filter_le pB (es.map (·.2.1)); simp [as] at this ⊢; (clear_value *; lia)
  have aso : ∀ a ∈ as, own Γ a = true := fun a ha => by
    obtain ⟨b, hb, rfl⟩ := List.mem_map.mp ha
    exact (List.mem_filter.mp hb).2
  rw [has] at s1
  let g2 := g ++ [AO.junk, AO.list (rf as)]
  let l2 := upd l (S! "records") (.ref (h.length + 1))
  have Wg2 : Wd D Γ Δ ex nm g2 := Wg.app (by (clear_value *; lia)) _
  have r2 : g2[h.length + 1]? = some (.list (rf as)) := by rw [← gl]; exact get_app 1
  have c02 : g2[0]? = some (.cell (some (.ref hh))) := (get_lt (by (clear_value *; lia))).trans (gne c0 (by (clear_value *; lia)))
  have hh2 : g2[hh]? = some (.list (ofInts hl)) := (get_lt (by rw [gl]; exact lt_of held)).trans (gne held (Ne.symm h7))
  have g2l : g2.length = h.length + 2 := by simp [g2, gl]
  have s2 : comp (S! "t") (var (S! "records")) [] (cmpE .Eq (cmpE .NotEq (att (var (S! "t")) (S! "exno")) (lit (.int 0))) (cmpE .In (att (var (S! "t")) (S! "number")) (celv 0))) ⟨g2, l2⟩ = some (.ref (g2.length + 1), ⟨g2 ++ [.junk, .list (as.map fun _ => AV.bool true)], l2⟩) :=
    comp_rf0 (h := g2) (b := h.length + 1) (fs := as) (l := l2) (by kernel_rfl!) r2 (by rw [szm]; (clear_value *; lia)) (fun _ => .bool true) (fun v hv ys lv => by
      have ho := aso v hv
      obtain ⟨t, et⟩ := own_in ho
      have RT := ((Wg2.app (by (clear_value *; lia)) ys).ty v t et).choose_spec.rd
      have k0 : (g2 ++ ys)[0]? = some (.cell (some (.ref hh))) := (get_lt (lt_of c02)).trans c02
      have kh : (g2 ++ ys)[hh]? = some (.list (ofInts hl)) := (get_lt (lt_of hh2)).trans hh2
      have hn : (ofInts hl).length ≤ szMax := by rw [szm]; simp [ofInts]; (clear_value *; lia)
      have hb : (!(ex v == 0)) = decide (t.num ∈ hl) := by
        have := ok v ho
        rw [numOf_eq et] at this
        rw [Bool.eq_iff_iff]
        simp only [Bool.not_eq_true', beq_eq_false_iff_ne, ne_eq, decide_eq_true_eq]
        exact this
      simp only [cmpE_ap, att_ap, var_ap, upd_ap, if_true, Option.map_some, Option.bind_some, RT, lit_ap, c_eq, c_ne, c_in, b_int, s_bool, hcel0 _ k0, in_list kh hn, inL_ints, hb, beq_self_eq_true])
  refine ⟨⟨g2 ++ [.junk, .list (as.map fun _ => AV.bool true)], l2⟩, ?_⟩
  rw [seq_next (σ' := ⟨g2, l2⟩) (by rw [setl_ap, s1]; rfl)]
  apply seq_ret
  have inT : ∀ xs : List Nat, inL (.bool false) (xs.map fun _ => AV.bool true) = some false := by
    intro xs
    induction xs with
    | nil => rfl
    | cons x xs ih => show ((eqS (.bool true) (.bool false)).bind fun b => (inL (.bool false) (xs.map fun _ => AV.bool true)).map fun c => b || c) = _; rw [ih]; rfl
  rw [sRet_ap, cmpE_ap, lit_ap]
  simp only [Option.bind_some, s2, c_nin]
  rw [in_list (xs := as.map fun _ => AV.bool true) (get_app 1) (by rw [szm]; simp; (clear_value *; lia))]
  simp only [inT, Option.map_some, Bool.not_false]
end
end Mine.L
end
section
namespace Mine.L
section
variable {D N : Nat} {Γ : Nat → Option TI} {Δ : Nat → Option OI} {ex0 nm0 : Nat → Int} {h : List AO} {tr ob : Nat} {os M' : List Nat} {es : KE} {fT fR : List (Str × AV)} {H : List (Nat × List Nat)}
theorem hist_len (G : Gr N Γ Δ) {M : List Nat} (x : Hist Γ Δ M os H M') : (rowsOf Δ H).length ≤ 61 * os.length := by
  have Ns := G.small
  induction x with
  | nil => simp [rowsOf]
  | skip _ _ _ ih => simp; lia
  | @take M os M' new o oi H e1 e2 I I' r1 rch _ ih =>
    have := seg_len (Δ := Δ) G (List.nodup_append.mp I'.nd).2.1 (fun x hx => I'.inM x (List.mem_append_right _ hx)) (o := o)
    have hr : rowsOf Δ ((o, new.filter (own Γ)) :: H) = seg Δ (o, new.filter (own Γ)) ++ rowsOf Δ H := by simp [rowsOf]
    rw [hr, List.length_append, List.length_cons]
    lia
theorem tuple_ap {h : List AO} {l : Str → Option AV} {a : Nat} {xs : List AV} (e : h[a]? = some (.tup xs)) : callB (.typ "tuple") [.ref a] ⟨h, l⟩ = some (.ref a, ⟨h, l⟩) := by
  rw [t_tuple]
  show (tupAt h a).map _ = _
  rw [tup_at e]; rfl
noncomputable def tailB (n : Nat) : List SS := (B26 n).drop 3
theorem law_tail (B : Built D N Γ Δ ex0 nm0 h tr ob os es fT fR) (n : Nat) {l : Str → Option AV} (lt' : l (S! "tree") = some (.ref tr)) : ∃ σ', seq (tailB n) ⟨h, l⟩ = some (.ret (.bool true), σ') := by
  have G := B.G
  have D8 := B.big
  have hD := B.hD
  have Ns := G.small
  have K := B.kp
  have K0 : Kp D ((0, .cell none) :: kpOf es tr ob os fT fR) h := by
    refine ⟨fun p hp => ?_, fun p hp => ?_, fun p hp f hf => ?_⟩
    · rcases List.mem_cons.mp hp with rfl | hp
      · exact B.c0
      · exact K.at' p hp
    · rcases List.mem_cons.mp hp with rfl | hp
      · show 0 < D; lia
      · exact K.lt p hp
    · rcases List.mem_cons.mp hp with rfl | hp
      · cases hf
      · obtain ⟨c, d, q1, q2, q3⟩ := K.fl p hp f hf
        exact ⟨c, d, q1, q2, .tail _ q3⟩
  have kne : ∀ p ∈ kpOf es tr ob os fT fR, p.1 ≠ 0 := fun p hp q => by
    have e := K.at' p hp
    rw [q, B.c0] at e
    have e := (Option.some.inj e).symm
    rcases List.mem_append.mp hp with hp | hp
    · simp only [List.mem_cons, List.not_mem_nil, or_false] at hp
      rcases hp with rfl | rfl | rfl | rfl | rfl | rfl | rfl <;> cases e
    · obtain ⟨x, _, rfl⟩ := List.mem_map.mp hp
      cases e
  obtain ⟨h1, rw', H, M', ex, nm, c1, len1, same, W1, K1, R1, num, hist, hrw⟩ := exports_ok G B.W K0 hD (by lia) B.tr1 B.tr2 B.tn B.tob (.tail _ (List.mem_append_left _ (by simp))) (.tail _ (List.mem_append_left _ (by simp))) (.tail _ (List.mem_append_left _ (by simp))) B.nd
    (fun o ho => let ⟨oi, q1, q2, _⟩ := B.objs o ho; ⟨oi, q1, q2⟩) B.ol (show 23 ≤ n + 27 from Nat.le_add_left 23 (n + 4))
  have Rl := hist_len G hist
  have ol := B.ol
  let R := rowsOf Δ H
  obtain ⟨ts, hts, tsl, trw⟩ := R1.lst
  let rl := h1.length + 1
  let h2 := h1 ++ [AO.junk, AO.list (rf ts)]
  let l2 := upd l (S! "rows") (.ref rl)
  have tup1 : ∀ v ∈ ts, ∃ xs, h1[v]? = some (.tup xs) := fun v hv => by
    obtain ⟨i, hi⟩ := List.getElem?_of_mem hv
    have hil := (List.getElem?_eq_some_iff.mp hi).1
    exact ⟨_, (trw i v _ hi (List.getElem?_eq_getElem (by rw [← tsl]; exact hil))).2.2⟩
  have s1 : setl (S! "rows") (comp (S! "row") (callf ((run theQ (n + 27)).fn) 5 [var (S! "tree")]) [] (bcall (.typ "tuple") [var (S! "row")])) ⟨h, l⟩ = some (.next, ⟨h2, l2⟩) := by
    have q : var (S! "tree") ⟨h, l⟩ = some (.ref tr, ⟨h, l⟩) := ev_var (Eq.trans (by kernel_rfl!) lt')
    rw [setl_ap, comp_rf0 (h := h1) (b := rw') (fs := ts) (l := l) (by simp only [callf_ap, evl_cons, evl_nil, q, Option.bind_some, c1 l]) hts (by rw [szm, tsl]; (clear_value *; lia)) AV.ref (fun v hv ys lv => by
      obtain ⟨xs, hx⟩ := tup1 v hv
      have : (h1 ++ ys)[v]? = some (.tup xs) := (get_lt (lt_of hx)).trans hx
      simp only [bcall_ap, evl_cons, evl_nil, var_ap, upd_ap, if_true, Option.map_some, Option.bind_some, tuple_ap this])]
    rfl
  let du := h2.length
  let h3 := h2 ++ [AO.list []]
  let l3 := upd l2 (S! "due") (.ref du)
  let hh := h3.length
  let h4a := h3 ++ [AO.list []]
  let h4 := h4a.set 0 (.cell (some (.ref hh)))
  have h2l : h2.length = h1.length + 2 := by simp [h2]
  have h3l : h3.length = h1.length + 3 := by simp [h3, h2l]
  have h4l : h4.length = h1.length + 4 := by simp [h4, h4a, h3l]
  have c0a : h1[0]? = some (.cell none) := K1.at' (0, .cell none) (.head _)
  have c0b : h4a[0]? = some (.cell none) := (get_lt (by (clear_value *; lia))).trans ((get_lt (by (clear_value *; lia))).trans ((get_lt (by (clear_value *; lia))).trans c0a))
  have K1' : Kp D (kpOf es tr ob os fT fR) h1 := ⟨fun p hp => K1.at' p (.tail _ hp), K.lt, K.fl⟩
  have P : P3 D Γ Δ (kpOf es tr ob os fT fR) ex nm hh du h4 [] [] [] := by
    have W2 : Wd D Γ Δ ex nm h2 := W1.app (by (clear_value *; lia)) _
    have W3 : Wd D Γ Δ ex nm h3 := W2.app (by (clear_value *; lia)) _
    have W4 : Wd D Γ Δ ex nm h4a := W3.app (by (clear_value *; lia)) _
    have K2 : Kp D (kpOf es tr ob os fT fR) h2 := K1'.app (by (clear_value *; lia)) _
    have K3 : Kp D (kpOf es tr ob os fT fR) h3 := K2.app (by (clear_value *; lia)) _
    have K4 : Kp D (kpOf es tr ob os fT fR) h4a := K3.app (by (clear_value *; lia)) _
    refine ⟨W4.putCell c0b, K4.putAt kne, get_set c0b, ?_, ?_, ⟨rfl, fun i v d e => by simp at e⟩, by lia, by lia, by lia, fun i a e => by simp at e⟩
    · exact (get_set_ne (by lia)).trans get_app0
    · exact (get_set_ne (by lia)).trans ((get_lt (by lia)).trans get_app0)
  obtain ⟨h5, l5, hl, dl, e5, U5, P5, ok5, ld5, hll, dll, L5⟩ := due_loop G (by (clear_value *; lia)) ol (show (ob, AO.list (rf os)) ∈ _ from List.mem_append_left _ (by simp)) hist (fun o ho => let ⟨oi, q1, _⟩ := B.objs o ho; ⟨oi, q1⟩) P n (l := l3) (by kernel_rfl!)
  have h5l := U5.1
  let l6 := upd l5 (S! "at") (.int 0)
  have old : ∀ {j : Nat} {o : AO}, D ≤ j → h1[j]? = some o → h5[j]? = some o := fun {j o} hj e => by
    have := lt_of e
    exact U5.get ((get_set_ne (by (clear_value *; lia))).trans ((get_lt (by (clear_value *; lia))).trans ((get_lt (by (clear_value *; lia))).trans ((get_lt this).trans e)))) hj (by simp; lia)
  have rl5 : h5[rl]? = some (.list (rf ts)) := by
    have : h2[rl]? = some (.list (rf ts)) := get_app 1
    exact U5.get ((get_set_ne (by lia)).trans ((get_lt (by lia)).trans ((get_lt (by lia)).trans this))) (by lia) (by simp; lia)
  have C : CK D N Γ Δ ex0 nm0 ex nm h5 rl R ts := by
    obtain ⟨hb1, _⟩ := hist_base hist [] (fun y hy => by cases hy)
    refine ⟨G, P5.W, by (clear_value *; lia), rl5, tsl, fun i t p q1 q2 => ?_, num, fun i z t b q1 q2 q3 q4 => by simpa using hb1 i z t b q1 q2 q3 q4, fun y hy => ((hist_rec hist).2 y hy).2, B.zero, Nat.le_trans Rl (by (clear_value *; lia))⟩
    obtain ⟨z1, _, z3⟩ := trw i t p q1 q2
    exact old z1 z3
  have l6r : l6 (S! "rows") = some (.ref rl) := by simp only [upd_ap, if_true, if_false, ofS_inj, String.reduceEq, l6, L5 _ (dn (show "rows" ≠ "obj" by decide)) (dn (show "rows" ≠ "fresh" by decide)), l3, l2]
  refine ex2_5 (check_loop C (hist_match G hist) (by (clear_value *; lia)) P5.due P5.dues (l := l6) l6r (by kernel_rfl!)) fun h7 l7 e7 U7 l7r l7a L7 => ?_
  have C7 := C.up U7
  have P7 := P5.up U7
  have hos : ∀ o ∈ os, ∃ oi, Δ o = some oi ∧ ((nm o ≠ 0) ↔ (oi.ex = true ∧ isVP oi = true)) := fun o ho => by
    obtain ⟨oi, q1, q2, q3⟩ := B.objs o ho
    refine ⟨oi, q1, fun q => ?_, fun ⟨z1, z2⟩ => ?_⟩
    · by_cases hm : ∃ k, k ≠ S! "record" ∧ (k, o) ∈ R
      · obtain ⟨k, hk, hm⟩ := hm
        obtain ⟨_, oi', z1, z2, z3⟩ := hist_obj1 hist k o hk hm
        rw [q1] at z1; cases z1
        exact ⟨z2, z3⟩
      · refine absurd ?_ q
        rw [num.on o (fun k hk hm' => hm ⟨k, hk, hm'⟩), q3]
    · obtain ⟨j, hj⟩ := List.getElem?_of_mem (hist_obj2 hist o oi ho q1 z1 z2)
      rw [num.oc j o _ hj q2]; (clear_value *; lia)
  have obk : (ob, AO.list (rf os)) ∈ kpOf es tr ob os fT fR := List.mem_append_left _ (by simp)
  refine ex2_3 (nums_loop P7.W P7.K obk ol hos (by have := U7.1; (clear_value *; lia)) (l := l7)) fun h8 l8 e8 U8 L8 => ?_
  have P8 := P7.up U8
  have D8' : D ≤ h8.length := by have := U7.1; have := U8.1; (clear_value *; lia)
  have okE : ∀ a, own Γ a = true → (ex a ≠ 0 ↔ numOf Γ a ∈ hl) := fun a ho => by
    obtain ⟨t, et⟩ := own_in ho
    have hm : t.mod = S! "M" := by unfold own at ho; rw [et] at ho; simp at ho; exact ho.2
    have inR : rrow a ∈ R ↔ a ∈ M' := ⟨fun q => ((hist_rec hist).2 a q).1, fun q => by simpa using (hist_base hist [] (fun y hy => by cases hy)).2 a q ho⟩
    have hel : numOf Γ a ∈ hl ↔ a ∈ M' := by
      rw [ok5]
      constructor
      · rintro ⟨x, hx, hxo, e⟩
        have := numOf_inj G (own_in hxo) ⟨t, et⟩ e
        rwa [← this]
      · intro q; exact ⟨a, q, ho, rfl⟩
    rw [hel, ← inR]
    constructor
    · intro q
      by_cases hr : rrow a ∈ R
      · exact hr
      · exact absurd (by rw [num.rn a hr, B.zero a t et hm]) q
    · intro q
      obtain ⟨j, hj⟩ := List.getElem?_of_mem q
      rw [num.rc j a hj]; (clear_value *; lia)
  have hh7 : hh ≠ 7 := by lia
  obtain ⟨σ', eE⟩ := tail_end G P8.W D8' P8.K B.tk B.kl D8 (fun e he => (B.ks e he).2.2) P8.c0 P8.held (by (clear_value *; lia)) hh7 okE l8
  refine ⟨σ', ?_⟩
  have treeAt : ∀ {g : List AO} {lv : Str → Option AV}, Kp D (kpOf es tr ob os fT fR) g → lv (S! "tree") = some (.ref tr) → att (var (S! "tree")) (S! "objs") ⟨g, lv⟩ = some (.ref ob, ⟨g, lv⟩) := fun {g lv} Kg hlv => by
    have q1 := Kg.at' (tr, .inst 4 (tr - 1)) (List.mem_append_left _ (by simp))
    have q2 := Kg.at' (tr - 1, .flds fR) (List.mem_append_left _ (by simp))
    simp only [att_ap, var_ap, hlv, Option.map_some, Option.bind_some, attr_of q1 q2 (show hasAttr 4 (S! "objs") = true from by kernel_rfl) B.tob rfl]
  have ld6 : l6 (S! "due") = some (.ref du) := Eq.trans (by kernel_rfl!) ld5
  have l3t : l3 (S! "tree") = some (.ref tr) := Eq.trans (by kernel_rfl!) lt'
  have l5t : l5 (S! "tree") = some (.ref tr) := by rw [L5 _ (dn (by decide)) (dn (by decide))]; exact l3t
  have l7t : l7 (S! "tree") = some (.ref tr) := by
    rw [L7 _ (dn (by decide)) (dn (by decide)) (dn (by decide)) (dn (by decide)) (dn (by decide))]
    simp only [upd_ap, if_false, ofS_inj, String.reduceEq, l6, l5t]
  show seq [setl (S! "rows") (comp (S! "row") (callf ((run theQ (n + 27)).fn) 5 [var (S! "tree")]) [] (bcall (.typ "tuple") [var (S! "row")])), setl (S! "due") (lst []), setc 0 (lst []), forl (S! "obj") (att (var (S! "tree")) (S! "objs")) (L26_0 n), setl (S! "at") (lit (.int 0)),
    forl (S! "entry") (var (S! "due")) L26_2, iff' (tcmp .NotEq (var (S! "at")) (bcall (.bltn "len") [var (S! "rows")])) [sRet (lit (.bool false))] [], forl (S! "obj") (att (var (S! "tree")) (S! "objs")) L26_3,
    setl (S! "records") (comp (S! "name") (att (celv 1) (S! "known")) [tAll .And [tcmp .Eq (att (sub (att (celv 1) (S! "known")) (var (S! "name"))) (S! "form")) (lit (.str (S! "record"))), tcmp .Eq (sub (var (S! "name")) (lit (.int 0))) (lit (.str (S! "M")))]] (sub (att (celv 1) (S! "known")) (var (S! "name")))),
    sRet (cmpE .NotIn (lit (.bool false)) (comp (S! "t") (var (S! "records")) [] (cmpE .Eq (cmpE .NotEq (att (var (S! "t")) (S! "exno")) (lit (.int 0))) (cmpE .In (att (var (S! "t")) (S! "number")) (celv 0)))))] ⟨h, l⟩ = _
  rw [seq_next s1]
  rw [seq_next (σ' := ⟨h3, l3⟩) (by rw [setl_ap, lst_ap, evl_nil]; rfl)]
  rw [seq_next (σ' := ⟨h4, l3⟩) (by
    rw [setc_ap, lst_ap, evl_nil]
    show (asgC 0 (.ref hh) ⟨h4a, l3⟩).map _ = _
    unfold asgC
    rw [cell_at c0b]
    rfl)]
  rw [seq_next (σ' := ⟨h5, l5⟩) (forl_go (b := ob) (xs := rf os) (treeAt P.K l3t) (P.K.at' _ obk) (by rw [rf_len, szm]; (clear_value *; lia)) e5)]
  rw [seq_next (σ' := ⟨h5, l6⟩) (by rw [setl_ap, lit_ap]; rfl)]
  rw [seq_next (σ' := ⟨h7, l7⟩) (forl_go (b := du) (xs := dl) (by simp only [var_ap, ld6, Option.map_some]) P5.due (by rw [szm]; (clear_value *; lia)) e7)]
  rw [seq_next (σ' := ⟨h7, l7⟩) (by
    rw [iff_ap]
    have : tcmp .NotEq (var (S! "at")) (bcall (.bltn "len") [var (S! "rows")]) ⟨h7, l7⟩ = some (false, ⟨h7, l7⟩) := by
      have tl : (rf ts).length ≤ szMax := by rw [rf_len, szm, tsl]; (clear_value *; lia)
      simp only [tcmp_ap, bcall_ap, evl_cons, evl_nil, var_ap, l7a, l7r, Option.map_some, Option.bind_some, len_ap (l := l7) C7.lst tl, c_ne, b_int, rf_len, tsl]
      simp [R]
    rw [this]; rfl)]
  rw [seq_next (σ' := ⟨h8, l8⟩) (forl_go (b := ob) (xs := rf os) (treeAt P7.K l7t) (P7.K.at' _ obk) (by rw [rf_len, szm]; (clear_value *; lia)) e8)]
  exact eE
end
end Mine.L
end
section
namespace Mine.L
theorem set_item {h : List AO} {l : Str → Option AV} {a k : Nat} {xs : List AV} {v : AV} (e : h[a]? = some (.list xs)) (n : xs.length ≤ szMax) (hk : k < xs.length) : setItem (.ref a) (.int k) v ⟨h, l⟩ = some ⟨h.set a (.list (xs.set k v)), l⟩ := by
  show setI a k v ⟨h, l⟩ = _
  unfold setI
  simp only [e, n, show (0 : Int) ≤ k from by lia, show (k : Int) < xs.length from by lia, and_self, if_true, Int.toNat_natCast]
  rfl
noncomputable def hnd (i v s : Int) : List AV := [.ref 3, .int i, .int v, .int s]
structure HandOK (h : List AO) : Prop where
  ok : ∃ (cells : List Int) (i : Nat) (v s : Int), h[3]? = some (.list (ofInts cells)) ∧ cells.length ≤ 63 ∧ h[4]? = some (.list (hnd i v s)) ∧ i ≤ cells.length ∧ 0 ≤ v
section
variable {h : List AO} {l : Str → Option AV} {i v s : Int}
theorem hnd_rd (e : h[4]? = some (.list (hnd i v s))) : (∀ l, item (.ref 4) (.int 0) ⟨h, l⟩ = some (.ref 3)) ∧ (∀ l, item (.ref 4) (.int 1) ⟨h, l⟩ = some (.int i)) ∧ (∀ l, item (.ref 4) (.int 2) ⟨h, l⟩ = some (.int v)) ∧ (∀ l, item (.ref 4) (.int 3) ⟨h, l⟩ = some (.int s)) :=
  have n : (hnd i v s).length ≤ szMax := by rw [szm]; simp [hnd]
  ⟨fun _ => item_list (i := 0) e n rfl, fun _ => item_list (i := 1) e n rfl, fun _ => item_list (i := 2) e n rfl, fun _ => item_list (i := 3) e n rfl⟩
theorem hnd_wr (e : h[4]? = some (.list (hnd i v s))) : (∀ l w, setItem (.ref 4) (.int 1) (.int w) ⟨h, l⟩ = some ⟨h.set 4 (.list (hnd w v s)), l⟩) ∧ (∀ l w, setItem (.ref 4) (.int 2) (.int w) ⟨h, l⟩ = some ⟨h.set 4 (.list (hnd i w s)), l⟩) ∧ (∀ l w, setItem (.ref 4) (.int 3) (.int w) ⟨h, l⟩ = some ⟨h.set 4 (.list (hnd i v w)), l⟩) :=
  have n : (hnd i v s).length ≤ szMax := by rw [szm]; simp [hnd]
  ⟨fun _ _ => set_item (k := 1) e n (by simp [hnd]), fun _ _ => set_item (k := 2) e n (by simp [hnd]), fun _ _ => set_item (k := 3) e n (by simp [hnd])⟩
theorem set_set4 {o p : AO} : (h.set 4 o).set 4 p = h.set 4 p := by rw [List.set_set]
theorem pick_ok (H : HandOK h) {lim : Int} (h0 : 0 < lim) (h1 : lim ≤ 2 ^ 40) {m : Nat} (hm : 8 ≤ m) :
    ∃ d o, Call m 18 [.ref 4, .int lim] h (.int d) (h.set 4 o) ∧ 0 ≤ d ∧ d < lim ∧ HandOK (h.set 4 o) := by
  refine cps fun C kont => ?_
  obtain ⟨n, rfl⟩ := ge_ex (show 8 ≤ m by assumption)
  obtain ⟨cells, i, v, s, e3, cl, e4, hi, hv⟩ := H.ok
  have l4 := lt_of e4
  have mk : ∀ {g : List AO} {i' : Nat} {v' s' : Int}, g[3]? = some (.list (ofInts cells)) → g[4]? = some (.list (hnd i' v' s')) → i' ≤ cells.length → 0 ≤ v' → HandOK g := fun q1 q2 q3 q4 => ⟨cells, _, _, _, q1, cl, q2, q3, q4⟩
  have at4 : ∀ o, (h.set 4 o)[4]? = some o := fun o => get_set e4
  have at3 : ∀ o, (h.set 4 o)[3]? = some (.list (ofInts cells)) := fun o => (get_set_ne (by decide)).trans e3
  have cn : (ofInts cells).length ≤ szMax := by rw [szm]; simp [ofInts]; lia
  let l0 := env [(S! "hand", .ref 4), (S! "limit", .int lim)]
  have R := hnd_rd e4
  have W := hnd_wr e4
  have two : ∀ x, Int.fdiv x lim = Int.fdiv x lim := fun _ => rfl
  have hlim : 0 < lim ∧ lim < 2 ^ 60 := ⟨h0, by lia⟩
  have fin : ∀ (o : AO) (i' : Nat) (v' : Int) (lv : Str → Option AV), o = .list (hnd i' v' s) → lv (S! "hand") = some (.ref 4) → lv (S! "limit") = some (.int lim) → i' ≤ cells.length → 0 ≤ v' →
      ∃ l', seq [setl (S! "digit") (bino .Mod (sub (var (S! "hand")) (lit (.int 2))) (var (S! "limit"))), seti (var (S! "hand")) (lit (.int 2)) (bino .FloorDiv (sub (var (S! "hand")) (lit (.int 2))) (var (S! "limit"))), sRet (var (S! "digit"))] ⟨h.set 4 o, lv⟩
        = some (.ret (.int (Int.fmod v' lim)), ⟨h.set 4 (.list (hnd i' (Int.fdiv v' lim) s)), l'⟩) ∧ HandOK (h.set 4 (.list (hnd i' (Int.fdiv v' lim) s))) := fun o i' v' lv ho lh ll hi' hv' => by
    subst ho
    have R' := hnd_rd (at4 (.list (hnd i' v' s)))
    have W' := hnd_wr (at4 (.list (hnd i' v' s)))
    refine ⟨upd lv (S! "digit") (.int (Int.fmod v' lim)), ?_, mk (at3 _) (at4 _) hi' (Int.fdiv_nonneg hv' (by lia))⟩
    rw [seq_next (σ' := ⟨h.set 4 (.list (hnd i' v' s)), upd lv (S! "digit") (.int (Int.fmod v' lim))⟩) (by
      simp only [setl_ap, bino_ap, sub_ap, var_ap, lh, ll, lit_ap, Option.map_some, Option.bind_some, R', mod_int, h0, if_true])]
    have lh' : upd lv (S! "digit") (.int (Int.fmod v' lim)) (S! "hand") = some (.ref 4) := by simp only [upd_ap, if_false, ofS_inj, String.reduceEq, lh]
    have ll' : upd lv (S! "digit") (.int (Int.fmod v' lim)) (S! "limit") = some (.int lim) := by simp only [upd_ap, if_false, ofS_inj, String.reduceEq, ll]
    rw [seq_next (σ' := ⟨h.set 4 (.list (hnd i' (Int.fdiv v' lim) s)), upd lv (S! "digit") (.int (Int.fmod v' lim))⟩) (by
      simp only [seti_ap, asgI_ap, bino_ap, sub_ap, var_ap, lh', ll', lit_ap, Option.map_some, Option.bind_some, R', div_int, hlim, and_self, if_true, W', set_set4])]
    apply seq_ret
    simp only [var_ap, upd_ap, if_true, Option.map_some, sRet_ap]
  have dpos : ∀ x, 0 ≤ Int.fmod x lim ∧ Int.fmod x lim < lim := fun x => ⟨Int.fmod_nonneg_of_pos _ h0, Int.fmod_lt_of_pos _ h0⟩
  have ht : tcmp .Eq (sub (var (S! "hand")) (lit (.int 2))) (lit (.int 0)) ⟨h, l0⟩ = some (v == 0, ⟨h, l0⟩) := by
    simp only [tcmp_ap, sub_ap, var_ap, l0, env_cons, if_true, lit_ap, Option.map_some, Option.bind_some, R, c_eq, s_int]
  have lh0 : l0 (S! "hand") = some (.ref 4) := by kernel_rfl!
  have ll0 : l0 (S! "limit") = some (.int lim) := by kernel_rfl!
  by_cases hv0 : v = 0
  · subst hv0
    have hq : sub (var (S! "hand")) (lit (.int 0)) ⟨h, l0⟩ = some (.ref 3, ⟨h, l0⟩) := by simp only [sub_ap, var_ap, lh0, lit_ap, Option.map_some, Option.bind_some, R]
    have hi1 : sub (var (S! "hand")) (lit (.int 1)) ⟨h, l0⟩ = some (.int i, ⟨h, l0⟩) := by simp only [sub_ap, var_ap, lh0, lit_ap, Option.map_some, Option.bind_some, R]
    have ht2 : tcmp .Eq (sub (var (S! "hand")) (lit (.int 1))) (bcall (.bltn "len") [sub (var (S! "hand")) (lit (.int 0))]) ⟨h, l0⟩ = some ((i : Int) == (cells.length : Int), ⟨h, l0⟩) := by
      simp only [tcmp_ap, hi1, bcall_ap, evl_cons, evl_nil, hq, Option.bind_some, len_ap (l := l0) e3 cn, c_eq, s_int, Option.map_some]
      simp [ofInts]
    by_cases hend : i = cells.length
    · -- the script is spent
      let s' := Int.fmod (s * 48271) 2147483647
      refine kont ?_
      refine mk2_4 (Int.fmod (Int.fdiv s' 7) lim) (.list (hnd i 0 s')) (fun l => ?_) ((dpos _).1) ((dpos _).2) (mk (at3 _) (at4 _) hi (Int.le_refl _))
      rw [fn18]
      apply frun_ret' (l' := l0)
      unfold B18
      apply seq_ret
      rw [iff_ap, ht]
      simp only [beq_self_eq_true, Option.bind_some, brS_t]
      apply seq_ret
      rw [iff_ap, ht2]
      simp only [hend, beq_self_eq_true, Option.bind_some, brS_t]
      rw [seq_next (σ' := ⟨h.set 4 (.list (hnd i 0 s')), l0⟩) (by
        simp only [seti_ap, asgI_ap, bino_ap, sub_ap, var_ap, lh0, lit_ap, Option.map_some, Option.bind_some, R, mul_int, mod_int, show (48271 : Int).natAbs < 2 ^ 60 from by decide, show (0 : Int) < 2147483647 from by decide, if_true, W]
        rfl)]
      apply seq_ret
      have R' := hnd_rd (at4 (.list (hnd i 0 s')))
      rw [← hend]
      simp only [sRet_ap, bino_ap, sub_ap, var_ap, lh0, ll0, lit_ap, Option.map_some, Option.bind_some, R', div_int, mod_int, show (0 : Int) < 7 from by decide, show (7 : Int) < 2 ^ 60 from by decide, and_self, h0, if_true]
    · have hil : i < cells.length := by lia
      obtain ⟨fig, hf⟩ : ∃ f, cells[i]? = some f := ⟨_, List.getElem?_eq_getElem hil⟩
      let v' := if fig ≥ 0 then fig else -fig
      have hv' : 0 ≤ v' := by show 0 ≤ if fig ≥ 0 then fig else -fig; split <;> lia
      have hcell : ∀ g : List AO, g[3]? = some (.list (ofInts cells)) → ∀ l, item (.ref 3) (.int i) ⟨g, l⟩ = some (.int fig) := fun g eg l => item_list eg cn (by unfold ofInts; rw [List.getElem?_map, hf]; rfl)
      let l1 := upd l0 (S! "figure") (.int fig)
      have l1h : l1 (S! "hand") = some (.ref 4) := Eq.trans (by kernel_rfl!) lh0
      have l1l : l1 (S! "limit") = some (.int lim) := Eq.trans (by kernel_rfl!) ll0
      obtain ⟨l', e9, H9⟩ := fin (.list (hnd (i + 1 : Nat) v' s)) (i + 1) v' l1 rfl l1h l1l (by lia) hv'
      refine kont ?_
      refine mk2_4 (Int.fmod v' lim) _ (fun l => ?_) ((dpos _).1) ((dpos _).2) H9
      rw [fn18]
      apply frun_ret' (l' := l')
      unfold B18
      have hne : ((i : Int) == (cells.length : Int)) = false := by simp; lia
      rw [seq_next (σ' := ⟨h.set 4 (.list (hnd (i + 1 : Nat) v' s)), l1⟩) (by
        rw [iff_ap, ht]
        simp only [beq_self_eq_true, Option.bind_some, brS_t]
        rw [seq_next (σ' := ⟨h, l0⟩) (by rw [iff_ap, ht2, hne]; rfl)]
        rw [seq_next (σ' := ⟨h, l1⟩) (by rw [setl_ap, sub_ap, hq]; simp only [Option.bind_some, hi1, hcell h e3, Option.map_some]; rfl)]
        rw [seq_next (σ' := ⟨h.set 4 (.list (hnd (i + 1 : Nat) 0 s)), l1⟩) (by
          simp only [seti_ap, asgI_ap, bino_ap, sub_ap, var_ap, l1h, lit_ap, Option.map_some, Option.bind_some, R, add_int, W]
          rfl)]
        have W2 := hnd_wr (at4 (.list (hnd (i + 1 : Nat) 0 s)))
        rw [seq_next (σ' := ⟨h.set 4 (.list (hnd (i + 1 : Nat) v' s)), l1⟩) (by
          have lf : l1 (S! "figure") = some (.int fig) := by kernel_rfl!
          simp only [seti_ap, asgI_ap, ifE_ap, tcmp_ap, var_ap, lf, lit_ap, Option.map_some, Option.bind_some, c_ge]
          by_cases hg : fig ≥ 0
          · simp only [hg, decide_true, if_true, Option.bind_some, var_ap, lf, l1h, Option.map_some, W2, set_set4, v', ifK_t]
          · simp only [hg, decide_false, if_false, Option.bind_some, negE_ap, var_ap, lf, l1h, Option.map_some, W2, set_set4, v', ifK_f, neg_i])]
        rfl)]
      exact e9
  · obtain ⟨l', e9, H9⟩ := fin (.list (hnd i v s)) i v l0 rfl lh0 ll0 hi hv
    refine kont ?_
    refine mk2_4 (Int.fmod v lim) _ (fun l => ?_) ((dpos _).1) ((dpos _).2) H9
    rw [fn18]
    apply frun_ret' (l' := l')
    unfold B18
    have hne : (v == 0) = false := by simpa using hv0
    rw [seq_next (σ' := ⟨h, l0⟩) (by rw [iff_ap, ht, hne]; rfl)]
    rw [set_same e4] at e9
    exact e9
end
end Mine.L
end
section
namespace Mine.L
noncomputable def trF (a : Nat) (name : Str) : List (Str × AV) := [(S! "name", .str name), (S! "imports", .ref (a + 1)), (S! "objs", .ref (a + 2)), (S! "procs", .ref (a + 3)), (S! "body", .none), (S! "records", .ref (a + 4)), (S! "place", .int 0)]
theorem seta_go {o e : SE} {x : Str} {σ σ1 σ2 : St} {v : AV} {a : Nat} (he : e σ = some (v, σ1)) (ho : o σ1 = some (.ref a, σ1)) (hs : setAttr theQ (.ref a) x v σ1 = some σ2) : seta o x e σ = some (.next, σ2) := by
  rw [seta_ap, he]
  simp only [Option.bind_some, asgA_ap, ho, hs, Option.map_some]
theorem sa {h : List AO} {l : Str → Option AV} (c : Nat) {fs gs : List (Str × AV)} {x : Str} {v : AV} {ys : List AO} (hp : putF x v fs = gs) (hx : hasAttr c x = true) (hl : fs.length ≤ 100) :
    setAttr theQ (.ref (h.length + 1)) x v ⟨h ++ (AO.flds fs :: AO.inst c h.length :: ys), l⟩ = some ⟨h ++ (AO.flds gs :: AO.inst c h.length :: ys), l⟩ := by
  rw [setAttr_of (c := c) (d := h.length) (fs := fs) (gs := gs) (get_app 1) get_app0 hx hl hp, set_app0]; rfl
theorem lstE {h : List AO} (ys : List AO) (l : Str → Option AV) : lst [] ⟨h ++ ys, l⟩ = some (.ref (h.length + ys.length), ⟨h ++ (ys ++ [.list []]), l⟩) := by
  rw [lst_ap, evl_nil]; simp
section
variable {h : List AO}
noncomputable def blk (a : Nat) (t : TI) (x : TX) : List AO := [.flds (tyF a t x 0), .inst 1 (a - 1), .list [], .list [], .list []]
theorem init6 {num size : Int} {form : Str} {m : Nat} (hm : 3 ≤ m) : Call m 6 [.ref (h.length + 1), .int num, .str form, .int size] (h ++ [.flds [], .inst 1 h.length]) .none (h ++ blk (h.length + 1) ⟨num, form, none, [], [], S! "", size⟩ ⟨0, 0, S! ""⟩) := by
  intro l
  obtain ⟨n, rfl⟩ := ge_ex (show 3 ≤ m by assumption)
  rw [fn6]
  let l0 := env [(S! "self", .ref (h.length + 1)), (S! "number", .int num), (S! "form", .str form), (S! "size", .int size)]
  apply frun_next' (l' := l0)
  unfold B6
  rw [seq_next (σ' := ⟨h ++ (AO.flds ((tyF (h.length + 1) ⟨num, form, none, [], [], S! "", size⟩ ⟨0, 0, S! ""⟩ 0).take 1) :: AO.inst 1 h.length :: []), l0⟩) (seta_go (v := .int num) (a := h.length + 1) (by simp only [var_ap, env_cons, if_true, if_false, Option.map_some, ofS_inj, String.reduceEq, l0]; first | done | rfl) (by kernel_rfl!) (sa 1 (fs := (tyF (h.length + 1) ⟨num, form, none, [], [], S! "", size⟩ ⟨0, 0, S! ""⟩ 0).take 0) (by kernel_rfl) (by kernel_rfl) (Nat.le_of_ble_eq_true rfl)))]
  rw [seq_next (σ' := ⟨h ++ (AO.flds ((tyF (h.length + 1) ⟨num, form, none, [], [], S! "", size⟩ ⟨0, 0, S! ""⟩ 0).take 2) :: AO.inst 1 h.length :: []), l0⟩) (seta_go (v := .str form) (a := h.length + 1) (by simp only [var_ap, env_cons, if_true, if_false, Option.map_some, ofS_inj, String.reduceEq, l0]; first | done | rfl) (by kernel_rfl!) (sa 1 (fs := (tyF (h.length + 1) ⟨num, form, none, [], [], S! "", size⟩ ⟨0, 0, S! ""⟩ 0).take 1) (by kernel_rfl) (by kernel_rfl) (Nat.le_of_ble_eq_true rfl)))]
  rw [seq_next (σ' := ⟨h ++ (AO.flds ((tyF (h.length + 1) ⟨num, form, none, [], [], S! "", size⟩ ⟨0, 0, S! ""⟩ 0).take 3) :: AO.inst 1 h.length :: []), l0⟩) (seta_go (v := .int size) (a := h.length + 1) (by simp only [var_ap, env_cons, if_true, if_false, Option.map_some, ofS_inj, String.reduceEq, l0]; first | done | rfl) (by kernel_rfl!) (sa 1 (fs := (tyF (h.length + 1) ⟨num, form, none, [], [], S! "", size⟩ ⟨0, 0, S! ""⟩ 0).take 2) (by kernel_rfl) (by kernel_rfl) (Nat.le_of_ble_eq_true rfl)))]
  rw [seq_next (σ' := ⟨h ++ (AO.flds ((tyF (h.length + 1) ⟨num, form, none, [], [], S! "", size⟩ ⟨0, 0, S! ""⟩ 0).take 4) :: AO.inst 1 h.length :: []), l0⟩) (seta_go (v := .none) (a := h.length + 1) rfl (by kernel_rfl!) (sa 1 (fs := (tyF (h.length + 1) ⟨num, form, none, [], [], S! "", size⟩ ⟨0, 0, S! ""⟩ 0).take 3) (by kernel_rfl) (by kernel_rfl) (Nat.le_of_ble_eq_true rfl)))]
  rw [seq_next (σ' := ⟨h ++ (AO.flds ((tyF (h.length + 1) ⟨num, form, none, [], [], S! "", size⟩ ⟨0, 0, S! ""⟩ 0).take 5) :: AO.inst 1 h.length :: []), l0⟩) (seta_go (v := .int 0) (a := h.length + 1) rfl (by kernel_rfl!) (sa 1 (fs := (tyF (h.length + 1) ⟨num, form, none, [], [], S! "", size⟩ ⟨0, 0, S! ""⟩ 0).take 4) (by kernel_rfl) (by kernel_rfl) (Nat.le_of_ble_eq_true rfl)))]
  rw [seq_next (σ' := ⟨h ++ (AO.flds ((tyF (h.length + 1) ⟨num, form, none, [], [], S! "", size⟩ ⟨0, 0, S! ""⟩ 0).take 6) :: AO.inst 1 h.length :: [.list []]), l0⟩) (seta_go (v := .ref (h.length + 2)) (a := h.length + 1) (lstE (AO.flds ((tyF (h.length + 1) ⟨num, form, none, [], [], S! "", size⟩ ⟨0, 0, S! ""⟩ 0).take 5) :: AO.inst 1 h.length :: []) l0) (by kernel_rfl!) (sa 1 (fs := (tyF (h.length + 1) ⟨num, form, none, [], [], S! "", size⟩ ⟨0, 0, S! ""⟩ 0).take 5) (by kernel_rfl) (by kernel_rfl) (Nat.le_of_ble_eq_true rfl)))]
  rw [seq_next (σ' := ⟨h ++ (AO.flds ((tyF (h.length + 1) ⟨num, form, none, [], [], S! "", size⟩ ⟨0, 0, S! ""⟩ 0).take 7) :: AO.inst 1 h.length :: [.list []]), l0⟩) (seta_go (v := .int 0) (a := h.length + 1) rfl (by kernel_rfl!) (sa 1 (fs := (tyF (h.length + 1) ⟨num, form, none, [], [], S! "", size⟩ ⟨0, 0, S! ""⟩ 0).take 6) (by kernel_rfl) (by kernel_rfl) (Nat.le_of_ble_eq_true rfl)))]
  rw [seq_next (σ' := ⟨h ++ (AO.flds ((tyF (h.length + 1) ⟨num, form, none, [], [], S! "", size⟩ ⟨0, 0, S! ""⟩ 0).take 8) :: AO.inst 1 h.length :: [.list [], .list []]), l0⟩) (seta_go (v := .ref (h.length + 3)) (a := h.length + 1) (lstE (AO.flds ((tyF (h.length + 1) ⟨num, form, none, [], [], S! "", size⟩ ⟨0, 0, S! ""⟩ 0).take 7) :: AO.inst 1 h.length :: [.list []]) l0) (by kernel_rfl!) (sa 1 (fs := (tyF (h.length + 1) ⟨num, form, none, [], [], S! "", size⟩ ⟨0, 0, S! ""⟩ 0).take 7) (by kernel_rfl) (by kernel_rfl) (Nat.le_of_ble_eq_true rfl)))]
  rw [seq_next (σ' := ⟨h ++ (AO.flds ((tyF (h.length + 1) ⟨num, form, none, [], [], S! "", size⟩ ⟨0, 0, S! ""⟩ 0).take 9) :: AO.inst 1 h.length :: [.list [], .list []]), l0⟩) (seta_go (v := .str (S! "")) (a := h.length + 1) rfl (by kernel_rfl!) (sa 1 (fs := (tyF (h.length + 1) ⟨num, form, none, [], [], S! "", size⟩ ⟨0, 0, S! ""⟩ 0).take 8) (by kernel_rfl) (by kernel_rfl) (Nat.le_of_ble_eq_true rfl)))]
  rw [seq_next (σ' := ⟨h ++ (AO.flds ((tyF (h.length + 1) ⟨num, form, none, [], [], S! "", size⟩ ⟨0, 0, S! ""⟩ 0).take 10) :: AO.inst 1 h.length :: [.list [], .list []]), l0⟩) (seta_go (v := .str (S! "")) (a := h.length + 1) rfl (by kernel_rfl!) (sa 1 (fs := (tyF (h.length + 1) ⟨num, form, none, [], [], S! "", size⟩ ⟨0, 0, S! ""⟩ 0).take 9) (by kernel_rfl) (by kernel_rfl) (Nat.le_of_ble_eq_true rfl)))]
  rw [seq_next (σ' := ⟨h ++ (AO.flds ((tyF (h.length + 1) ⟨num, form, none, [], [], S! "", size⟩ ⟨0, 0, S! ""⟩ 0).take 11) :: AO.inst 1 h.length :: [.list [], .list [], .list []]), l0⟩) (seta_go (v := .ref (h.length + 4)) (a := h.length + 1) (lstE (AO.flds ((tyF (h.length + 1) ⟨num, form, none, [], [], S! "", size⟩ ⟨0, 0, S! ""⟩ 0).take 10) :: AO.inst 1 h.length :: [.list [], .list []]) l0) (by kernel_rfl!) (sa 1 (fs := (tyF (h.length + 1) ⟨num, form, none, [], [], S! "", size⟩ ⟨0, 0, S! ""⟩ 0).take 10) (by kernel_rfl) (by kernel_rfl) (Nat.le_of_ble_eq_true rfl)))]
  rw [seq_next (σ' := ⟨h ++ (AO.flds ((tyF (h.length + 1) ⟨num, form, none, [], [], S! "", size⟩ ⟨0, 0, S! ""⟩ 0).take 12) :: AO.inst 1 h.length :: [.list [], .list [], .list []]), l0⟩) (seta_go (v := .int 0) (a := h.length + 1) rfl (by kernel_rfl!) (sa 1 (fs := (tyF (h.length + 1) ⟨num, form, none, [], [], S! "", size⟩ ⟨0, 0, S! ""⟩ 0).take 11) (by kernel_rfl) (by kernel_rfl) (Nat.le_of_ble_eq_true rfl)))]
  rfl
noncomputable def ob0 (name kind : Str) (ty : Nat) : List (Str × AV) := obF ⟨name, kind, ty, false⟩ ⟨.bool false, .str (S! ""), .none, .int 0, .int 0, .bool false⟩ 0
theorem init7 {name kind : Str} {ty : Nat} {m : Nat} (hm : 3 ≤ m) : Call m 7 [.ref (h.length + 1), .str name, .str kind, .ref ty, .int 0] (h ++ [.flds [], .inst 2 h.length]) .none (h ++ [.flds (ob0 name kind ty), .inst 2 h.length]) := by
  intro l
  obtain ⟨n, rfl⟩ := ge_ex (show 3 ≤ m by assumption)
  rw [fn7]
  let l0 := env [(S! "self", .ref (h.length + 1)), (S! "name", .str name), (S! "kind", .str kind), (S! "type_of", .ref ty), (S! "place", .int 0)]
  apply frun_next' (l' := l0)
  unfold B7
  rw [seq_next (σ' := ⟨h ++ (AO.flds ((obF ⟨name, kind, ty, false⟩ ⟨.bool false, .str (S! ""), .none, .int 0, .int 0, .bool false⟩ 0).take 1) :: AO.inst 2 h.length :: []), l0⟩) (seta_go (v := .str name) (a := h.length + 1) (by simp only [var_ap, env_cons, if_true, if_false, Option.map_some, ofS_inj, String.reduceEq, l0]; first | done | rfl) (by kernel_rfl!) (sa 2 (fs := (obF ⟨name, kind, ty, false⟩ ⟨.bool false, .str (S! ""), .none, .int 0, .int 0, .bool false⟩ 0).take 0) (by kernel_rfl) (by kernel_rfl) (Nat.le_of_ble_eq_true rfl)))]
  rw [seq_next (σ' := ⟨h ++ (AO.flds ((obF ⟨name, kind, ty, false⟩ ⟨.bool false, .str (S! ""), .none, .int 0, .int 0, .bool false⟩ 0).take 2) :: AO.inst 2 h.length :: []), l0⟩) (seta_go (v := .str kind) (a := h.length + 1) (by simp only [var_ap, env_cons, if_true, if_false, Option.map_some, ofS_inj, String.reduceEq, l0]; first | done | rfl) (by kernel_rfl!) (sa 2 (fs := (obF ⟨name, kind, ty, false⟩ ⟨.bool false, .str (S! ""), .none, .int 0, .int 0, .bool false⟩ 0).take 1) (by kernel_rfl) (by kernel_rfl) (Nat.le_of_ble_eq_true rfl)))]
  rw [seq_next (σ' := ⟨h ++ (AO.flds ((obF ⟨name, kind, ty, false⟩ ⟨.bool false, .str (S! ""), .none, .int 0, .int 0, .bool false⟩ 0).take 3) :: AO.inst 2 h.length :: []), l0⟩) (seta_go (v := .ref ty) (a := h.length + 1) (by simp only [var_ap, env_cons, if_true, if_false, Option.map_some, ofS_inj, String.reduceEq, l0]; first | done | rfl) (by kernel_rfl!) (sa 2 (fs := (obF ⟨name, kind, ty, false⟩ ⟨.bool false, .str (S! ""), .none, .int 0, .int 0, .bool false⟩ 0).take 2) (by kernel_rfl) (by kernel_rfl) (Nat.le_of_ble_eq_true rfl)))]
  rw [seq_next (σ' := ⟨h ++ (AO.flds ((obF ⟨name, kind, ty, false⟩ ⟨.bool false, .str (S! ""), .none, .int 0, .int 0, .bool false⟩ 0).take 4) :: AO.inst 2 h.length :: []), l0⟩) (seta_go (v := .int 0) (a := h.length + 1) (by simp only [var_ap, env_cons, if_true, if_false, Option.map_some, ofS_inj, String.reduceEq, l0]; first | done | rfl) (by kernel_rfl!) (sa 2 (fs := (obF ⟨name, kind, ty, false⟩ ⟨.bool false, .str (S! ""), .none, .int 0, .int 0, .bool false⟩ 0).take 3) (by kernel_rfl) (by kernel_rfl) (Nat.le_of_ble_eq_true rfl)))]
  rw [seq_next (σ' := ⟨h ++ (AO.flds ((obF ⟨name, kind, ty, false⟩ ⟨.bool false, .str (S! ""), .none, .int 0, .int 0, .bool false⟩ 0).take 5) :: AO.inst 2 h.length :: []), l0⟩) (seta_go (v := .bool false) (a := h.length + 1) rfl (by kernel_rfl!) (sa 2 (fs := (obF ⟨name, kind, ty, false⟩ ⟨.bool false, .str (S! ""), .none, .int 0, .int 0, .bool false⟩ 0).take 4) (by kernel_rfl) (by kernel_rfl) (Nat.le_of_ble_eq_true rfl)))]
  rw [seq_next (σ' := ⟨h ++ (AO.flds ((obF ⟨name, kind, ty, false⟩ ⟨.bool false, .str (S! ""), .none, .int 0, .int 0, .bool false⟩ 0).take 6) :: AO.inst 2 h.length :: []), l0⟩) (seta_go (v := .bool false) (a := h.length + 1) rfl (by kernel_rfl!) (sa 2 (fs := (obF ⟨name, kind, ty, false⟩ ⟨.bool false, .str (S! ""), .none, .int 0, .int 0, .bool false⟩ 0).take 5) (by kernel_rfl) (by kernel_rfl) (Nat.le_of_ble_eq_true rfl)))]
  rw [seq_next (σ' := ⟨h ++ (AO.flds ((obF ⟨name, kind, ty, false⟩ ⟨.bool false, .str (S! ""), .none, .int 0, .int 0, .bool false⟩ 0).take 7) :: AO.inst 2 h.length :: []), l0⟩) (seta_go (v := .int 0) (a := h.length + 1) rfl (by kernel_rfl!) (sa 2 (fs := (obF ⟨name, kind, ty, false⟩ ⟨.bool false, .str (S! ""), .none, .int 0, .int 0, .bool false⟩ 0).take 6) (by kernel_rfl) (by kernel_rfl) (Nat.le_of_ble_eq_true rfl)))]
  rw [seq_next (σ' := ⟨h ++ (AO.flds ((obF ⟨name, kind, ty, false⟩ ⟨.bool false, .str (S! ""), .none, .int 0, .int 0, .bool false⟩ 0).take 8) :: AO.inst 2 h.length :: []), l0⟩) (seta_go (v := .str (S! "")) (a := h.length + 1) rfl (by kernel_rfl!) (sa 2 (fs := (obF ⟨name, kind, ty, false⟩ ⟨.bool false, .str (S! ""), .none, .int 0, .int 0, .bool false⟩ 0).take 7) (by kernel_rfl) (by kernel_rfl) (Nat.le_of_ble_eq_true rfl)))]
  rw [seq_next (σ' := ⟨h ++ (AO.flds ((obF ⟨name, kind, ty, false⟩ ⟨.bool false, .str (S! ""), .none, .int 0, .int 0, .bool false⟩ 0).take 9) :: AO.inst 2 h.length :: []), l0⟩) (seta_go (v := .none) (a := h.length + 1) rfl (by kernel_rfl!) (sa 2 (fs := (obF ⟨name, kind, ty, false⟩ ⟨.bool false, .str (S! ""), .none, .int 0, .int 0, .bool false⟩ 0).take 8) (by kernel_rfl) (by kernel_rfl) (Nat.le_of_ble_eq_true rfl)))]
  rw [seq_next (σ' := ⟨h ++ (AO.flds ((obF ⟨name, kind, ty, false⟩ ⟨.bool false, .str (S! ""), .none, .int 0, .int 0, .bool false⟩ 0).take 10) :: AO.inst 2 h.length :: []), l0⟩) (seta_go (v := .int 0) (a := h.length + 1) rfl (by kernel_rfl!) (sa 2 (fs := (obF ⟨name, kind, ty, false⟩ ⟨.bool false, .str (S! ""), .none, .int 0, .int 0, .bool false⟩ 0).take 9) (by kernel_rfl) (by kernel_rfl) (Nat.le_of_ble_eq_true rfl)))]
  rw [seq_next (σ' := ⟨h ++ (AO.flds ((obF ⟨name, kind, ty, false⟩ ⟨.bool false, .str (S! ""), .none, .int 0, .int 0, .bool false⟩ 0).take 11) :: AO.inst 2 h.length :: []), l0⟩) (seta_go (v := .int 0) (a := h.length + 1) rfl (by kernel_rfl!) (sa 2 (fs := (obF ⟨name, kind, ty, false⟩ ⟨.bool false, .str (S! ""), .none, .int 0, .int 0, .bool false⟩ 0).take 10) (by kernel_rfl) (by kernel_rfl) (Nat.le_of_ble_eq_true rfl)))]
  rw [seq_next (σ' := ⟨h ++ (AO.flds ((obF ⟨name, kind, ty, false⟩ ⟨.bool false, .str (S! ""), .none, .int 0, .int 0, .bool false⟩ 0).take 12) :: AO.inst 2 h.length :: []), l0⟩) (seta_go (v := .int 0) (a := h.length + 1) rfl (by kernel_rfl!) (sa 2 (fs := (obF ⟨name, kind, ty, false⟩ ⟨.bool false, .str (S! ""), .none, .int 0, .int 0, .bool false⟩ 0).take 11) (by kernel_rfl) (by kernel_rfl) (Nat.le_of_ble_eq_true rfl)))]
  rw [seq_next (σ' := ⟨h ++ (AO.flds ((obF ⟨name, kind, ty, false⟩ ⟨.bool false, .str (S! ""), .none, .int 0, .int 0, .bool false⟩ 0).take 13) :: AO.inst 2 h.length :: []), l0⟩) (seta_go (v := .bool false) (a := h.length + 1) rfl (by kernel_rfl!) (sa 2 (fs := (obF ⟨name, kind, ty, false⟩ ⟨.bool false, .str (S! ""), .none, .int 0, .int 0, .bool false⟩ 0).take 12) (by kernel_rfl) (by kernel_rfl) (Nat.le_of_ble_eq_true rfl)))]
  rw [seq_next (σ' := ⟨h ++ (AO.flds ((obF ⟨name, kind, ty, false⟩ ⟨.bool false, .str (S! ""), .none, .int 0, .int 0, .bool false⟩ 0).take 14) :: AO.inst 2 h.length :: []), l0⟩) (seta_go (v := .none) (a := h.length + 1) rfl (by kernel_rfl!) (sa 2 (fs := (obF ⟨name, kind, ty, false⟩ ⟨.bool false, .str (S! ""), .none, .int 0, .int 0, .bool false⟩ 0).take 13) (by kernel_rfl) (by kernel_rfl) (Nat.le_of_ble_eq_true rfl)))]
  rfl
theorem init11 {name : Str} {m : Nat} (hm : 3 ≤ m) : Call m 11 [.ref (h.length + 1), .str name] (h ++ [.flds [], .inst 4 h.length]) .none (h ++ [.flds (trF (h.length + 1) name), .inst 4 h.length, .list [], .list [], .list [], .list []]) := by
  intro l
  obtain ⟨n, rfl⟩ := ge_ex (show 3 ≤ m by assumption)
  rw [fn11]
  let l0 := env [(S! "self", .ref (h.length + 1)), (S! "name", .str name)]
  apply frun_next' (l' := l0)
  unfold B11
  rw [seq_next (σ' := ⟨h ++ (AO.flds ((trF (h.length + 1) name).take 1) :: AO.inst 4 h.length :: []), l0⟩) (seta_go (v := .str name) (a := h.length + 1) (by simp only [var_ap, env_cons, if_true, if_false, Option.map_some, ofS_inj, String.reduceEq, l0]; first | done | rfl) (by kernel_rfl!) (sa 4 (fs := (trF (h.length + 1) name).take 0) (by kernel_rfl) (by kernel_rfl) (Nat.le_of_ble_eq_true rfl)))]
  rw [seq_next (σ' := ⟨h ++ (AO.flds ((trF (h.length + 1) name).take 2) :: AO.inst 4 h.length :: [.list []]), l0⟩) (seta_go (v := .ref (h.length + 2)) (a := h.length + 1) (lstE (AO.flds ((trF (h.length + 1) name).take 1) :: AO.inst 4 h.length :: []) l0) (by kernel_rfl!) (sa 4 (fs := (trF (h.length + 1) name).take 1) (by kernel_rfl) (by kernel_rfl) (Nat.le_of_ble_eq_true rfl)))]
  rw [seq_next (σ' := ⟨h ++ (AO.flds ((trF (h.length + 1) name).take 3) :: AO.inst 4 h.length :: [.list [], .list []]), l0⟩) (seta_go (v := .ref (h.length + 3)) (a := h.length + 1) (lstE (AO.flds ((trF (h.length + 1) name).take 2) :: AO.inst 4 h.length :: [.list []]) l0) (by kernel_rfl!) (sa 4 (fs := (trF (h.length + 1) name).take 2) (by kernel_rfl) (by kernel_rfl) (Nat.le_of_ble_eq_true rfl)))]
  rw [seq_next (σ' := ⟨h ++ (AO.flds ((trF (h.length + 1) name).take 4) :: AO.inst 4 h.length :: [.list [], .list [], .list []]), l0⟩) (seta_go (v := .ref (h.length + 4)) (a := h.length + 1) (lstE (AO.flds ((trF (h.length + 1) name).take 3) :: AO.inst 4 h.length :: [.list [], .list []]) l0) (by kernel_rfl!) (sa 4 (fs := (trF (h.length + 1) name).take 3) (by kernel_rfl) (by kernel_rfl) (Nat.le_of_ble_eq_true rfl)))]
  rw [seq_next (σ' := ⟨h ++ (AO.flds ((trF (h.length + 1) name).take 5) :: AO.inst 4 h.length :: [.list [], .list [], .list []]), l0⟩) (seta_go (v := .none) (a := h.length + 1) rfl (by kernel_rfl!) (sa 4 (fs := (trF (h.length + 1) name).take 4) (by kernel_rfl) (by kernel_rfl) (Nat.le_of_ble_eq_true rfl)))]
  rw [seq_next (σ' := ⟨h ++ (AO.flds ((trF (h.length + 1) name).take 6) :: AO.inst 4 h.length :: [.list [], .list [], .list [], .list []]), l0⟩) (seta_go (v := .ref (h.length + 5)) (a := h.length + 1) (lstE (AO.flds ((trF (h.length + 1) name).take 5) :: AO.inst 4 h.length :: [.list [], .list [], .list []]) l0) (by kernel_rfl!) (sa 4 (fs := (trF (h.length + 1) name).take 5) (by kernel_rfl) (by kernel_rfl) (Nat.le_of_ble_eq_true rfl)))]
  rw [seq_next (σ' := ⟨h ++ (AO.flds ((trF (h.length + 1) name).take 7) :: AO.inst 4 h.length :: [.list [], .list [], .list [], .list []]), l0⟩) (seta_go (v := .int 0) (a := h.length + 1) rfl (by kernel_rfl!) (sa 4 (fs := (trF (h.length + 1) name).take 6) (by kernel_rfl) (by kernel_rfl) (Nat.le_of_ble_eq_true rfl)))]
  rfl
end
end Mine.L
end
section
namespace Mine.L
noncomputable def updT {α : Type} (Γ : Nat → Option α) (a : Nat) (t : α) : Nat → Option α := fun b => if b = a then some t else Γ b
theorem updT_self {α : Type} (Γ : Nat → Option α) (a : Nat) (t : α) : updT Γ a t a = some t := by simp [updT]
theorem updT_ne {α : Type} (Γ : Nat → Option α) {a b : Nat} (t : α) (h : b ≠ a) : updT Γ a t b = Γ b := by simp [updT, h]
section
variable {D : Nat} {Γ : Nat → Option TI} {Δ : Nat → Option OI} {ex nm : Nat → Int} {h h' : List AO}
theorem Wd.modTy (W : Wd D Γ Δ ex nm h) {a : Nat} {t t' : TI} {x x' : TX} {v : Int} (e : Γ a = some t) (H : IsTy h a t x (ex a)) (H' : IsTy h' a t' x' v) (k : ∀ j, j ≠ a - 1 → j ≠ a + 1 → j ≠ a + 2 → h'[j]? = h[j]?) : Wd D (updT Γ a t') Δ (set1 ex a v) nm h' := by
  have hp := H.pos
  refine ⟨fun b u eb => ?_, fun b o eb => ?_, fun b u eb => ?_, W.ltO⟩
  · by_cases hb : b = a
    · subst hb
      rw [updT_self] at eb; cases eb
      exact ⟨x', by simpa [set1] using H'⟩
    · rw [updT_ne _ _ hb] at eb
      obtain ⟨y, K⟩ := W.ty b u eb
      have kp := K.pos
      refine ⟨y, ?_⟩
      rw [show ∀ f : Nat → Int, set1 f a v b = f b from fun f => by simp [set1, hb]]
      refine K.frame fun j h1 h2 => k j ?_ ?_ ?_
      · rintro rfl
        have e1 := H.flds
        have : a - 1 = b - 1 ∨ a - 1 = b ∨ a - 1 = b + 1 ∨ a - 1 = b + 2 := at4 h1 h2
        rcases this with q | q | q | q
        · lia
        · rw [q, K.inst] at e1; cases e1
        · rw [q, K.fs] at e1; cases e1
        · rw [q, K.ps] at e1; cases e1
      · rintro rfl
        have e1 := H.fs
        have : a + 1 = b - 1 ∨ a + 1 = b ∨ a + 1 = b + 1 ∨ a + 1 = b + 2 := at4 h1 h2
        rcases this with q | q | q | q
        · rw [q, K.flds] at e1; cases e1
        · rw [q, K.inst] at e1; cases e1
        · lia
        · have e2 := H.flds
          rw [show a - 1 = b by lia, K.inst] at e2; cases e2
      · rintro rfl
        have e1 := H.ps
        have : a + 2 = b - 1 ∨ a + 2 = b ∨ a + 2 = b + 1 ∨ a + 2 = b + 2 := at4 h1 h2
        rcases this with q | q | q | q
        · rw [q, K.flds] at e1; cases e1
        · rw [q, K.inst] at e1; cases e1
        · have e2 := H.fs
          rw [show a + 1 = b by lia, K.inst] at e2; cases e2
        · lia
  · obtain ⟨y, K⟩ := W.ob b o eb
    have kp := K.pos
    refine ⟨y, K.frame fun j h1 h2 => k j ?_ ?_ ?_⟩
    · rintro rfl
      have : a - 1 = b - 1 ∨ a - 1 = b := at2 h1 h2
      rcases this with q | q
      · have : a = b := by lia
        subst this; have := K.inst; rw [H.inst] at this; cases this
      · have e1 := H.flds; rw [q, K.inst] at e1; cases e1
    · rintro rfl
      have : a + 1 = b - 1 ∨ a + 1 = b := at2 h1 h2
      have e1 := H.fs
      rcases this with q | q
      · rw [q, K.flds] at e1; cases e1
      · rw [q, K.inst] at e1; cases e1
    · rintro rfl
      have : a + 2 = b - 1 ∨ a + 2 = b := at2 h1 h2
      have e1 := H.ps
      rcases this with q | q
      · rw [q, K.flds] at e1; cases e1
      · rw [q, K.inst] at e1; cases e1
  · by_cases hb : b = a
    · subst hb; exact W.ltT b t e
    · rw [updT_ne _ _ hb] at eb; exact W.ltT b u eb
theorem Wd.modOb (W : Wd D Γ Δ ex nm h) {a : Nat} {o o' : OI} {x x' : OX} {v : Int} (e : Δ a = some o) (H : IsOb h a o x (nm a)) (H' : IsOb h' a o' x' v) (k : ∀ j, j ≠ a - 1 → h'[j]? = h[j]?) : Wd D Γ (updT Δ a o') ex (set1 nm a v) h' := by
  have hp := H.pos
  refine ⟨fun b u eb => ?_, fun b p eb => ?_, W.ltT, fun b p eb => ?_⟩
  · obtain ⟨y, K⟩ := W.ty b u eb
    have kp := K.pos
    refine ⟨y, K.frame fun j h1 h2 => k j ?_⟩
    rintro rfl
    have e1 := H.flds
    have : a - 1 = b - 1 ∨ a - 1 = b ∨ a - 1 = b + 1 ∨ a - 1 = b + 2 := at4 h1 h2
    rcases this with q | q | q | q
    · have : a = b := by lia
      subst this; have := K.inst; rw [H.inst] at this; cases this
    · rw [q, K.inst] at e1; cases e1
    · rw [q, K.fs] at e1; cases e1
    · rw [q, K.ps] at e1; cases e1
  · by_cases hb : b = a
    · subst hb
      rw [updT_self] at eb; cases eb
      exact ⟨x', by simpa [set1] using H'⟩
    · rw [updT_ne _ _ hb] at eb
      obtain ⟨y, K⟩ := W.ob b p eb
      have kp := K.pos
      refine ⟨y, ?_⟩
      rw [show ∀ f : Nat → Int, set1 f a v b = f b from fun f => by simp [set1, hb]]
      refine K.frame fun j h1 h2 => k j ?_
      rintro rfl
      have : a - 1 = b - 1 ∨ a - 1 = b := at2 h1 h2
      rcases this with q | q
      · lia
      · have e1 := H.flds; rw [q, K.inst] at e1; cases e1
  · by_cases hb : b = a
    · subst hb; exact W.ltO b o e
    · rw [updT_ne _ _ hb] at eb; exact W.ltO b p eb
theorem Wd.wider (W : Wd D Γ Δ ex nm h) {D' : Nat} (q : D ≤ D') : Wd D' Γ Δ ex nm h := ⟨W.ty, W.ob, fun a t e => Nat.lt_of_lt_of_le (W.ltT a t e) q, fun a o e => Nat.lt_of_lt_of_le (W.ltO a o e) q⟩
theorem Wd.newTy (W : Wd D Γ Δ ex nm h) {a : Nat} {t : TI} {x : TX} {v : Int} (H : IsTy h a t x v) (hD : a + 2 < D) (hn : Γ a = none) : Wd D (updT Γ a t) Δ (set1 ex a v) nm h := by
  refine ⟨fun b u eb => ?_, W.ob, fun b u eb => ?_, W.ltO⟩
  · by_cases hb : b = a
    · subst hb; rw [updT_self] at eb; cases eb; exact ⟨x, by simpa [set1] using H⟩
    · rw [updT_ne _ _ hb] at eb
      obtain ⟨y, K⟩ := W.ty b u eb
      exact ⟨y, by simpa [set1, hb] using K⟩
  · by_cases hb : b = a
    · subst hb; exact hD
    · rw [updT_ne _ _ hb] at eb; exact W.ltT b u eb
theorem Wd.newOb (W : Wd D Γ Δ ex nm h) {a : Nat} {o : OI} {x : OX} {v : Int} (H : IsOb h a o x v) (hD : a < D) (hn : Δ a = none) : Wd D Γ (updT Δ a o) ex (set1 nm a v) h := by
  refine ⟨W.ty, fun b u eb => ?_, W.ltT, fun b u eb => ?_⟩
  · by_cases hb : b = a
    · subst hb; rw [updT_self] at eb; cases eb; exact ⟨x, by simpa [set1] using H⟩
    · rw [updT_ne _ _ hb] at eb
      obtain ⟨y, K⟩ := W.ob b u eb
      exact ⟨y, by simpa [set1, hb] using K⟩
  · by_cases hb : b = a
    · subst hb; exact hD
    · rw [updT_ne _ _ hb] at eb; exact W.ltO b u eb
end
noncomputable def nm00 : Nat → Int := fun _ => 0
theorem set1_same (f : Nat → Int) (a : Nat) : set1 f a (f a) = f := by funext b; simp only [set1]; split <;> simp_all
theorem nm00_set (a : Nat) : set1 nm00 a 0 = nm00 := set1_same nm00 a
structure Gr0 (N : Nat) (Γ : Nat → Option TI) (Δ : Nat → Option OI) (pd : Nat) : Prop where
  fs : ∀ a t, Γ a = some t → ∀ f ∈ t.fs, ∃ o, Δ f = some o
  ps : ∀ a t, Γ a = some t → ∀ f ∈ t.ps, ∃ o, Δ f = some o
  fsl : ∀ a t, Γ a = some t → t.fs.length ≤ 3
  psl : ∀ a t, Γ a = some t → t.ps.length ≤ 3
  base : ∀ a t b, Γ a = some t → t.base = some b → ∃ u, Γ b = some u ∧ u.num < t.num
  has : ∀ a t, Γ a = some t → a ≠ pd → t.form = S! "array" ∨ t.form = S! "pointer" ∨ t.form = S! "proc" → ∃ b, t.base = some b
  oty : ∀ f o, Δ f = some o → ∃ u, Γ o.ty = some u
  inj : ∀ a b t u, Γ a = some t → Γ b = some u → t.num = u.num → a = b
  num : ∀ a t, Γ a = some t → 1 ≤ t.num ∧ t.num ≤ N
  small : N ≤ 60
theorem Gr0.gr {N : Nat} {Γ : Nat → Option TI} {Δ : Nat → Option OI} (G : Gr0 N Γ Δ 0) (z : Γ 0 = none) : Gr N Γ Δ :=
  ⟨G.fs, G.ps, G.fsl, G.psl, G.base, fun a t e => G.has a t e (by rintro rfl; rw [z] at e; cases e), G.oty, G.inj, G.num, G.small⟩
section
variable {N : Nat} {Γ : Nat → Option TI} {Δ : Nat → Option OI} {pd : Nat}
theorem updT_some {α : Type} {Γ : Nat → Option α} {a b : Nat} {t : α} (h : ∃ u, Γ b = some u) : ∃ u, updT Γ a t b = some u := by
  by_cases q : b = a
  · exact ⟨t, by rw [q, updT_self]⟩
  · rw [updT_ne _ _ q]; exact h
theorem Gr0.modTy (G : Gr0 N Γ Δ pd) {a : Nat} {t t' : TI} (e : Γ a = some t) (h1 : ∀ f ∈ t'.fs, ∃ o, Δ f = some o) (h2 : ∀ f ∈ t'.ps, ∃ o, Δ f = some o) (h3 : t'.fs.length ≤ 3) (h4 : t'.ps.length ≤ 3)
    (h5 : ∀ b, t'.base = some b → ∃ u, Γ b = some u ∧ u.num < t'.num) (h6 : t'.num = t.num) {pd' : Nat} (h7 : a ≠ pd' → t'.form = S! "array" ∨ t'.form = S! "pointer" ∨ t'.form = S! "proc" → ∃ b, t'.base = some b) (h8 : pd = pd' ∨ pd = a ∨ Γ pd = none) : Gr0 N (updT Γ a t') Δ pd' := by
  have cs : ∀ {b u}, updT Γ a t' b = some u → (b = a ∧ u = t') ∨ (b ≠ a ∧ Γ b = some u) := fun {b u} q => by
    by_cases hb : b = a
    · subst hb; rw [updT_self] at q; cases q; exact .inl ⟨rfl, rfl⟩
    · rw [updT_ne _ _ hb] at q; exact .inr ⟨hb, q⟩
  refine ⟨fun b u q => ?_, fun b u q => ?_, fun b u q => ?_, fun b u q => ?_, fun b u c q hc => ?_, fun b u q hb hf => ?_, fun f o q => updT_some (G.oty f o q), fun b c u w q1 q2 hn => ?_, fun b u q => ?_, G.small⟩
  · rcases cs q with ⟨rfl, rfl⟩ | ⟨_, q⟩
    · exact h1
    · exact G.fs b u q
  · rcases cs q with ⟨rfl, rfl⟩ | ⟨_, q⟩
    · exact h2
    · exact G.ps b u q
  · rcases cs q with ⟨rfl, rfl⟩ | ⟨_, q⟩
    · exact h3
    · exact G.fsl b u q
  · rcases cs q with ⟨rfl, rfl⟩ | ⟨_, q⟩
    · exact h4
    · exact G.psl b u q
  · have fix : ∀ w, Γ c = some w → w.num < u.num → ∃ w, updT Γ a t' c = some w ∧ w.num < u.num := fun w hw hlt => by
      by_cases hb : c = a
      · subst hb; rw [e] at hw; cases hw; exact ⟨t', updT_self _ _ _, by lia⟩
      · exact ⟨w, by rw [updT_ne _ _ hb]; exact hw, hlt⟩
    rcases cs q with ⟨rfl, rfl⟩ | ⟨_, q⟩
    · obtain ⟨w, hw, hlt⟩ := h5 c hc; exact fix w hw hlt
    · obtain ⟨w, hw, hlt⟩ := G.base b u c q hc; exact fix w hw hlt
  · rcases cs q with ⟨rfl, rfl⟩ | ⟨hne, q⟩
    · exact h7 hb hf
    · refine G.has b u q ?_ hf
      rcases h8 with rfl | rfl | h8
      · exact hb
      · exact hne
      · rintro rfl; rw [h8] at q; cases q
  · rcases cs q1 with ⟨rfl, rfl⟩ | ⟨_, r1⟩ <;> rcases cs q2 with ⟨rfl, rfl⟩ | ⟨_, r2⟩
    · rfl
    · exact G.inj _ _ _ _ e r2 (by lia)
    · exact G.inj _ _ _ _ r1 e (by lia)
    · exact G.inj _ _ _ _ r1 r2 hn
  · rcases cs q with ⟨rfl, rfl⟩ | ⟨_, q⟩
    · have := G.num b t e; lia
    · exact G.num b u q
theorem Gr0.newTy (G : Gr0 N Γ Δ pd) {a : Nat} {t : TI} (hn : Γ a = none) (h1 : t.fs = []) (h2 : t.ps = []) (h3 : t.base = none) (h6 : t.num = N + 1) (h7 : N < 60) {pd' : Nat} (h8 : a ≠ pd' → ¬ (t.form = S! "array" ∨ t.form = S! "pointer" ∨ t.form = S! "proc")) (h9 : Γ pd = none) : Gr0 (N + 1) (updT Γ a t) Δ pd' := by
  have cs : ∀ {b u}, updT Γ a t b = some u → (b = a ∧ u = t) ∨ (b ≠ a ∧ Γ b = some u) := fun {b u} q => by
    by_cases hb : b = a
    · subst hb; rw [updT_self] at q; cases q; exact .inl ⟨rfl, rfl⟩
    · rw [updT_ne _ _ hb] at q; exact .inr ⟨hb, q⟩
  refine ⟨fun b u q => ?_, fun b u q => ?_, fun b u q => ?_, fun b u q => ?_, fun b u c q hc => ?_, fun b u q hb hf => ?_, fun f o q => updT_some (G.oty f o q), fun b c u w q1 q2 hn' => ?_, fun b u q => ?_, by lia⟩
  · rcases cs q with ⟨rfl, rfl⟩ | ⟨_, q⟩
    · rw [h1]; simp
    · exact G.fs b u q
  · rcases cs q with ⟨rfl, rfl⟩ | ⟨_, q⟩
    · rw [h2]; simp
    · exact G.ps b u q
  · rcases cs q with ⟨rfl, rfl⟩ | ⟨_, q⟩
    · rw [h1]; simp
    · exact G.fsl b u q
  · rcases cs q with ⟨rfl, rfl⟩ | ⟨_, q⟩
    · rw [h2]; simp
    · exact G.psl b u q
  · rcases cs q with ⟨rfl, rfl⟩ | ⟨_, q⟩
    · rw [h3] at hc; cases hc
    · obtain ⟨w, hw, hlt⟩ := G.base b u c q hc
      exact ⟨w, by rw [updT_ne _ _ (by rintro rfl; rw [hn] at hw; cases hw)]; exact hw, hlt⟩
  · rcases cs q with ⟨rfl, rfl⟩ | ⟨_, q⟩
    · exact absurd hf (h8 hb)
    · exact G.has b u q (by rintro rfl; rw [h9] at q; cases q) hf
  · rcases cs q1 with ⟨rfl, rfl⟩ | ⟨_, r1⟩ <;> rcases cs q2 with ⟨rfl, rfl⟩ | ⟨_, r2⟩
    · rfl
    · have := G.num _ _ r2; lia
    · have := G.num _ _ r1; lia
    · exact G.inj _ _ _ _ r1 r2 hn'
  · rcases cs q with ⟨rfl, rfl⟩ | ⟨_, q⟩
    · lia
    · have := G.num b u q; lia
theorem Gr0.setOb (G : Gr0 N Γ Δ pd) {f : Nat} {o : OI} (h : ∃ u, Γ o.ty = some u) : Gr0 N Γ (updT Δ f o) pd :=
  ⟨fun a t e g hg => updT_some (G.fs a t e g hg), fun a t e g hg => updT_some (G.ps a t e g hg), G.fsl, G.psl, G.base, G.has, fun g p q => by
    by_cases hb : g = f
    · subst hb; rw [updT_self] at q; cases q; exact h
    · rw [updT_ne _ _ hb] at q; exact G.oty g p q, G.inj, G.num, G.small⟩
end
end Mine.L
end
section
namespace Mine.L
noncomputable def tsF (cnt : Int) : List (Str × AV) := [(S! "counter", .int cnt), (S! "known", .ref 7), (S! "boolean", .ref 9), (S! "char", .ref 14), (S! "byte", .ref 19), (S! "integer", .ref 24), (S! "mask", .ref 29), (S! "nil", .ref 34), (S! "none", .ref 39)]
noncomputable def knAO : KE → AO
  | [] => .idict []
  | es => .tdict es false
noncomputable def basics : List Nat := [9, 14, 19, 24, 29, 34, 39]
structure Inv (pd : Nat) (Γ : Nat → Option TI) (Δ : Nat → Option OI) (ex : Nat → Int) (cnt : Nat) (B : Int) (es : KE) (h : List AO) : Prop where
  W : Wd h.length Γ Δ ex nm00 h
  G : Gr0 cnt Γ Δ pd
  sz : ∀ a t, Γ a = some t → 0 ≤ t.size ∧ t.size ≤ B
  lo : ∀ a t, Γ a = some t → 9 ≤ a
  loO : ∀ a o, Δ a = some o → 9 ≤ a
  hd : HandOK h
  c0 : h[0]? = some (.cell none)
  c1 : h[1]? = some (.cell (some (.ref 6)))
  t5 : h[5]? = some (.flds (tsF cnt))
  t6 : h[6]? = some (.inst 3 5)
  kn : h[7]? = some (knAO es)
  ks : ∀ e ∈ es, h[e.2.1]? = some (.tup [.str e.1.1, .str e.1.2]) ∧ ∃ a t, e.2.2 = .ref a ∧ Γ a = some t ∧ t.mod = e.1.1
  kl : es.length ≤ cnt
  bas : ∀ b ∈ basics, ∃ t, Γ b = some t
  zero : ∀ a t, Γ a = some t → t.mod = S! "M" → ex a = 0
  B4 : 4 ≤ B
section
variable {pd : Nat} {Γ : Nat → Option TI} {Δ : Nat → Option OI} {ex : Nat → Int} {cnt : Nat} {B : Int} {es : KE} {h h' : List AO}
theorem Wd.frame8 {nm : Nat → Int} {D : Nat} (W : Wd D Γ Δ ex nm h) (lo : ∀ a t, Γ a = some t → 9 ≤ a) (loO : ∀ a o, Δ a = some o → 9 ≤ a) (k : ∀ j, 8 ≤ j → j < D → h'[j]? = h[j]?) : Wd D Γ Δ ex nm h' :=
  ⟨fun a t e => let ⟨x, H⟩ := W.ty a t e; ⟨x, H.frame fun j h1 h2 => k j (by have := lo a t e; lia) (by have := W.ltT a t e; lia)⟩, fun a o e => let ⟨x, H⟩ := W.ob a o e; ⟨x, H.frame fun j h1 h2 => k j (by have := loO a o e; lia) (by have := W.ltO a o e; lia)⟩, W.ltT, W.ltO⟩
theorem Inv.up (I : Inv pd Γ Δ ex cnt B es h) (u : Up [4] h h') (H : HandOK h') : Inv pd Γ Δ ex cnt B es h' :=
  ⟨((I.W.frame8 I.lo I.loO fun j h1 h2 => u.2 j h2 (by simp; lia)).wider u.1), I.G, I.sz, I.lo, I.loO, H, u.get I.c0 (by simp), u.get I.c1 (by simp), u.get I.t5 (by simp), u.get I.t6 (by simp), u.get I.kn (by simp), fun e he => ⟨u.get (I.ks e he).1 (by
    intro q
    simp at q
    have := (I.ks e he).1
    obtain ⟨_, _, _, _, _, _, e4, _⟩ := I.hd.ok
    rw [q, e4] at this; cases this), (I.ks e he).2⟩, I.kl, I.bas, I.zero, I.B4⟩
theorem HandOK.up (H : HandOK h) (u : Up [] h h') : HandOK h' := let ⟨c, i, v, s, e3, cl, e4, hi, hv⟩ := H.ok; ⟨c, i, v, s, u.get e3 (by simp), cl, u.get e4 (by simp), hi, hv⟩
theorem Inv.app (I : Inv pd Γ Δ ex cnt B es h) (xs : List AO) : Inv pd Γ Δ ex cnt B es (h ++ xs) := I.up (Up.app _ _ _) (I.hd.up (Up.app _ _ _))
theorem Inv.set4 (I : Inv pd Γ Δ ex cnt B es h) {o : AO} (H : HandOK (h.set 4 o)) : Inv pd Γ Δ ex cnt B es (h.set 4 o) := I.up ((Up.refl _ _).set (.inl (by simp))) H
theorem Inv.noT (I : Inv pd Γ Δ ex cnt B es h) {a : Nat} (q : h.length ≤ a) : Γ a = none := by
  cases e : Γ a with
  | none => rfl
  | some t => have := I.W.ltT a t e; lia
theorem Inv.noO (I : Inv pd Γ Δ ex cnt B es h) {a : Nat} (q : h.length ≤ a) : Δ a = none := by
  cases e : Δ a with
  | none => rfl
  | some t => have := I.W.ltO a t e; lia
theorem Inv.unpend (I : Inv pd Γ Δ ex cnt B es h) (k : ∀ t, Γ pd = some t → t.form = S! "array" ∨ t.form = S! "pointer" ∨ t.form = S! "proc" → ∃ b, t.base = some b) : Inv 0 Γ Δ ex cnt B es h :=
  ⟨I.W, ⟨I.G.fs, I.G.ps, I.G.fsl, I.G.psl, I.G.base, fun a t e _ hf => by
    by_cases q : a = pd
    · subst q; exact k t e hf
    · exact I.G.has a t e q hf, I.G.oty, I.G.inj, I.G.num, I.G.small⟩, I.sz, I.lo, I.loO, I.hd, I.c0, I.c1, I.t5, I.t6, I.kn, I.ks, I.kl, I.bas, I.zero, I.B4⟩
theorem Inv.z0 (I : Inv pd Γ Δ ex cnt B es h) : Γ 0 = none := by
  cases e : Γ 0 with
  | none => rfl
  | some t => have := I.lo 0 t e; lia
theorem Inv.gr (I : Inv 0 Γ Δ ex cnt B es h) : Gr cnt Γ Δ := I.G.gr I.z0
theorem Inv.wide (I : Inv pd Γ Δ ex cnt B es h) {B' : Int} (q : B ≤ B') : Inv pd Γ Δ ex cnt B' es h :=
  ⟨I.W, I.G, fun a t e => ⟨(I.sz a t e).1, Int.le_trans (I.sz a t e).2 q⟩, I.lo, I.loO, I.hd, I.c0, I.c1, I.t5, I.t6, I.kn, I.ks, I.kl, I.bas, I.zero, Int.le_trans I.B4 q⟩
theorem ts_rd {c : Int} (t5 : h[5]? = some (.flds (tsF c))) (t6 : h[6]? = some (.inst 3 5)) : (∀ l, attr theQ (.ref 6) (S! "counter") ⟨h, l⟩ = some (.int c)) ∧ (∀ l, attr theQ (.ref 6) (S! "known") ⟨h, l⟩ = some (.ref 7)) ∧ (∀ l, attr theQ (.ref 6) (S! "boolean") ⟨h, l⟩ = some (.ref 9)) ∧ (∀ l, attr theQ (.ref 6) (S! "char") ⟨h, l⟩ = some (.ref 14)) ∧
    (∀ l, attr theQ (.ref 6) (S! "byte") ⟨h, l⟩ = some (.ref 19)) ∧ (∀ l, attr theQ (.ref 6) (S! "integer") ⟨h, l⟩ = some (.ref 24)) ∧ (∀ l, attr theQ (.ref 6) (S! "mask") ⟨h, l⟩ = some (.ref 29)) ∧ (∀ l, attr theQ (.ref 6) (S! "nil") ⟨h, l⟩ = some (.ref 34)) ∧ (∀ l, attr theQ (.ref 6) (S! "none") ⟨h, l⟩ = some (.ref 39)) :=
  ⟨fun _ => attr_of t6 t5 (by kernel_rfl) (by kernel_rfl) rfl, fun _ => attr_of t6 t5 (by kernel_rfl) (by kernel_rfl) rfl, fun _ => attr_of t6 t5 (by kernel_rfl) (by kernel_rfl) rfl, fun _ => attr_of t6 t5 (by kernel_rfl) (by kernel_rfl) rfl, fun _ => attr_of t6 t5 (by kernel_rfl) (by kernel_rfl) rfl,
    fun _ => attr_of t6 t5 (by kernel_rfl) (by kernel_rfl) rfl, fun _ => attr_of t6 t5 (by kernel_rfl) (by kernel_rfl) rfl, fun _ => attr_of t6 t5 (by kernel_rfl) (by kernel_rfl) rfl, fun _ => attr_of t6 t5 (by kernel_rfl) (by kernel_rfl) rfl⟩
theorem ts_wr {c v : Int} (t5 : h[5]? = some (.flds (tsF c))) (t6 : h[6]? = some (.inst 3 5)) (l : Str → Option AV) : setAttr theQ (.ref 6) (S! "counter") (.int v) ⟨h, l⟩ = some ⟨h.set 5 (.flds (tsF v)), l⟩ :=
  setAttr_of t6 t5 (by kernel_rfl) (Nat.le_of_ble_eq_true rfl) (by kernel_rfl)
theorem isTy_blk {t : TI} {x : TX} (h1 : t.fs = []) (h2 : t.ps = []) (ys : List AO) : IsTy (h ++ (blk (h.length + 1) t x ++ ys)) (h.length + 1) t x 0 := by
  refine ⟨by lia, get_app 1, get_app0, ?_, ?_⟩
  · rw [show h.length + 1 + 1 = h.length + 2 from rfl, get_app 2, h1]; rfl
  · rw [show h.length + 1 + 2 = h.length + 3 from rfl, get_app 3, h2]; rfl
theorem new_first {h : List AO} {cnt : Nat} (t5 : h[5]? = some (.flds (tsF cnt))) (t6 : h[6]? = some (.inst 3 5)) (hl : 8 ≤ h.length) {form mod label : Str} {size : Int} {n : Nat} {lv : Str → Option AV} (q1 : lv (S! "self") = some (.ref 6)) (q2 : lv (S! "form") = some (.str form)) (q3 : lv (S! "size") = some (.int size))
    (q4 : lv (S! "module") = some (.str mod)) (q5 : lv (S! "label") = some (.str label)) (rest : List SS) :
    seq (auga (var (S! "self")) (S! "counter") .Add (lit (.int 1)) :: setl (S! "made") (newc ((run theQ (n + 3)).fn) 1 6 [att (var (S! "self")) (S! "counter"), var (S! "form"), var (S! "size")]) :: seta (var (S! "made")) (S! "module") (var (S! "module")) :: seta (var (S! "made")) (S! "label") (var (S! "label")) :: rest) ⟨h, lv⟩
      = seq rest ⟨h.set 5 (.flds (tsF (cnt + 1))) ++ blk (h.length + 1) ⟨cnt + 1, form, none, [], [], mod, size⟩ ⟨0, 0, label⟩, upd lv (S! "made") (.ref (h.length + 1))⟩ := by
  let h1 := h.set 5 (.flds (tsF (cnt + 1)))
  have hl1 : h1.length = h.length := by simp [h1]
  have t51 : h1[5]? = some (.flds (tsF (cnt + 1))) := get_set t5
  have t61 : h1[6]? = some (.inst 3 5) := (get_set_ne (by decide)).trans t6
  let lm := upd lv (S! "made") (.ref (h.length + 1))
  rw [seq_next (σ' := ⟨h1, lv⟩) (by
    simp only [auga_ap, var_ap, q1, Option.map_some, Option.bind_some, ts_rd t5 t6, lit_ap, i_int, ts_wr t5 t6]
    rfl)]
  rw [seq_next (σ' := ⟨h1 ++ blk (h1.length + 1) ⟨cnt + 1, form, none, [], [], S! "", size⟩ ⟨0, 0, S! ""⟩, lm⟩) (by
    rw [setl_ap, newc_ap (vs := [.int (cnt + 1), .str form, .int size]) (σ' := ⟨h1, lv⟩) (by simp only [evl_cons, evl_nil, att_ap, var_ap, q1, q2, q3, Option.map_some, Option.bind_some, ts_rd t51 t61]) (by intro q; have q2 : h1 = [] := q; have := congrArg List.length q2; rw [List.length_nil] at this; (clear_value *; lia))]
    have i6 := init6 (h := h1) (num := cnt + 1) (form := form) (size := size) (show 3 ≤ n + 3 from Nat.le_add_left 3 n) lv
    rw [hl1] at i6
    simp only [hl1, i6, Option.bind_some]
    rfl)]
  have H1 := isTy_blk (h := h1) (t := ⟨cnt + 1, form, none, [], [], S! "", size⟩) (x := ⟨0, 0, S! ""⟩) rfl rfl []
  rw [List.append_nil] at H1
  have lmm : lm (S! "made") = some (.ref (h1.length + 1)) := by simp only [upd_ap, if_true, lm, hl1]
  have lmd : lm (S! "module") = some (.str mod) := Eq.trans (by kernel_rfl!) q4
  have lml : lm (S! "label") = some (.str label) := Eq.trans (by kernel_rfl!) q5
  rw [seq_next (σ' := ⟨h1 ++ blk (h1.length + 1) ⟨cnt + 1, form, none, [], [], mod, size⟩ ⟨0, 0, S! ""⟩, lm⟩) (by
    rw [seta_ap, var_ap, lmd]
    simp only [Option.map_some, Option.bind_some, asgA_ap, var_ap, lmm, H1.wr, Nat.add_sub_cancel]
    rw [set_app0]; rfl)]
  have H2 := isTy_blk (h := h1) (t := ⟨cnt + 1, form, none, [], [], mod, size⟩) (x := ⟨0, 0, S! ""⟩) rfl rfl []
  rw [List.append_nil] at H2
  rw [seq_next (σ' := ⟨h1 ++ blk (h1.length + 1) ⟨cnt + 1, form, none, [], [], mod, size⟩ ⟨0, 0, label⟩, lm⟩) (by
    rw [seta_ap, var_ap, lml]
    simp only [Option.map_some, Option.bind_some, asgA_ap, var_ap, lmm, H2.wr, Nat.add_sub_cancel]
    rw [set_app0]; rfl)]
  rw [hl1]
theorem putT_mem {k : Str × Str} {b : Nat} {v : AV} {es : KE} {e : (Str × Str) × Nat × AV} (h : e ∈ putT k b v es) : e ∈ es ∨ (e.1 = k ∧ e.2.2 = v ∧ (e.2.1 = b ∨ ∃ e' ∈ es, e'.1 = k ∧ e'.2.1 = e.2.1)) := by
  unfold putT at h
  split at h
  · obtain ⟨p, hp, rfl⟩ := List.mem_map.mp h
    by_cases q : p.1 = k
    · rw [if_pos q]
      exact .inr ⟨q, rfl, .inr ⟨p, hp, q, rfl⟩⟩
    · rw [if_neg q]; exact .inl hp
  · rcases List.mem_append.mp h with q | q
    · exact .inl q
    · rw [List.mem_singleton] at q; subst q
      exact .inr ⟨rfl, rfl, .inl rfl⟩
theorem putT_len {k : Str × Str} {b : Nat} {v : AV} {es : KE} : (putT k b v es).length ≤ es.length + 1 ∧ 0 < (putT k b v es).length := by
  unfold putT
  split
  · rename_i hq
    simp only [List.length_map]
    refine ⟨by lia, ?_⟩
    cases es with
    | nil => simp at hq
    | cons _ _ => simp
  · simp
theorem setKn {h : List AO} {l : Str → Option AV} {es : KE} {b : Nat} {k : Str × Str} {v : AV} (kn : h[7]? = some (knAO es)) (hb : h[b]? = some (.tup [.str k.1, .str k.2])) (hl : es.length ≤ szMax) : setItem (.ref 7) (.ref b) v ⟨h, l⟩ = some ⟨h.set 7 (knAO (putT k b v es)), l⟩ := by
  have hk : keyT h b = some k := key_at hb
  show (keyT h b).bind _ = _
  rw [hk]
  show setT 7 b k v ⟨h, l⟩ = _
  unfold setT
  cases es with
  | nil =>
    simp only [kn, knAO]
    rfl
  | cons e es =>
    have hne : knAO (putT k b v (e :: es)) = .tdict (putT k b v (e :: es)) false := by
      have := (putT_len (k := k) (b := b) (v := v) (es := e :: es)).2
      cases q : putT k b v (e :: es) with
      | nil => rw [q] at this; simp at this
      | cons _ _ => rfl
    rw [hne]
    simp only [kn, knAO, hl, and_self, if_true]
    rfl
end
end Mine.L
end
section
namespace Mine.L
section
variable {pd : Nat} {Γ : Nat → Option TI} {Δ : Nat → Option OI} {ex : Nat → Int} {cnt : Nat} {B : Int} {es : KE} {h h' : List AO}
theorem Inv.big (I : Inv pd Γ Δ ex cnt B es h) : 42 ≤ h.length := by
  obtain ⟨t, e⟩ := I.bas 39 (by simp [basics])
  have := I.W.ltT 39 t e; lia
theorem new_inv (I : Inv pd Γ Δ ex cnt B es h) (hpd : Γ pd = none) (hc : cnt < 60) {h2 : List AO} {t : TI} {x : TX} {es' : KE} (u : Up [5, 7] h h2) (hl : h.length + 5 ≤ h2.length) (H : IsTy h2 (h.length + 1) t x 0) (h1 : t.fs = []) (h2' : t.ps = []) (h3 : t.base = none) (h4 : t.num = cnt + 1) (h5 : 0 ≤ t.size ∧ t.size ≤ B)
    (e5 : h2[5]? = some (.flds (tsF (cnt + 1 : Nat)))) (e7 : h2[7]? = some (knAO es')) (ks' : ∀ e ∈ es', h2[e.2.1]? = some (.tup [.str e.1.1, .str e.1.2]) ∧ ∃ a u, e.2.2 = .ref a ∧ updT Γ (h.length + 1) t a = some u ∧ u.mod = e.1.1) (kl' : es'.length ≤ cnt + 1) :
    Inv (h.length + 1) (updT Γ (h.length + 1) t) Δ (set1 ex (h.length + 1) 0) (cnt + 1) B es' h2 := by
  have hb := I.big
  have hn : Γ (h.length + 1) = none := I.noT (by lia)
  have W0 : Wd h2.length Γ Δ ex nm00 h2 := (I.W.frame8 I.lo I.loO fun j q1 q2 => u.2 j q2 (by simp; lia)).wider u.1
  refine ⟨W0.newTy H (by lia) hn, I.G.newTy hn h1 h2' h3 h4 hc (fun q => absurd rfl q) hpd, fun a s e => ?_, fun a s e => ?_, I.loO, ?_, u.get I.c0 (by simp), u.get I.c1 (by simp), e5, u.get I.t6 (by simp), e7, ks', kl', fun b hb' => updT_some (I.bas b hb'), fun a s e hm => ?_, I.B4⟩
  · by_cases q : a = h.length + 1
    · subst q; rw [updT_self] at e; cases e; exact h5
    · rw [updT_ne _ _ q] at e; exact I.sz a s e
  · by_cases q : a = h.length + 1
    · lia
    · rw [updT_ne _ _ q] at e; exact I.lo a s e
  · obtain ⟨c, i, v, s, e3, cl, e4, hi, hv⟩ := I.hd.ok
    exact ⟨c, i, v, s, u.get e3 (by simp), cl, u.get e4 (by simp), hi, hv⟩
  · by_cases q : a = h.length + 1
    · simp [set1, q]
    · rw [updT_ne _ _ q] at e
      simp only [set1, q, if_false]; exact I.zero a s e hm
theorem new_ok (I : Inv pd Γ Δ ex cnt B es h) (hpd : Γ pd = none) (hc : cnt < 60) {form mod label : Str} {size : Int} (hs : 0 ≤ size ∧ size ≤ B) (hlab : label ≠ S! "") {m : Nat} (hm : 6 ≤ m) :
    ∃ h2 es', Call m 9 [.ref 6, .str form, .int size, .str mod, .str label] h (.ref (h.length + 1)) h2 ∧ Up [5, 7] h h2 ∧ h.length + 5 ≤ h2.length ∧ Inv (h.length + 1) (updT Γ (h.length + 1) ⟨cnt + 1, form, none, [], [], mod, size⟩) Δ (set1 ex (h.length + 1) 0) (cnt + 1) B es' h2 ∧ es' ≠ [] := by
  obtain ⟨n, rfl⟩ := ge_ex (show 6 ≤ m by assumption)
  have hb := I.big
  let t : TI := ⟨cnt + 1, form, none, [], [], mod, size⟩
  let g := h.set 5 (.flds (tsF (cnt + 1)))
  have gl : g.length = h.length := by simp [g]
  let h1 := g ++ blk (h.length + 1) t ⟨0, 0, label⟩
  have h1l : h1.length = h.length + 5 := by simp [h1, gl, blk]
  let T : AO := .tup [.str mod, .str label]
  let es' := putT (mod, label) (h.length + 5) (.ref (h.length + 1)) es
  let h2 := (h1 ++ [T]).set 7 (knAO es')
  have h2l : h2.length = h.length + 6 := by simp [h2, h1l]
  have e7 : (h1 ++ [T])[7]? = some (knAO es) := (get_lt (by (clear_value *; lia))).trans ((get_lt (by (clear_value *; lia))).trans ((get_set_ne (by decide)).trans I.kn))
  have U : Up [5, 7] h h2 := (((((Up.refl _ _).set (.inl (by simp))).appR _).appR _).set (.inl (by simp)))
  have HT : IsTy h2 (h.length + 1) t ⟨0, 0, label⟩ 0 := by
    have := isTy_blk (h := g) (t := t) (x := ⟨0, 0, label⟩) rfl rfl [T]
    rw [gl] at this
    have e : h1 ++ [T] = g ++ (blk (h.length + 1) t ⟨0, 0, label⟩ ++ [T]) := by simp [h1]
    rw [← e] at this
    exact this.frame fun j q1 q2 => get_set_ne (by (clear_value *; lia))
  have hT : h2[h.length + 5]? = some T := by
    rw [← h1l]; exact (get_set_ne (by (clear_value *; lia))).trans get_app0
  refine mkE2 h2 es' ⟨fun l => ?_, U, by (clear_value *; lia), new_inv I hpd hc U (by (clear_value *; lia)) HT rfl rfl rfl rfl hs ?_ (get_set e7) (fun e he => ?_) ?_, ?_⟩
  · rw [fn9]
    let l0 := env [(S! "self", .ref 6), (S! "form", .str form), (S! "size", .int size), (S! "module", .str mod), (S! "label", .str label)]
    let lm := upd l0 (S! "made") (.ref (h.length + 1))
    apply frun_ret' (l' := lm)
    unfold B9
    rw [new_first (form := form) (mod := mod) (label := label) (size := size) I.t5 I.t6 (by (clear_value *; lia)) (by kernel_rfl!) (by kernel_rfl!) (by kernel_rfl!) (by kernel_rfl!) (by kernel_rfl!)]
    have q1 : var (S! "label") ⟨h1, lm⟩ = some (.str label, ⟨h1, lm⟩) := by kernel_rfl!
    have q2 : var (S! "self") ⟨h1, lm⟩ = some (.ref 6, ⟨h1, lm⟩) := by kernel_rfl!
    have q3 : var (S! "module") ⟨h1, lm⟩ = some (.str mod, ⟨h1, lm⟩) := by kernel_rfl!
    have q4 : var (S! "made") ⟨h1, lm⟩ = some (.ref (h.length + 1), ⟨h1, lm⟩) := by kernel_rfl!
    have hne : (label == S! "") = false := beq_eq_false_iff_ne.mpr hlab
    have t51 : h1[5]? = some (.flds (tsF (cnt + 1))) := (get_lt (by (clear_value *; lia))).trans (get_set I.t5)
    have t61 : h1[6]? = some (.inst 3 5) := (get_lt (by (clear_value *; lia))).trans ((get_set_ne (by decide)).trans I.t6)
    have hT1 : (h1 ++ [T])[h1.length]? = some (.tup [.str (mod, label).1, .str (mod, label).2]) := get_app0
    rw [show (⟨h.set 5 (.flds (tsF (cnt + 1))) ++ blk (h.length + 1) ⟨cnt + 1, form, none, [], [], mod, size⟩ ⟨0, 0, label⟩, upd (env [(Str.ofString "self", AV.ref 6), (Str.ofString "form", AV.str form), (Str.ofString "size", AV.int size), (Str.ofString "module", AV.str mod), (Str.ofString "label", AV.str label)]) (S! "made") (AV.ref (h.length + 1))⟩ : St) = ⟨h1, lm⟩ from rfl]
    rw [seq_next (σ' := ⟨h2, lm⟩) (by
      rw [iff_ap, tcmp_ap, q1]
      simp only [Option.bind_some, lit_ap, c_ne, b_str, hne, Option.map_some, Bool.not_false, brS_t]
      rw [seq_next (σ' := ⟨h2, lm⟩) (by
        rw [seti_ap, q4]
        simp only [Option.bind_some, asgI_ap, att_ap, q2, ts_rd t51 t61, Option.map_some, tupE_ap, evl_cons, evl_nil, q3, q1]
        rw [setKn (k := (mod, label)) e7 hT1 (by have := I.kl; rw [szm]; (clear_value *; lia))]
        simp only [h1l]
        rfl)]
      rfl)]
    apply seq_ret
    simp only [var_ap, upd_ap, if_true, Option.map_some, sRet_ap, lm]
  · have : h2[5]? = some (.flds (tsF (cnt + 1))) := (get_set_ne (by decide)).trans ((get_lt (by (clear_value *; lia))).trans ((get_lt (by (clear_value *; lia))).trans (get_set I.t5)))
    rw [this]; rfl
  · have old : ∀ e ∈ es, h2[e.2.1]? = some (.tup [.str e.1.1, .str e.1.2]) := fun e he => by
      have q := (I.ks e he).1
      refine U.get q ?_
      intro hm
      simp at hm
      rcases hm with hm | hm
      · rw [hm, I.t5] at q; cases q
      · rw [hm, I.kn] at q
        cases hes : es <;> (rw [hes] at q; simp [knAO] at q)
    rcases putT_mem he with q | ⟨q1, q2, q3⟩
    · refine ⟨old e q, ?_⟩
      obtain ⟨a, u, z1, z2, z3⟩ := (I.ks e q).2
      exact ⟨a, u, z1, by rw [updT_ne _ _ (by rintro rfl; rw [I.noT (by (clear_value *; lia))] at z2; cases z2)]; exact z2, z3⟩
    · refine ⟨?_, h.length + 1, t, q2, updT_self _ _ _, by rw [q1]⟩
      rcases q3 with q3 | ⟨e', he', z1, z2⟩
      · rw [q3, q1]; exact hT
      · rw [← z2, q1, ← z1]; exact old e' he'
  · have := (putT_len (k := (mod, label)) (b := h.length + 5) (v := .ref (h.length + 1)) (es := es)).1
    have := I.kl; show (putT _ _ _ _).length ≤ _; (clear_value *; lia)
  · have := (putT_len (k := (mod, label)) (b := h.length + 5) (v := .ref (h.length + 1)) (es := es)).2
    intro q
    have q : putT (mod, label) (h.length + 5) (.ref (h.length + 1)) es = [] := q
    rw [q] at this; simp at this
theorem Inv.modTy (I : Inv pd Γ Δ ex cnt B es h) {a : Nat} {t t' : TI} {x x' : TX} {v : Int} (e : Γ a = some t) (H : IsTy h a t x (ex a)) (H' : IsTy h' a t' x' v) (hl : h'.length = h.length) (k : ∀ j, j ≠ a - 1 → j ≠ a + 1 → j ≠ a + 2 → h'[j]? = h[j]?)
    (h1 : ∀ f ∈ t'.fs, ∃ o, Δ f = some o) (h2 : ∀ f ∈ t'.ps, ∃ o, Δ f = some o) (h3 : t'.fs.length ≤ 3) (h4 : t'.ps.length ≤ 3)
    (h5 : ∀ b, t'.base = some b → ∃ u, Γ b = some u ∧ u.num < t'.num) (h6 : t'.num = t.num) {pd' : Nat} (h7 : a ≠ pd' → t'.form = S! "array" ∨ t'.form = S! "pointer" ∨ t'.form = S! "proc" → ∃ b, t'.base = some b) (h8 : pd = pd' ∨ pd = a ∨ Γ pd = none)
    (h9 : t'.mod = t.mod) {B' : Int} (hB : B ≤ B') (h10 : 0 ≤ t'.size ∧ t'.size ≤ B') (h11 : t'.mod = S! "M" → v = 0) : Inv pd' (updT Γ a t') Δ (set1 ex a v) cnt B' es h' := by
  have la := I.lo a t e
  have ne : ∀ {j : Nat} {o : AO}, h[j]? = some o → j ≠ a - 1 → (∀ xs, o ≠ .list xs) → h'[j]? = some o := fun {j o} q1 q2 q3 => by
    rw [k j q2 ?_ ?_]; exact q1
    · rintro rfl; rw [H.fs] at q1; exact q3 _ (Option.some.inj q1).symm
    · rintro rfl; rw [H.ps] at q1; exact q3 _ (Option.some.inj q1).symm
  have lowk : ∀ j, j ≤ 7 → h'[j]? = h[j]? := fun j hj => k j (by lia) (by lia) (by lia)
  refine ⟨hl ▸ I.W.modTy e H H' k, I.G.modTy e h1 h2 h3 h4 h5 h6 h7 h8, fun b u q => ?_, fun b u q => ?_, I.loO, ?_, (lowk 0 (by lia)).trans I.c0, (lowk 1 (by lia)).trans I.c1, (lowk 5 (by lia)).trans I.t5, (lowk 6 (by lia)).trans I.t6, (lowk 7 (by lia)).trans I.kn, fun p hp => ⟨?_, ?_⟩, I.kl, fun b hb => updT_some (I.bas b hb), fun b u q hm => ?_, Int.le_trans I.B4 hB⟩
  · by_cases hb : b = a
    · subst hb; rw [updT_self] at q; cases q; exact h10
    · rw [updT_ne _ _ hb] at q; exact ⟨(I.sz b u q).1, Int.le_trans (I.sz b u q).2 hB⟩
  · by_cases hb : b = a
    · lia
    · rw [updT_ne _ _ hb] at q; exact I.lo b u q
  · obtain ⟨c, i, v, s, e3, cl, e4, hi, hv⟩ := I.hd.ok
    exact ⟨c, i, v, s, (lowk 3 (by lia)).trans e3, cl, (lowk 4 (by lia)).trans e4, hi, hv⟩
  · have q := (I.ks p hp).1
    refine ne q ?_ (by simp)
    intro hj
    rw [hj, H.flds] at q; cases q
  · obtain ⟨b, u, z1, z2, z3⟩ := (I.ks p hp).2
    by_cases hb : b = a
    · subst hb
      rw [e] at z2; cases z2
      exact ⟨b, t', z1, updT_self _ _ _, by rw [h9]; exact z3⟩
    · exact ⟨b, u, z1, by rw [updT_ne _ _ hb]; exact z2, z3⟩
  · by_cases hb : b = a
    · subst hb; rw [updT_self] at q; cases q; simp [set1, h11 hm]
    · rw [updT_ne _ _ hb] at q
      simp only [set1, hb, if_false]; exact I.zero b u q hm
theorem Inv.modOb (I : Inv pd Γ Δ ex cnt B es h) {a : Nat} {o o' : OI} {x x' : OX} (e : Δ a = some o) (H : IsOb h a o x 0) (ht : ∃ u, Γ o'.ty = some u) : Inv pd Γ (updT Δ a o') ex cnt B es (h.set (a - 1) (.flds (obF o' x' 0))) := by
  have la := I.loO a o e
  have lowk : ∀ j, j ≤ 7 → (h.set (a - 1) (.flds (obF o' x' 0)))[j]? = h[j]? := fun j hj => get_set_ne (by lia)
  have W := I.W.modOb (nm := nm00) (v := 0) e H (H.put (o' := o') (x' := x') (nm' := 0)) (fun j hj => get_set_ne (fun q => hj q.symm))
  rw [nm00_set] at W
  refine ⟨by simpa using W, I.G.setOb ht, I.sz, I.lo, fun b p q => ?_, ?_, (lowk 0 (by lia)).trans I.c0, (lowk 1 (by lia)).trans I.c1, (lowk 5 (by lia)).trans I.t5, (lowk 6 (by lia)).trans I.t6, (lowk 7 (by lia)).trans I.kn, fun p hp => ⟨?_, (I.ks p hp).2⟩, I.kl, I.bas, I.zero, I.B4⟩
  · by_cases hb : b = a
    · lia
    · rw [updT_ne _ _ hb] at q; exact I.loO b p q
  · obtain ⟨c, i, v, s, e3, cl, e4, hi, hv⟩ := I.hd.ok
    exact ⟨c, i, v, s, (lowk 3 (by lia)).trans e3, cl, (lowk 4 (by lia)).trans e4, hi, hv⟩
  · have q := (I.ks p hp).1
    rw [get_set_ne]; exact q
    intro hj
    rw [← hj, H.flds] at q; cases q
theorem Inv.newOb (I : Inv pd Γ Δ ex cnt B es h) {o : OI} {x : OX} (ht : ∃ u, Γ o.ty = some u) : Inv pd Γ (updT Δ (h.length + 1) o) ex cnt B es (h ++ [.flds (obF o x 0), .inst 2 h.length]) := by
  have hb := I.big
  have I2 := I.app [.flds (obF o x 0), .inst 2 h.length]
  have H : IsOb (h ++ [.flds (obF o x 0), .inst 2 h.length]) (h.length + 1) o x 0 := ⟨by lia, get_app 1, get_app0⟩
  have hn : Δ (h.length + 1) = none := I.noO (by lia)
  have W := I2.W.newOb H (by simp) hn
  rw [nm00_set] at W
  refine ⟨W, I2.G.setOb ht, I2.sz, I2.lo, fun b p q => ?_, I2.hd, I2.c0, I2.c1, I2.t5, I2.t6, I2.kn, I2.ks, I2.kl, I2.bas, I2.zero, I2.B4⟩
  by_cases hb' : b = h.length + 1
  · lia
  · rw [updT_ne _ _ hb'] at q; exact I.loO b p q
theorem mkOb_ok {l : Str → Option AV} {n : Nat} {args : List SE} {σ : St} {name kind : Str} {ty : Nat} (he : evl args σ = some ([.str name, .str kind, .ref ty, .int 0], ⟨h, l⟩)) (hl : 0 < h.length) {m : Nat} (hm : 3 ≤ m) :
    newc ((run theQ m).fn) 2 7 args σ = some (.ref (h.length + 1), ⟨h ++ [.flds (ob0 name kind ty), .inst 2 h.length], l⟩) := by
  rw [newc_ap he (by intro q; have := congrArg List.length q; rw [List.length_nil] at this; simp only at this; lia)]
  simp only [init7 (h := h) hm l, Option.bind_some]
end
end Mine.L
end
section
namespace Mine.L
section
variable {Γ : Nat → Option TI} {Δ : Nat → Option OI} {ex : Nat → Int} {cnt : Nat} {B : Int} {es : KE} {h h' : List AO}
theorem updT_id {α : Type} {Γ : Nat → Option α} {a : Nat} {t : α} (e : Γ a = some t) : updT Γ a t = Γ := by
  funext b; unfold updT; split
  · rename_i q; rw [q, e]
  · rfl
theorem Inv.modOx (I : Inv 0 Γ Δ ex cnt B es h) {a : Nat} {o : OI} {x x' : OX} (e : Δ a = some o) (H : IsOb h a o x 0) : Inv 0 Γ Δ ex cnt B es (h.set (a - 1) (.flds (obF o x' 0))) := by
  have := I.modOb (o' := o) (x' := x') e H (I.G.oty a o e)
  rwa [updT_id e] at this
theorem Inv.modTx (I : Inv 0 Γ Δ ex cnt B es h) {a : Nat} {t : TI} {x x' : TX} (e : Γ a = some t) (H : IsTy h a t x (ex a)) : Inv 0 Γ Δ ex cnt B es (h.set (a - 1) (.flds (tyF a t x' (ex a)))) := by
  have hp := H.pos
  have := I.modTy (t' := t) (x' := x') (v := ex a) (h' := h.set (a - 1) (.flds (tyF a t x' (ex a)))) (pd' := 0) (B' := B) e H (H.put rfl rfl) (by simp) (fun j q _ _ => get_set_ne (fun q2 => q q2.symm)) (I.G.fs a t e) (I.G.ps a t e) (I.G.fsl a t e) (I.G.psl a t e) (fun b hb => I.G.base a t b e hb) rfl (fun q => I.G.has a t e q) (.inl rfl) rfl (Int.le_refl _) (I.sz a t e) (I.zero a t e)
  rwa [updT_id e, set1_same] at this
theorem Inv.put {pd : Nat} (I : Inv pd Γ Δ ex cnt B es h) {j : Nat} {old o : AO} (hj : h[j]? = some old) (h8 : 8 ≤ j) (nt : ∀ xs, old ≠ .tup xs) (free : ∀ a t, Γ a = some t → j < a - 1 ∨ a + 2 < j) (freeO : ∀ a p, Δ a = some p → j < a - 1 ∨ a < j) : Inv pd Γ Δ ex cnt B es (h.set j o) := by
  refine ⟨?_, I.G, I.sz, I.lo, I.loO, ?_, (get_set_ne (by lia)).trans I.c0, (get_set_ne (by lia)).trans I.c1, (get_set_ne (by lia)).trans I.t5, (get_set_ne (by lia)).trans I.t6, (get_set_ne (by lia)).trans I.kn, fun e he => ⟨?_, (I.ks e he).2⟩, I.kl, I.bas, I.zero, I.B4⟩
  · refine ⟨fun a t e => ?_, fun a p e => ?_, fun a t e => by simpa using I.W.ltT a t e, fun a p e => by simpa using I.W.ltO a p e⟩
    · obtain ⟨x, H⟩ := I.W.ty a t e
      exact ⟨x, H.frame fun i h1 h2 => get_set_ne (by rcases free a t e with q | q <;> lia)⟩
    · obtain ⟨x, H⟩ := I.W.ob a p e
      exact ⟨x, H.frame fun i h1 h2 => get_set_ne (by rcases freeO a p e with q | q <;> lia)⟩
  · obtain ⟨c, i, v, s, e3, cl, e4, hi, hv⟩ := I.hd.ok
    exact ⟨c, i, v, s, (get_set_ne (by lia)).trans e3, cl, (get_set_ne (by lia)).trans e4, hi, hv⟩
  · have q := (I.ks e he).1
    rw [get_set_ne]; exact q
    rintro rfl
    rw [hj] at q
    exact nt _ (Option.some.inj q)
noncomputable def itLike : AO → Bool
  | .liter _ _ => true
  | .riter _ _ => true
  | .junk => true
  | _ => false
theorem Inv.setK {pd : Nat} (I : Inv pd Γ Δ ex cnt B es h) {j : Nat} {old o : AO} (hj : h[j]? = some old) (hi : itLike old = true) (h8 : 8 ≤ j) : Inv pd Γ Δ ex cnt B es (h.set j o) := by
  refine I.put hj h8 (fun xs q => by rw [q] at hi; cases hi) (fun a t e => ?_) (fun a p e => ?_)
  · refine cps fun C kont => ?_
    obtain ⟨x, H⟩ := I.W.ty a t e
    have hp := H.pos
    have : j < a - 1 ∨ a + 2 < j ∨ j = a - 1 ∨ j = a ∨ j = a + 1 ∨ j = a + 2 := at6
    rcases this with q | q | rfl | rfl | rfl | rfl
    · refine kont ?_
      exact .inl q
    · refine kont ?_
      exact .inr q
    · refine kont ?_
      rw [H.flds] at hj; cases hj; cases hi
    · refine kont ?_
      rw [H.inst] at hj; cases hj; cases hi
    · refine kont ?_
      rw [H.fs] at hj; cases hj; cases hi
    · refine kont ?_
      rw [H.ps] at hj; cases hj; cases hi
  · refine cps fun C kont => ?_
    obtain ⟨x, H⟩ := I.W.ob a p e
    have hp := H.pos
    have : j < a - 1 ∨ a < j ∨ j = a - 1 ∨ j = a := at3
    rcases this with q | q | rfl | rfl
    · refine kont ?_
      exact .inl q
    · refine kont ?_
      exact .inr q
    · refine kont ?_
      rw [H.flds] at hj; cases hj; cases hi
    · refine kont ?_
      rw [H.inst] at hj; cases hj; cases hi
theorem Inv.low {pd : Nat} (I : Inv pd Γ Δ ex cnt B es h) {j : Nat} {b k : Nat} (hj : h[j]? = some (.liter b k)) : 8 ≤ j ∨ j = 2 := by
  refine cps fun C kont => ?_
  by_cases q : 8 ≤ j
  · refine kont ?_
    exact .inl q
  · obtain ⟨c, i, v, s, e3, cl, e4, hi, hv⟩ := I.hd.ok
    have := lt8 j (Nat.lt_of_not_le q)
    rcases this with rfl | rfl | rfl | rfl | rfl | rfl | rfl | rfl
    · refine kont ?_
      rw [I.c0] at hj; cases hj
    · refine kont ?_
      rw [I.c1] at hj; cases hj
    · refine kont ?_
      exact .inr rfl
    · refine kont ?_
      rw [e3] at hj; cases hj
    · refine kont ?_
      rw [e4] at hj; cases hj
    · refine kont ?_
      rw [I.t5] at hj; cases hj
    · refine kont ?_
      rw [I.t6] at hj; cases hj
    · refine kont ?_
      rw [I.kn] at hj; cases hes : es <;> (rw [hes] at hj; simp [knAO] at hj)
theorem align_loop (I : Inv 0 Γ Δ ex cnt B es h) : ∀ (k a : Nat) (t : TI) (l : Str → Option AV) (m : Nat), Γ a = some t → t.num ≤ (k : Int) → k < m → l (S! "t") = some (.ref a) →
    ∃ a' t' l', whileN (tcmp .Eq (att (var (S! "t")) (S! "form")) (lit (.str (S! "array")))) (seq L12_0) m ⟨h, l⟩ = some (.next, ⟨h, l'⟩) ∧ Γ a' = some t' ∧ l' (S! "t") = some (.ref a') := by
  have G := I.gr
  intro k
  induction k with
  | zero => intro a t l m e hn; have := (G.num a t e).1; lia
  | succ k ih =>
    intro a t l m e hn hm lt
    obtain ⟨m, rfl⟩ : ∃ m', m = m' + 1 := ⟨m - 1, by lia⟩
    have RT := (I.W.ty a t e).choose_spec.rd
    have ht : tcmp .Eq (att (var (S! "t")) (S! "form")) (lit (.str (S! "array"))) ⟨h, l⟩ = some (t.form == S! "array", ⟨h, l⟩) := by
      simp only [tcmp_ap, att_ap, var_ap, lt, Option.map_some, Option.bind_some, RT, lit_ap, c_eq, s_str]
    unfold whileN
    rw [ht]
    by_cases h1 : t.form = S! "array"
    · refine cps fun C kont => ?_
      obtain ⟨b, hb⟩ := G.has a t e (.inl h1)
      obtain ⟨u, hu, hlt⟩ := G.base a t b e hb
      obtain ⟨a', t', l', e1, e2, e3⟩ := ih b u (upd l (S! "t") (.ref b)) m hu (by lia) (by lia) (by kernel_rfl!)
      refine kont ?_
      refine ⟨a', t', l', ?_, e2, e3⟩
      simp only [h1, beq_self_eq_true, Option.bind_some, if_true]
      unfold L12_0
      rw [seq_next (σ' := ⟨h, upd l (S! "t") (.ref b)⟩) (by simp only [setl_ap, att_ap, var_ap, lt, Option.map_some, Option.bind_some, RT, hb, bv])]
      simp only [seq_nil, Option.bind_some]
      exact e1
    · have : (t.form == S! "array") = false := beq_eq_false_iff_ne.mpr h1
      exact ⟨a, t, l, by simp only [this, Option.bind_some, Bool.false_eq_true, if_false], e, lt⟩
theorem align12 (I : Inv 0 Γ Δ ex cnt B es h) {a : Nat} {t : TI} (e : Γ a = some t) {m : Nat} (hm : 6 ≤ m) : ∃ X s, Call m 12 [.ref a] h (.int s) (h ++ X) ∧ (s = 1 ∨ s = 4) := by
  obtain ⟨n, rfl⟩ := ge_ex (show 6 ≤ m by assumption)
  have G := I.gr
  refine ex3_3 (align_loop I 1000 a t (env [(S! "t", .ref a)]) loops e (by have := (G.num a t e).2; have := G.small; lia) (by unfold loops; lia) (by kernel_rfl!)) fun a' t' l' e1 e2 e3 => ?_
  have RT := (I.W.ty a' t' e2).choose_spec.rd
  let T : AO := .tup [.str (S! "boolean"), .str (S! "char"), .str (S! "byte")]
  have hin : ∃ b, tcmp .In (att (var (S! "t")) (S! "form")) (tupE [lit (.str (S! "boolean")), lit (.str (S! "char")), lit (.str (S! "byte"))]) ⟨h, l'⟩ = some (b, ⟨h ++ [T], l'⟩) := by
    have : ∃ b, inB (h ++ [T]) (.str t'.form) (.ref h.length) = some b := by
      exact ⟨_, (in_tup (xs := [.str (S! "boolean"), .str (S! "char"), .str (S! "byte")]) get_app0 (by rw [szm]; exact Nat.le_of_ble_eq_true rfl)).trans rfl⟩
    obtain ⟨b, hb⟩ := this
    refine ⟨b, ?_⟩
    simp only [tcmp_ap, att_ap, var_ap, e3, Option.map_some, Option.bind_some, RT, tupE_ap, evl_cons, evl_nil, lit_ap, c_in]
    simp only [T] at hb ⊢
    rw [hb]; rfl
  obtain ⟨b, hin⟩ := hin
  refine mkE2 ([T]) (if b then 1 else 4) ⟨fun l => ?_, by cases b <;> simp⟩
  rw [fn12]
  apply frun_ret' (l' := l')
  unfold B12
  rw [seq_next (σ' := ⟨h, l'⟩) (by rw [whl_ap]; exact e1)]
  apply seq_ret
  rw [sRet_ap, ifE_ap, hin]
  cases b <;> rfl
theorem fdiv4 (x : Int) : Int.fdiv x 4 = x / 4 := by rw [Int.fdiv_eq_ediv_of_nonneg _ (by lia)]
theorem fdiv1 (x : Int) : Int.fdiv x 1 = x := by rw [Int.fdiv_eq_ediv_of_nonneg _ (by lia)]; lia
theorem align13 (I : Inv 0 Γ Δ ex cnt B es h) {a : Nat} {t : TI} (e : Γ a = some t) (o : Int) {m : Nat} (hm : 9 ≤ m) : ∃ X r, Call m 13 [.int o, .ref a] h (.int r) (h ++ X) ∧ o ≤ r ∧ r ≤ o + 3 := by
  refine cps fun C kont => ?_
  obtain ⟨n, rfl⟩ := ge_ex (show 9 ≤ m by assumption)
  refine ex2_2 (align12 I e (show 6 ≤ n + 6 from Nat.le_add_left 6 n)) fun X s c1 hs => ?_
  let r := Int.fdiv (o + s - 1) s * s
  have hs2 : 0 < s ∧ s < 2 ^ 60 ∧ s.natAbs < 2 ^ 60 := by rcases hs with rfl | rfl <;> decide
  refine kont ?_
  refine mk2_3 X r (fun l => ?_) ?_ ?_
  · rw [fn13]
    let l0 := env [(S! "offset", .int o), (S! "t", .ref a)]
    apply frun_ret' (l' := upd l0 (S! "step") (.int s))
    unfold B13
    rw [seq_next (σ' := ⟨h ++ X, upd l0 (S! "step") (.int s)⟩) (by
      have q : var (S! "t") ⟨h, l0⟩ = some (.ref a, ⟨h, l0⟩) := by kernel_rfl!
      show setl _ _ ⟨h, l0⟩ = _
      simp only [setl_ap, callf_ap, evl_cons, evl_nil, q, Option.bind_some, c1 l0])]
    apply seq_ret
    have q1 : var (S! "offset") ⟨h ++ X, upd l0 (S! "step") (.int s)⟩ = some (.int o, ⟨h ++ X, upd l0 (S! "step") (.int s)⟩) := by kernel_rfl!
    have q2 : var (S! "step") ⟨h ++ X, upd l0 (S! "step") (.int s)⟩ = some (.int s, ⟨h ++ X, upd l0 (S! "step") (.int s)⟩) := by kernel_rfl!
    simp only [sRet_ap, bino_ap, q1, q2, lit_ap, Option.bind_some, add_int, sub_int, mul_int, div_int, hs2, and_self, if_true, Option.map_some, r]
  · show o ≤ Int.fdiv (o + s - 1) s * s
    rcases hs with rfl | rfl
    · rw [fdiv1]; lia
    · rw [fdiv4]; lia
  · show Int.fdiv (o + s - 1) s * s ≤ o + 3
    rcases hs with rfl | rfl
    · rw [fdiv1]; lia
    · rw [fdiv4]; lia
theorem words14 (o : Int) {m : Nat} (hm : 6 ≤ m) : ∃ r, Call m 14 [.int o] h (.int r) h ∧ o ≤ r ∧ r ≤ o + 3 := by
  obtain ⟨n, rfl⟩ := ge_ex (show 6 ≤ m by assumption)
  refine ⟨Int.fdiv (o + 3) 4 * 4, fun l => ?_, by rw [fdiv4]; lia, by rw [fdiv4]; lia⟩
  rw [fn14]
  apply frun_ret' (l' := env [(S! "size", .int o)])
  unfold B14
  apply seq_ret
  have q1 : var (S! "size") ⟨h, env [(S! "size", .int o)]⟩ = some (.int o, ⟨h, env [(S! "size", .int o)]⟩) := by kernel_rfl!
  simp only [sRet_ap, bino_ap, q1, lit_ap, Option.bind_some, add_int, mul_int, div_int, show (0 : Int) < 4 from by decide, show (4 : Int) < 2 ^ 60 from by decide, and_self, if_true, show (4 : Int).natAbs < 2 ^ 60 from by decide, Option.map_some]
theorem place_ok (I : Inv 0 Γ Δ ex cnt B es h) (hB : B ≤ 2 ^ 40) {a : Nat} {t : TI} (e : Γ a = some t) {m : Nat} (hm : 13 ≤ m) :
    ∃ h' s, Call m 15 [.ref a] h .none h' ∧ Up ((a - 1) :: t.fs.map (· - 1)) h h' ∧ Inv 0 (updT Γ a { t with size := s }) Δ ex cnt (8 * B) es h' := by
  refine cps fun C kont => ?_
  obtain ⟨n, rfl⟩ := ge_ex (show 13 ≤ m by assumption)
  have G := I.gr
  have b4 := I.B4
  let S := (a - 1) :: t.fs.map (· - 1)
  let l0 := env [(S! "record", .ref a)]
  obtain ⟨x, HT⟩ := I.W.ty a t e
  have start : ∃ g off l1, (∀ rest, seq (setl (S! "offset") (lit (.int 0)) :: seta (var (S! "record")) (S! "level") (lit (.int 0)) :: iff' (tcmp .IsNot (att (var (S! "record")) (S! "base")) (lit .none)) [setl (S! "offset") (att (att (var (S! "record")) (S! "base")) (S! "size")), seta (var (S! "record")) (S! "level") (bino .Add (att (att (var (S! "record")) (S! "base")) (S! "level")) (lit (.int 1)))] [] :: rest) ⟨h, l0⟩
      = seq rest ⟨g, l1⟩) ∧ Up S h g ∧ Inv 0 Γ Δ ex cnt B es g ∧ 0 ≤ off ∧ off ≤ B ∧ l1 (S! "record") = some (.ref a) ∧ l1 (S! "offset") = some (.int off) := by
    refine cps fun C kont => ?_
    let la := upd l0 (S! "offset") (.int 0)
    have lar : la (S! "record") = some (.ref a) := by kernel_rfl!
    let g1 := h.set (a - 1) (.flds (tyF a t { x with level := 0 } (ex a)))
    have I1 : Inv 0 Γ Δ ex cnt B es g1 := I.modTx e HT
    have H1 : IsTy g1 a t { x with level := 0 } (ex a) := HT.put rfl rfl
    have U1 : Up S h g1 := (Up.refl _ _).set (.inl (by simp [S]))
    have two : ∀ rest, seq (setl (S! "offset") (lit (.int 0)) :: seta (var (S! "record")) (S! "level") (lit (.int 0)) :: rest) ⟨h, l0⟩ = seq rest ⟨g1, la⟩ := fun rest => by
      rw [seq_next (σ' := ⟨h, la⟩) (by rw [setl_ap, lit_ap]; rfl)]
      rw [seq_next (σ' := ⟨g1, la⟩) (by simp only [seta_ap, lit_ap, asgA_ap, var_ap, lar, Option.map_some, Option.bind_some, HT.wr]; rfl)]
    cases hb : t.base with
    | none =>
      refine kont ?_
      refine mkE3 g1 0 la ⟨fun rest => ?_, U1, I1, by lia, by lia, lar, by simp only [upd_ap, if_true, la]⟩
      rw [two, seq_next (σ' := ⟨g1, la⟩) (by
        simp only [iff_ap, tcmp_ap, att_ap, var_ap, lar, Option.map_some, Option.bind_some, H1.rd, hb, bv, lit_ap, c_isn0, brS_f]
        rfl)]
    | some b =>
      obtain ⟨u, hu, _⟩ := G.base a t b e hb
      obtain ⟨y, HU⟩ := I1.W.ty b u hu
      let lb := upd la (S! "offset") (.int u.size)
      have lbr : lb (S! "record") = some (.ref a) := Eq.trans (by kernel_rfl!) lar
      refine kont ?_
      refine mkE3 (g1.set (a - 1) (.flds (tyF a t { x with level := y.level + 1 } (ex a)))) u.size lb ⟨fun rest => ?_, U1.set (.inl (by simp [S])), I1.modTx e H1, (I.sz b u hu).1, (I.sz b u hu).2, lbr, by simp only [upd_ap, if_true, lb]⟩
      rw [two, seq_next (σ' := ⟨g1.set (a - 1) (.flds (tyF a t { x with level := y.level + 1 } (ex a))), lb⟩) (by
        rw [iff_ap]
        have : tcmp .IsNot (att (var (S! "record")) (S! "base")) (lit .none) ⟨g1, la⟩ = some (true, ⟨g1, la⟩) := by
          simp only [tcmp_ap, att_ap, var_ap, lar, Option.map_some, Option.bind_some, H1.rd, hb, bv, lit_ap, c_isn1]
        rw [this]
        simp only [Option.bind_some, brS_t]
        rw [seq_next (σ' := ⟨g1, lb⟩) (by simp only [setl_ap, att_ap, var_ap, lar, Option.map_some, Option.bind_some, H1.rd, hb, bv, HU.rd]; rfl)]
        rw [seq_next (σ' := ⟨g1.set (a - 1) (.flds (tyF a t { x with level := y.level + 1 } (ex a))), lb⟩) (by
          simp only [seta_ap, bino_ap, att_ap, var_ap, lbr, Option.map_some, Option.bind_some, H1.rd, hb, bv, HU.rd, lit_ap, add_int, asgA_ap, H1.wr])]
        rfl)]
  refine ex3_7 (start) fun g off l1 est Ug Ig o0 o1 l1r l1o => ?_
  clear start
  have hgl := Ug.1
  have alt : a + 2 < h.length := I.W.ltT a t e
  have al := I.lo a t e
  have fl := G.fsl a t e
  let J : Nat → List AO → (Str → Option AV) → Prop := fun i k lk => ∃ o : Int, Up S g k ∧ Inv 0 Γ Δ ex cnt B es k ∧ lk (S! "record") = some (.ref a) ∧ lk (S! "offset") = some (.int o) ∧ 0 ≤ o ∧ o ≤ B + i * (B + 3)
  refine kont ?_
  obtain ⟨k, l2, e2, o, U2, I2, l2r, l2o, p0, p1⟩ := forN_list (x := S! "field") (b := a + 1) (xs := rf t.fs) (body := seq (L15_0 n)) (j := g.length) (by rw [rf_len, szm]; lia) J
    (fun i k lk zp0 => by obtain ⟨o, _, q, _⟩ := zp0; exact let ⟨_, H⟩ := q.W.ty a t e; H.fs)
    (fun i k lk w zp1 zp2 => by obtain ⟨o, q1, q2, q3⟩ := zp1; obtain ⟨z, hz⟩ := zp2; exact ⟨o, q1.set (.inr (Nat.le_refl _)), q2.setK hz rfl (by have := Ig.big; lia), q3⟩)
    (fun i k lk v zp3 hv hj => by
      obtain ⟨o, q1, q2, q3, q4, q5, q6⟩ := zp3
      obtain ⟨f, hf, rfl⟩ := rf_get hv
      obtain ⟨oi, eo⟩ := G.fs a t e f (List.mem_of_getElem? hf)
      obtain ⟨u, hu⟩ := G.oty f oi eo
      have hi := (List.getElem?_eq_some_iff.mp hf).1
      let lf := upd lk (S! "field") (.ref f)
      have lff : lf (S! "field") = some (.ref f) := by kernel_rfl!
      have lfo : lf (S! "offset") = some (.int o) := Eq.trans (by kernel_rfl!) q4
      have lfr : lf (S! "record") = some (.ref a) := Eq.trans (by kernel_rfl!) q3
      obtain ⟨y, HO⟩ := q2.W.ob f oi eo
      refine ex2_3 (align13 q2 hu o (show 9 ≤ n + 9 from Nat.le_add_left 9 n)) fun X r c1 r1 r2 => ?_
      have Ik := q2.app X
      obtain ⟨y2, HO2⟩ := Ik.W.ob f oi eo
      let ls := upd lf (S! "offset") (.int r)
      have lsf : ls (S! "field") = some (.ref f) := Eq.trans (by kernel_rfl!) lff
      have lso : ls (S! "offset") = some (.int r) := by kernel_rfl!
      have lsr : ls (S! "record") = some (.ref a) := Eq.trans (by kernel_rfl!) lfr
      let k2 := (k ++ X).set (f - 1) (.flds (obF oi { y2 with off := .int r } 0))
      have Ik2 : Inv 0 Γ Δ ex cnt B es k2 := Ik.modOx eo HO2
      have HO3 : IsOb k2 f oi { y2 with off := .int r } 0 := HO2.put
      obtain ⟨xu, HU⟩ := Ik2.W.ty oi.ty u hu
      have us := I.sz oi.ty u hu
      have fmem : f - 1 ∈ S := by simp only [S, List.mem_cons, List.mem_map]; exact .inr ⟨f, List.mem_of_getElem? hf, rfl⟩
      refine ⟨.next, k2, upd ls (S! "offset") (.int (r + u.size)), ?_, .inl rfl, ?_, r + u.size, (q1.appR X).set (.inl fmem), Ik2, by simp only [upd_ap, if_false, ofS_inj, String.reduceEq, lsr], by simp only [upd_ap, if_true], by lia, ?_⟩
      · unfold L15_0
        rw [seq_next (σ' := ⟨k ++ X, ls⟩) (by
          show setl _ _ ⟨k, lf⟩ = _
          simp only [setl_ap, callf_ap, evl_cons, evl_nil, att_ap, var_ap, lff, lfo, Option.map_some, Option.bind_some, HO.rd, c1 lf]
          rfl)]
        rw [seq_next (σ' := ⟨k2, ls⟩) (by simp only [seta_ap, asgA_ap, var_ap, lso, lsf, Option.map_some, Option.bind_some, HO2.wr]; rfl)]
        rw [seq_next (σ' := ⟨k2, upd ls (S! "offset") (.int (r + u.size))⟩) (by
          simp only [augl_ap, lso, att_ap, var_ap, lsf, Option.map_some, Option.bind_some, HO3.rd, HU.rd, i_int])]
        rfl
      · show ((k ++ X).set (f - 1) _)[g.length]? = _
        have hjl := lt_of hj
        rw [get_set_ne, get_lt hjl]
        have := I.W.ltO f oi eo; lia
      · have : ((i + 1 : Nat) : Int) * (B + 3) = i * (B + 3) + (B + 3) := by rw [Int.natCast_add, Int.add_mul]; simp
        lia)
    t.fs.length 0 (g ++ [.liter (a + 1) 0]) l1 loops (by rw [rf_len]; lia) (by unfold loops; lia) get_app0 (by lia)
    ⟨off, Up.app _ _ _, Ig.app _, l1r, l1o, o0, by rw [show ((0 : Nat) : Int) * (B + 3) = 0 from by simp]; lia⟩
  refine ex1_3 (words14 (h := k) o (show 6 ≤ n + 9 from Nat.le_add_left 6 (n + 3))) fun r c3 r1 r2 => ?_
  obtain ⟨xk, HK⟩ := I2.W.ty a t e
  let sz : Int := if (4 : Int) < r then r else 4
  have pb : (t.fs.length : Int) * (B + 3) ≤ 3 * (B + 3) := Int.mul_le_mul_of_nonneg_right (by lia) (by lia)
  rw [rf_len] at p1
  have szb : 0 ≤ sz ∧ sz ≤ 8 * B := by show 0 ≤ (if (4 : Int) < r then r else 4) ∧ (if (4 : Int) < r then r else 4) ≤ 8 * B; split <;> lia
  let k3 := k.set (a - 1) (.flds (tyF a { t with size := sz } xk (ex a)))
  have I3 := I2.modTy (t' := { t with size := sz }) (x' := xk) (v := ex a) (h' := k3) (pd' := 0) (B' := 8 * B) e HK (HK.put rfl rfl) (by simp [k3]) (fun j q _ _ => get_set_ne (fun q2 => q q2.symm)) (I.G.fs a t e) (I.G.ps a t e) (I.G.fsl a t e) (I.G.psl a t e) (fun b hb => I.G.base a t b e hb) rfl (fun q => I.G.has a t e q) (.inl rfl) rfl (by lia) szb (I.zero a t e)
  rw [set1_same] at I3
  refine ⟨k3, sz, fun l => ?_, (Ug.trans (U2.mono fun j hj hl => hj)).set (.inl (List.mem_cons_self ..)), I3⟩
  rw [fn15]
  apply frun_next' (l' := l2)
  unfold B15
  show seq _ ⟨h, l0⟩ = _
  rw [est]
  rw [seq_next (σ' := ⟨k, l2⟩) (forl_go (b := a + 1) (xs := rf t.fs) (by
    obtain ⟨xg, HG⟩ := Ig.W.ty a t e
    simp only [att_ap, var_ap, l1r, Option.map_some, Option.bind_some, HG.rd]) (let ⟨_, HG⟩ := Ig.W.ty a t e; HG.fs) (by rw [rf_len, szm]; lia) e2)]
  rw [seq_next (σ' := ⟨k3, l2⟩) (by
    simp only [seta_ap, bcall_ap, evl_cons, evl_nil, lit_ap, callf_ap, var_ap, l2o, Option.map_some, Option.bind_some, c3 l2, max_int, asgA_ap, l2r, HK.wr]
    rfl)]
  rfl
end
end Mine.L
end
section
namespace Mine.L
section
variable {Γ : Nat → Option TI} {Δ : Nat → Option OI} {ex : Nat → Int} {cnt : Nat} {B : Int} {es : KE} {h h' : List AO}
theorem param16 (I : Inv 0 Γ Δ ex cnt B es h) {p : Nat} {oi : OI} (e : Δ p = some oi) {m : Nat} (hm : 9 ≤ m) : ∃ w : Nat, Call m 16 [.ref p] h (.int w) h ∧ w ≤ 2 := by
  obtain ⟨n, rfl⟩ := ge_ex (show 9 ≤ m by assumption)
  have G := I.gr
  have RO := (I.W.ob p oi e).choose_spec.rd
  obtain ⟨u, hu⟩ := G.oty p oi e
  have RT := (I.W.ty oi.ty u hu).choose_spec.rd
  let l0 := env [(S! "par", .ref p)]
  have q : var (S! "par") ⟨h, l0⟩ = some (.ref p, ⟨h, l0⟩) := by kernel_rfl!
  have body : ∃ w : Nat, w ≤ 2 ∧ seq B16 ⟨h, l0⟩ = some (.ret (.int w), ⟨h, l0⟩) := by
    unfold B16
    have one : seq [sRet (lit (.int 1))] ⟨h, l0⟩ = some (.ret (.int (1 : Nat)), ⟨h, l0⟩) := by apply seq_ret; rfl
    have t0 : tcmp .Eq (att (var (S! "par")) (S! "kind")) (lit (.str (S! "par"))) ⟨h, l0⟩ = some (oi.kind == S! "par", ⟨h, l0⟩) := by
      simp only [tcmp_ap, att_ap, q, Option.bind_some, RO, Option.map_some, lit_ap, c_eq, s_str]
    cases hk : oi.kind == S! "par" with
    | false =>
      refine ⟨1, by lia, ?_⟩
      rw [seq_next (σ' := ⟨h, l0⟩) (by rw [iff_ap, t0, hk]; rfl)]
      exact one
    | true =>
      have t1 : ∃ b, tAll .Or [tcmp .Eq (att (att (var (S! "par")) (S! "type")) (S! "form")) (lit (.str (S! "record"))), tAll .And [tcmp .Eq (att (att (var (S! "par")) (S! "type")) (S! "form")) (lit (.str (S! "array"))), tcmp .Lt (att (att (var (S! "par")) (S! "type")) (S! "length")) (lit (.int 0))]] ⟨h, l0⟩ = some (b, ⟨h, l0⟩) := by
        simp only [tor2, tcmp_ap, att_ap, q, Option.bind_some, RO, RT, Option.map_some, lit_ap, c_eq, s_str]
        cases u.form == S! "record" with
        | true => exact ⟨true, rfl⟩
        | false =>
          simp only [orK_f, tand2, tcmp_ap, att_ap, q, Option.bind_some, RO, RT, Option.map_some, lit_ap, c_eq, s_str]
          cases u.form == S! "array" with
          | false => exact ⟨false, rfl⟩
          | true =>
            simp only [andK_t, tcmp_ap, att_ap, q, Option.bind_some, RO, RT, Option.map_some, lit_ap, c_lt]
            exact ⟨_, rfl⟩
      obtain ⟨b, t1⟩ := t1
      cases b with
      | false =>
        refine ⟨1, by lia, ?_⟩
        rw [seq_next (σ' := ⟨h, l0⟩) (by
          rw [iff_ap, t0, hk]
          simp only [Option.bind_some, brS_t]
          rw [seq_next (σ' := ⟨h, l0⟩) (by rw [iff_ap, t1]; rfl)]
          rfl)]
        exact one
      | true =>
        refine ⟨2, by lia, ?_⟩
        apply seq_ret
        rw [iff_ap, t0, hk]
        simp only [Option.bind_some, brS_t]
        apply seq_ret
        rw [iff_ap, t1]
        rfl
  obtain ⟨w, hw, e1⟩ := body
  refine ⟨w, fun l => ?_, hw⟩
  rw [fn16]
  exact frun_ret' e1
theorem params_ok (I : Inv 0 Γ Δ ex cnt B es h) {a : Nat} {t : TI} (e : Γ a = some t) {m : Nat} (hm : 13 ≤ m) :
    ∃ h' v, Call m 17 [.ref (a + 2), .bool false] h v h' ∧ Up (t.ps.map (· - 1)) h h' ∧ Inv 0 Γ Δ ex cnt B es h' := by
  obtain ⟨n, rfl⟩ := ge_ex (show 13 ≤ m by assumption)
  have G := I.gr
  have pl := G.psl a t e
  let S := t.ps.map (· - 1)
  let l0 := env [(S! "params", .ref (a + 2)), (S! "linked", .bool false)]
  let l1 := upd l0 (S! "words") (.int (0 : Nat))
  have hps : h[a + 2]? = some (.list (rf t.ps)) := (I.W.ty a t e).choose_spec.ps
  have al := I.lo a t e
  have bg := I.big
  let g := h ++ [AO.rng t.ps.length]
  let J : Nat → List AO → (Str → Option AV) → Prop := fun i k lk => ∃ w : Nat, Up S g k ∧ Inv 0 Γ Δ ex cnt B es k ∧ lk (S! "params") = some (.ref (a + 2)) ∧ lk (S! "words") = some (.int w) ∧ w ≤ 2 * i
  obtain ⟨k, l2, e2, w, U2, I2, l2p, l2w, _⟩ := forN_range (x := S! "slot") (N := t.ps.length) (body := seq (L17_0 n)) (j := g.length) J
    (fun i k lk o zp0 zp1 => by obtain ⟨w, q1, q2, q3⟩ := zp0; obtain ⟨y, z, hz⟩ := zp1; exact ⟨w, q1.set (.inr (Nat.le_refl _)), q2.setK hz rfl (by simp [g]; (clear_value *; lia)), q3⟩)
    (fun i k lk hi zp2 zp3 => by
      obtain ⟨w, q1, q2, q3, q4, q5⟩ := zp2
      obtain ⟨y, z, hz⟩ := zp3
      obtain ⟨p, hp⟩ : ∃ p, t.ps[i]? = some p := ⟨_, List.getElem?_eq_getElem hi⟩
      obtain ⟨oi, eo⟩ := G.ps a t e p (List.mem_of_getElem? hp)
      have pS : p - 1 ∈ S := List.mem_map.mpr ⟨p, List.mem_of_getElem? hp, rfl⟩
      let ls := upd lk (S! "slot") (.int i)
      have lsp : ls (S! "params") = some (.ref (a + 2)) := Eq.trans (by kernel_rfl!) q3
      have lss : ls (S! "slot") = some (.int i) := by kernel_rfl!
      have lsw : ls (S! "words") = some (.int w) := Eq.trans (by kernel_rfl!) q4
      have atp : ∀ {k : List AO}, Inv 0 Γ Δ ex cnt B es k → sub (var (S! "params")) (var (S! "slot")) ⟨k, ls⟩ = some (.ref p, ⟨k, ls⟩) := fun {k} Ik => by
        have hk := (Ik.W.ty a t e).choose_spec.ps
        simp only [sub_ap, var_ap, lsp, lss, Option.map_some, Option.bind_some, item_list (l := ls) hk (show (rf t.ps).length ≤ szMax from by rw [rf_len, szm]; (clear_value *; lia)) (show (rf t.ps)[i]? = some (.ref p) from by unfold rf; rw [List.getElem?_map, hp]; rfl)]
      obtain ⟨x1, H1'⟩ := q2.W.ob p oi eo
      have H1 : IsOb k p oi x1 0 := H1'
      have I1 := q2.modOx (x' := { x1 with sl := .int i }) eo H1
      have H2 : IsOb _ p oi { x1 with sl := .int i } 0 := H1.put (o' := oi) (x' := { x1 with sl := .int i }) (nm' := 0)
      have I2 := I1.modOx (x' := { x1 with sl := .int i, ip := .bool true }) eo H2
      have H3 : IsOb _ p oi { x1 with sl := .int i, ip := .bool true } 0 := H2.put (o' := oi) (x' := { x1 with sl := .int i, ip := .bool true }) (nm' := 0)
      have I3 := I2.modOx (x' := { x1 with sl := .int i, ip := .bool true, off := .int (4 * w) }) eo H3
      obtain ⟨wd, c1, hw⟩ := param16 I3 eo (show 9 ≤ n + 9 from Nat.le_add_left 9 n)
      have hpl := I.W.ltO p oi eo
      refine ⟨.next, _, upd ls (S! "words") (.int (w + wd : Nat)), ?_, .inl rfl, ?_, w + wd, ((q1.set (.inl pS)).set (.inl pS)).set (.inl pS), I3, by simp only [upd_ap, if_false, ofS_inj, String.reduceEq, lsp], by simp only [upd_ap, if_true], by (clear_value *; lia)⟩
      · unfold L17_0
        rw [seq_next (by
          rw [seta_ap]
          show ((var (S! "slot") ⟨k, ls⟩).bind _) = _
          simp only [var_ap, lss, Option.map_some, Option.bind_some, asgA_ap, atp q2, H1.wr]
          rfl)]
        rw [seq_next (by
          rw [seta_ap, lit_ap]
          simp only [Option.map_some, Option.bind_some, asgA_ap, atp I1, H2.wr]
          rfl)]
        rw [seq_next (by
          rw [seta_ap]
          simp only [bino_ap, lit_ap, var_ap, lsw, Option.map_some, Option.bind_some, mul_int, show ((w : Int)).natAbs < 2 ^ 60 from by (clear_value *; lia), if_true, asgA_ap, atp I2, H3.wr]
          rfl)]
        rw [seq_next (by
          rw [augl_ap, lsw]
          simp only [Option.bind_some, callf_ap, evl_cons, evl_nil, atp I3, c1 ls, i_int]
          rfl)]
        rfl
      · have hjl := lt_of hz
        have ph : p - 1 < g.length := by simp [g]; (clear_value *; lia)
        rw [get_set_ne (by (clear_value *; lia)), get_set_ne (by (clear_value *; lia)), get_set_ne (by (clear_value *; lia))])
    t.ps.length 0 (g ++ [.riter (0 : Nat) t.ps.length]) l1 loops (by (clear_value *; lia)) (by unfold loops; (clear_value *; lia)) get_app0
    ⟨0, Up.app _ _ _, (I.app _).app _, by simp only [env_cons, upd_ap, if_true, if_false, ofS_inj, String.reduceEq, l1, l0], by simp only [upd_ap, if_true, l1], by (clear_value *; lia)⟩
  refine mk2_3 k (.int w) (fun l => ?_) ((Up.app _ _ _).trans U2) I2
  rw [fn17]
  apply frun_ret' (l' := l2)
  unfold B17
  show seq _ ⟨h, l0⟩ = _
  have q1 : var (S! "linked") ⟨h, l0⟩ = some (.bool false, ⟨h, l0⟩) := by kernel_rfl!
  rw [seq_next (σ' := ⟨h, l1⟩) (by simp only [setl_ap, ifE_ap, tval_ap, q1, Option.bind_some, lit_ap, ifK_f, bool_ap]; rfl)]
  rw [seq_next (σ' := ⟨k, l2⟩) (forl_range (b := h.length) (k := t.ps.length) (h := g) (l := l1) (by
    have q2 : var (S! "params") ⟨h, l1⟩ = some (.ref (a + 2), ⟨h, l1⟩) := by kernel_rfl!
    simp only [bcall_ap, evl_cons, evl_nil, q2, Option.bind_some, len_ap (l := l1) hps (show (rf t.ps).length ≤ szMax from by rw [rf_len, szm]; (clear_value *; lia)), rf_len, range_ap (h := h) (l := l1) (k := (t.ps.length : Int)) (by (clear_value *; lia)) (by (clear_value *; lia))]
    rfl) get_app0 (by (clear_value *; lia)) e2)]
  apply seq_ret
  simp only [var_ap, Option.map_some, sRet_ap, l2w]
structure Gx (h : List AO) (Γ Γ' : Nat → Option TI) : Prop where
  old : ∀ a t, Γ a = some t → Γ' a = some t
  new : ∀ a t, Γ' a = some t → Γ a = some t ∨ h.length < a
theorem Gx.refl (h : List AO) (Γ : Nat → Option TI) : Gx h Γ Γ := ⟨fun _ _ e => e, fun _ _ e => .inl e⟩
theorem Gx.trans {h1 h2 : List AO} {A B C : Nat → Option TI} (x : Gx h1 A B) (y : Gx h2 B C) (q : h1.length ≤ h2.length) : Gx h1 A C :=
  ⟨fun a t e => y.old a t (x.old a t e), fun a t e => by
    rcases y.new a t e with r | r
    · exact x.new a t r
    · exact .inr (by lia)⟩
theorem Gx.upd {h1 : List AO} {A B : Nat → Option TI} (x : Gx h1 A B) {a : Nat} (t : TI) (ha : h1.length < a) (hn : A a = none) : Gx h1 A (updT B a t) :=
  ⟨fun b u e => by rw [updT_ne _ _ (by rintro rfl; rw [hn] at e; cases e)]; exact x.old b u e, fun b u e => by
    by_cases q : b = a
    · exact .inr (by lia)
    · rw [updT_ne _ _ q] at e; exact x.new b u e⟩
structure Dx (h : List AO) (Δ Δ' : Nat → Option OI) : Prop where
  old : ∀ a t, Δ a = some t → Δ' a = some t
  new : ∀ a t, Δ' a = some t → Δ a = some t ∨ h.length < a
theorem Dx.refl (h : List AO) (Γ : Nat → Option OI) : Dx h Γ Γ := ⟨fun _ _ e => e, fun _ _ e => .inl e⟩
theorem Dx.trans {h1 h2 : List AO} {A B C : Nat → Option OI} (x : Dx h1 A B) (y : Dx h2 B C) (q : h1.length ≤ h2.length) : Dx h1 A C :=
  ⟨fun a t e => y.old a t (x.old a t e), fun a t e => by
    rcases y.new a t e with r | r
    · exact x.new a t r
    · exact .inr (by lia)⟩
theorem Dx.upd {h1 : List AO} {A B : Nat → Option OI} (x : Dx h1 A B) {a : Nat} (t : OI) (ha : h1.length < a) (hn : A a = none) : Dx h1 A (updT B a t) :=
  ⟨fun b u e => by rw [updT_ne _ _ (by rintro rfl; rw [hn] at e; cases e)]; exact x.old b u e, fun b u e => by
    by_cases q : b = a
    · exact .inr (by lia)
    · rw [updT_ne _ _ q] at e; exact x.new b u e⟩
theorem str_app (a b : Str) : (a ++ b).length = a.length + b.length := by
  show (a.cps ++ b.cps).size = _
  rw [Array.size_append]; rfl
theorem digits_len (i : Nat) (h : i ≤ 5) : (Str.ofString (toString (i : Int))).length ≤ 10 := by
  have : i = 0 ∨ i = 1 ∨ i = 2 ∨ i = 3 ∨ i = 4 ∨ i = 5 := by lia
  rcases this with rfl | rfl | rfl | rfl | rfl | rfl <;> decide +kernel
theorem str_ap {h : List AO} {l : Str → Option AV} (i : Nat) (hi : i ≤ 5) : callB (.typ "str") [.int i] ⟨h, l⟩ = some (.str (Str.ofString (toString (i : Int))), ⟨h, l⟩) := by
  rw [t_str]
  exact if_pos ⟨Int.natCast_nonneg i, by lia⟩
theorem IsTy.putF {a : Nat} {t : TI} {x : TX} {v : Int} (H : IsTy h a t x v) (fs : List Nat) : IsTy (h.set (a + 1) (.list (rf fs))) a { t with fs := fs } x v := by
  have := H.pos
  exact ⟨H.pos, (get_set_ne (by lia)).trans H.inst, (get_set_ne (by lia)).trans H.flds, get_set H.fs, (get_set_ne (by lia)).trans H.ps⟩
theorem IsTy.putP {a : Nat} {t : TI} {x : TX} {v : Int} (H : IsTy h a t x v) (ps : List Nat) : IsTy (h.set (a + 2) (.list (rf ps))) a { t with ps := ps } x v := by
  have := H.pos
  exact ⟨H.pos, (get_set_ne (by lia)).trans H.inst, (get_set_ne (by lia)).trans H.flds, (get_set_ne (by lia)).trans H.fs, get_set H.ps⟩
end
end Mine.L
end
section
namespace Mine.L
section
variable {pd : Nat} {Γ : Nat → Option TI} {Δ : Nat → Option OI} {ex : Nat → Int} {cnt : Nat} {B : Int} {es : KE} {h h' : List AO}
theorem kind_types : theQ.cls 3 = some ⟨8, [(Str.ofString "new", 9), (Str.ofString "string", 10)], typesAttrs⟩ := rfl
theorem types_new {l : Str → Option AV} {m : Nat} {args : List SE} {vs : List AV} {σ : St} (I : Inv pd Γ Δ ex cnt B es h) (ho : l (S! "types") = some (.ref 6)) (ha : evl args ⟨h, l⟩ = some (vs, σ)) : meth ((run theQ m).fn) (var (S! "types")) (S! "new") args ⟨h, l⟩ = (run theQ m).fn 9 (.ref 6 :: vs) σ := by
  rw [imeth (k := 6) (c := 3) (d := 5) (m := 9) (σ' := ⟨h, l⟩) (fs := tsF cnt) (K := ⟨8, [(Str.ofString "new", 9), (Str.ofString "string", 10)], typesAttrs⟩) (by simp only [var_ap, Option.map_some, ho]) I.t6 I.t5 rfl (by kernel_rfl) (by kernel_rfl), ha]
  rfl
theorem Inv.setBase {a : Nat} (I : Inv pd Γ Δ ex cnt B es h) {t : TI} (e : Γ a = some t) {b : Option Nat} (hb : ∀ c, b = some c → ∃ u, Γ c = some u ∧ u.num < t.num) {pd' : Nat} (h7 : a ≠ pd' → t.form = S! "array" ∨ t.form = S! "pointer" ∨ t.form = S! "proc" → ∃ c, b = some c) (h8 : pd = pd' ∨ pd = a ∨ Γ pd = none) :
    ∃ x, (∀ l, setAttr theQ (.ref a) (S! "base") (bv b) ⟨h, l⟩ = some ⟨h.set (a - 1) (.flds (tyF a { t with base := b } x (ex a))), l⟩) ∧ Inv pd' (updT Γ a { t with base := b }) Δ ex cnt B es (h.set (a - 1) (.flds (tyF a { t with base := b } x (ex a)))) := by
  obtain ⟨x, H⟩ := I.W.ty a t e
  have := I.modTy (t' := { t with base := b }) (x' := x) (v := ex a) (h' := h.set (a - 1) (.flds (tyF a { t with base := b } x (ex a)))) (pd' := pd') (B' := B) e H (H.put rfl rfl) (by simp) (fun j q _ _ => get_set_ne (fun q2 => q q2.symm)) (I.G.fs a t e) (I.G.ps a t e) (I.G.fsl a t e) (I.G.psl a t e) hb rfl h7 h8 rfl (Int.le_refl _) (I.sz a t e) (I.zero a t e)
  rw [set1_same] at this
  exact ⟨x, fun l => H.wr.2.2.2.2.2.2 l b, this⟩
structure RS (h : List AO) (Γ : Nat → Option TI) (Δ : Nat → Option OI) (cnt : Nat) (B : Int) (a i : Nat) (t0 : TI) (k : List AO) : Prop where
  ok : ∃ (Γ' : Nat → Option TI) (Δ' : Nat → Option OI) (ex' : Nat → Int) (cnt' : Nat) (es' : KE) (fs : List Nat), Inv 0 Γ' Δ' ex' cnt' B es' k ∧ Gx h Γ Γ' ∧ Dx h Δ Δ' ∧ cnt' ≤ cnt + 1 + i ∧ es' ≠ [] ∧ Γ' a = some { t0 with fs := fs } ∧ fs.length ≤ i ∧ t0.num ≤ cnt' ∧ ∀ f ∈ fs, h.length < f
  up : Up [4, 5, 7] h k
theorem rec_field {ps : List Nat} {p a i : Nat} {t0 : TI} (hp : h[p]? = some (.list (rf ps))) (p8 : 8 ≤ p) (pne : ps ≠ []) (pl : ps.length ≤ 40) (pin : ∀ x ∈ ps, ∃ t, Γ x = some t) (ha : h.length < a) (hna : Γ a = none) (h40 : 42 ≤ h.length)
    (tf : t0.form = S! "record") (tps : t0.ps = []) (tb : ∀ b, t0.base = some b → ∃ u, Γ b = some u ∧ u.num < t0.num) (hi : i < 3) (hc : cnt + 4 ≤ 60) {k : List AO} (R : RS h Γ Δ cnt B a i t0 k) (n : Nat) {l : Str → Option AV} {mod label : Str} {shown : Bool}
    (q1 : l (S! "hand") = some (.ref 4)) (q2 : l (S! "types") = some (.ref 6)) (q3 : l (S! "module") = some (.str mod)) (q4 : l (S! "label") = some (.str label)) (q5 : l (S! "pool") = some (.ref p)) (q6 : l (S! "shown") = some (.bool shown)) (q7 : l (S! "t") = some (.ref a)) (q8 : l (S! "at") = some (.int i)) (ll : label.length ≤ 1000) :
    ∃ k' l', seq (L19_0 n) ⟨k, l⟩ = some (.next, ⟨k', l'⟩) ∧ RS h Γ Δ cnt B a (i + 1) t0 k' ∧ Up [4, 5, 7, a - 1, a + 1] k k' ∧ (∀ y, y ≠ S! "held" → y ≠ S! "one_field" → l' y = l y) := by
  obtain ⟨Γ1, Δ1, ex1, cnt1, es1, fs, I, gx, dx, c1, ne1, ea, fl, tn, ff⟩ := R.ok
  have U := R.up
  have hpl := lt_of hp
  have hk := U.1
  have pk : k[p]? = some (.list (rf ps)) := U.get hp (by simp; lia)
  have psl : (rf ps).length ≤ szMax := by rw [rf_len, szm]; lia
  have ppos : 0 < ps.length := by cases ps with | nil => exact absurd rfl pne | cons _ _ => simp
  refine ex2_4 (pick_ok I.hd (lim := (ps.length : Int)) (by lia) (by lia) (show 8 ≤ n + 11 from Nat.le_add_left 8 (n + 3))) fun d o1 d1 d0 dl hd1 => ?_
  let k1 := k.set 4 o1
  have I1 : Inv 0 Γ1 Δ1 ex1 cnt1 B es1 k1 := I.set4 hd1
  obtain ⟨dN, rfl⟩ : ∃ dN : Nat, d = dN := ⟨d.toNat, by lia⟩
  obtain ⟨x, hx⟩ : ∃ x, ps[dN]? = some x := ⟨_, List.getElem?_eq_getElem (by lia)⟩
  obtain ⟨tx, etx⟩ := pin x (List.mem_of_getElem? hx)
  have etx1 := gx.old x tx etx
  let la := upd l (S! "held") (.ref x)
  have pk1 : k1[p]? = some (.list (rf ps)) := (get_set_ne (by lia)).trans pk
  have s1 : setl (S! "held") (sub (var (S! "pool")) (callf ((run theQ (n + 11)).fn) 18 [var (S! "hand"), bcall (.bltn "len") [var (S! "pool")]])) ⟨k, l⟩ = some (.next, ⟨k1, la⟩) := by
    simp only [setl_ap, sub_ap, var_ap, q5, q1, Option.map_some, Option.bind_some, callf_ap, evl_cons, evl_nil, bcall_ap, len_ap (l := l) pk psl, rf_len, d1 l]
    rw [item_list (i := dN) pk1 psl (by unfold rf; rw [List.getElem?_map, hx]; rfl)]
    rfl
  refine ex2_4 (pick_ok I1.hd (lim := 4) (by lia) (by lia) (show 8 ≤ n + 11 from Nat.le_add_left 8 (n + 3))) fun d' o2 d2 d0' dl' hd2 => ?_
  let k2 := k1.set 4 o2
  have I2 : Inv 0 Γ1 Δ1 ex1 cnt1 B es1 k2 := I1.set4 hd2
  have k2l : k2.length = k.length := by simp [k2, k1]
  have laH : la (S! "hand") = some (.ref 4) := Eq.trans (by kernel_rfl!) q1
  have laT : la (S! "types") = some (.ref 6) := Eq.trans (by kernel_rfl!) q2
  have tst : tcmp .Eq (callf ((run theQ (n + 11)).fn) 18 [var (S! "hand"), lit (.int 4)]) (lit (.int 3)) ⟨k1, la⟩ = some (d' == 3, ⟨k2, la⟩) := by
    simp only [tcmp_ap, callf_ap, evl_cons, evl_nil, var_ap, laH, lit_ap, Option.map_some, Option.bind_some, d2 la, c_eq, s_int]
    rfl
  have ptr : ∃ k3 y Γ3 ex3 cnt3 es3 l3, iff' (tcmp .Eq (callf ((run theQ (n + 11)).fn) 18 [var (S! "hand"), lit (.int 4)]) (lit (.int 3))) [setl (S! "held") (meth ((run theQ (n + 11)).fn) (var (S! "types")) (S! "new") [lit (.str (S! "pointer")), lit (.int 4), var (S! "module"), bino .Add (bino .Add (var (S! "label")) (lit (.str (S! ".")))) (bcall (.typ "str") [var (S! "at")])]), seta (var (S! "held")) (S! "base") (var (S! "t"))] [] ⟨k1, la⟩ = some (.next, ⟨k3, l3⟩) ∧
      Inv 0 Γ3 Δ1 ex3 cnt3 B es3 k3 ∧ Gx h Γ Γ3 ∧ cnt1 ≤ cnt3 ∧ cnt3 ≤ cnt + 2 + i ∧ es3 ≠ [] ∧ Γ3 a = some { t0 with fs := fs } ∧ (∃ ty, Γ3 y = some ty) ∧ Up [4, 5, 7] k k3 ∧ l3 (S! "held") = some (.ref y) ∧ (∀ z, z ≠ S! "held" → l3 z = l z) := by
    have Uk2 : Up [4, 5, 7] k k2 := ((Up.refl _ _).set (.inl (by simp))).set (.inl (by simp))
    by_cases h3 : d' = 3
    · have b4 := I.B4
      let lab : Str := label ++ S! "." ++ Str.ofString (toString (i : Int))
      have dl10 := digits_len i (by lia)
      have lab1 : (label ++ S! ".").length ≤ szMax := by
        rw [str_app, szm]
        have : (S! ".").length = 1 := by decide +kernel
        lia
      have labne : lab ≠ S! "" := by
        intro q
        have := congrArg Str.length q
        rw [str_app, str_app] at this
        have e1 : (S! ".").length = 1 := by decide +kernel
        have e2 : (S! "").length = 0 := by decide +kernel
        lia
      refine ex2_5 (new_ok (form := S! "pointer") (mod := mod) (label := lab) (size := 4) I2 I2.z0 (by lia) ⟨by lia, b4⟩ labne (show 6 ≤ n + 11 from Nat.le_add_left 6 (n + 5))) fun k3 es3 c3 U3 l3 I3 ne3 => ?_
      have hq : k2.length + 1 = k.length + 1 := by lia
      have na : Γ1 (k2.length + 1) = none := I2.noT (by lia)
      have nea : a ≠ k2.length + 1 := by rintro rfl; rw [na] at ea; cases ea
      obtain ⟨x4, w4, I4⟩ := I3.setBase (b := some a) (pd' := 0) (updT_self _ _ _) (fun c hc' => by cases hc'; exact ⟨_, by rw [updT_ne _ _ nea]; exact ea, by show t0.num < (cnt1 : Int) + 1; lia⟩) (fun _ _ => ⟨a, rfl⟩) (.inr (.inl rfl))
      let lb := upd la (S! "held") (.ref (k2.length + 1))
      have gx3 : Gx h Γ (updT (updT Γ1 (k2.length + 1) ⟨cnt1 + 1, S! "pointer", none, [], [], mod, 4⟩) (k2.length + 1) { (⟨cnt1 + 1, S! "pointer", none, [], [], mod, 4⟩ : TI) with base := some a }) := by
        have hn' : Γ (k2.length + 1) = none := by
          cases q : Γ (k2.length + 1) with
          | none => rfl
          | some t => have := gx.old _ t q; rw [na] at this; cases this
        exact (gx.upd _ (by lia) hn').upd _ (by lia) hn'
      refine ⟨_, k2.length + 1, _, _, cnt1 + 1, es3, lb, ?_, I4, gx3, by lia, by lia, ne3, by rw [updT_ne _ _ nea, updT_ne _ _ nea]; exact ea, ⟨_, updT_self _ _ _⟩, (Uk2.trans (U3.mono fun j hj _ => by simp at hj ⊢; lia)).set (.inr (by lia)), by simp only [upd_ap, if_true, lb], fun z hz => by simp only [upd_ap, if_false, lb, la, hz]⟩
      rw [iff_ap, tst, h3]
      simp only [beq_self_eq_true, Option.bind_some, brS_t]
      have lam : la (S! "module") = some (.str mod) := Eq.trans (by kernel_rfl!) q3
      have lal : la (S! "label") = some (.str label) := Eq.trans (by kernel_rfl!) q4
      have laa : la (S! "at") = some (.int i) := Eq.trans (by kernel_rfl!) q8
      rw [seq_next (σ' := ⟨k3, lb⟩) (by
        rw [setl_ap, types_new I2 laT (vs := [.str (S! "pointer"), .int 4, .str mod, .str lab]) (σ := ⟨k2, la⟩) (by
          simp only [evl_cons, evl_nil, lit_ap, var_ap, lam, lal, laa, Option.map_some, Option.bind_some, bino_ap, bcall_ap, str_ap (h := k2) (l := la) i (by lia), add_str,
            show label.length ≤ szMax from by rw [szm]; lia, show (S! ".").length ≤ szMax from by decide +kernel, lab1, show (Str.ofString (toString (i : Int))).length ≤ szMax from by rw [szm]; lia, and_self, if_true]
          rfl), c3 la]
        rfl)]
      have lbh : lb (S! "held") = some (.ref (k2.length + 1)) := by kernel_rfl!
      have lbt : lb (S! "t") = some (.ref a) := Eq.trans (by kernel_rfl!) q7
      rw [seq_next (by
        rw [seta_ap, var_ap, lbt]
        simp only [Option.map_some, Option.bind_some, asgA_ap, var_ap, lbh]
        rw [show (AV.ref a) = bv (some a) from rfl, w4 lb]
        rfl)]
      rfl
    · refine mkE7 k2 x Γ1 ex1 cnt1 es1 la ⟨?_, I2, gx, Nat.le_refl _, by lia, ne1, ea, ⟨tx, etx1⟩, Uk2, by simp only [upd_ap, if_true, la], fun z hz => by simp only [upd_ap, if_false, la, hz]⟩
      have : (d' == 3) = false := by simpa using h3
      rw [iff_ap, tst, this]; rfl
  refine ex7_11 (ptr) fun k3 y Γ3 ex3 cnt3 es3 l3 s2 I3 gx3 cc1 cc2 ne3 ea3 z_14 U3 l3h l3o => ?_
  clear ptr
  obtain ⟨ty, ety⟩ := z_14
  have hk3 := U3.1
  have l3at : l3 (S! "at") = some (.int i) := by rw [l3o _ (dn (by decide))]; exact q8
  let nm' : Str := S! "f" ++ Str.ofString (toString (i : Int))
  let oi : OI := ⟨nm', S! "field", y, false⟩
  let ox : OX := ⟨.bool false, .str (S! ""), .none, .int 0, .int 0, .bool false⟩
  let f := k3.length + 1
  let k4 := k3 ++ [AO.flds (obF oi ox 0), .inst 2 k3.length]
  have I4 : Inv 0 Γ3 (updT Δ1 f oi) ex3 cnt3 B es3 k4 := I3.newOb (o := oi) (x := ox) ⟨ty, ety⟩
  let l4 := upd l3 (S! "one_field") (.ref f)
  have dl10 := digits_len i (by lia)
  have s3 : setl (S! "one_field") (newc ((run theQ (n + 12)).fn) 2 7 [bino .Add (lit (.str (S! "f"))) (bcall (.typ "str") [var (S! "at")]), lit (.str (S! "field")), var (S! "held"), lit (.int 0)]) ⟨k3, l3⟩ = some (.next, ⟨k4, l4⟩) := by
    rw [setl_ap, mkOb_ok (n := 0) (h := k3) (l := l3) (name := nm') (kind := S! "field") (ty := y) (by
      simp only [evl_cons, evl_nil, lit_ap, var_ap, l3at, l3h, Option.map_some, Option.bind_some, bino_ap, bcall_ap, str_ap (h := k3) (l := l3) i (by lia), add_str,
        show (S! "f").length ≤ szMax from by decide +kernel, show (Str.ofString (toString (i : Int))).length ≤ szMax from by rw [szm]; lia, and_self, if_true]
      rfl) (by have := I3.big; lia) (show 3 ≤ n + 12 from Nat.le_add_left 3 (n + 9))]
    rfl
  refine ex2_4 (pick_ok I4.hd (lim := 3) (by lia) (by lia) (show 8 ≤ n + 10 from Nat.le_add_left 8 (n + 2))) fun d3 o3 c5 _ _ hd5 => ?_
  let k5 := k4.set 4 o3
  have I5 : Inv 0 Γ3 (updT Δ1 f oi) ex3 cnt3 B es3 k5 := I4.set4 hd5
  have l4h : l4 (S! "hand") = some (.ref 4) := by simp only [upd_ap, if_false, ofS_inj, String.reduceEq, l4, l3o _ (dn (show "hand" ≠ "held" by decide)), q1]
  have l4s : l4 (S! "shown") = some (.bool shown) := by simp only [upd_ap, if_false, ofS_inj, String.reduceEq, l4, l3o _ (dn (show "shown" ≠ "held" by decide)), q6]
  have l4f : l4 (S! "one_field") = some (.ref f) := by kernel_rfl!
  have l4m : l4 (S! "module") = some (.str mod) := by simp only [upd_ap, if_false, ofS_inj, String.reduceEq, l4, l3o _ (dn (show "module" ≠ "held" by decide)), q3]
  have l4t : l4 (S! "t") = some (.ref a) := by simp only [upd_ap, if_false, ofS_inj, String.reduceEq, l4, l3o _ (dn (show "t" ≠ "held" by decide)), q7]
  have exE : ∃ e : Bool, bopE .Or (cmpE .Lt (callf ((run theQ (n + 10)).fn) 18 [var (S! "hand"), lit (.int 3)]) (lit (.int 2))) (var (S! "shown")) ⟨k4, l4⟩ = some (.bool e, ⟨k5, l4⟩) := by
    rw [or_ap]
    have : cmpE .Lt (callf ((run theQ (n + 10)).fn) 18 [var (S! "hand"), lit (.int 3)]) (lit (.int 2)) ⟨k4, l4⟩ = some (.bool (decide (d3 < 2)), ⟨k5, l4⟩) := by
      simp only [cmpE_ap, callf_ap, evl_cons, evl_nil, var_ap, l4h, lit_ap, Option.map_some, Option.bind_some, c5 l4, c_lt]
      rfl
    rw [this]
    simp only [Option.bind_some]
    cases decide (d3 < 2) with
    | true => exact ⟨true, rfl⟩
    | false => exact ⟨shown, by simp only [var_ap, l4s, Option.map_some, orE_f]⟩
  obtain ⟨e, exE⟩ := exE
  obtain ⟨x5, HO'⟩ := I5.W.ob f oi (updT_self _ _ _)
  have HO : IsOb k5 f oi x5 0 := HO'
  let oi2 : OI := { oi with ex := e }
  let k6 := k5.set (f - 1) (.flds (obF oi2 x5 0))
  have I6 : Inv 0 Γ3 (updT (updT Δ1 f oi) f oi2) ex3 cnt3 B es3 k6 := I5.modOb (o' := oi2) (x' := x5) (updT_self _ _ _) HO ⟨ty, ety⟩
  have HO6 : IsOb k6 f oi2 x5 0 := HO.put
  let k7 := k6.set (f - 1) (.flds (obF oi2 { x5 with md := .str mod } 0))
  have I7 : Inv 0 Γ3 (updT (updT (updT Δ1 f oi) f oi2) f oi2) ex3 cnt3 B es3 k7 := I6.modOb (o' := oi2) (x' := { x5 with md := .str mod }) (updT_self _ _ _) HO6 ⟨ty, ety⟩
  have HO7 : IsOb k7 f oi2 { x5 with md := .str mod } 0 := HO6.put
  obtain ⟨x8, HT⟩ := I7.W.ty a _ ea3
  have Δf : updT (updT (updT Δ1 f oi) f oi2) f oi2 f = some oi2 := updT_self _ _ _
  let t1 : TI := { t0 with fs := fs ++ [f] }
  let k8 := k7.set (a + 1) (.list (rf (fs ++ [f])))
  have HT8 : IsTy k8 a t1 x8 (ex3 a) := HT.putF (fs ++ [f])
  have I8 := I7.modTy (t' := t1) (x' := x8) (v := ex3 a) (h' := k8) (pd' := 0) (B' := B) ea3 HT HT8 (by simp [k8]) (fun j _ q _ => get_set_ne (fun q2 => q q2.symm)) (fun g hg => by
      rcases List.mem_append.mp hg with q | q
      · exact I7.G.fs a _ ea3 g q
      · rw [List.mem_singleton.mp q]; exact ⟨oi2, Δf⟩) (by show ∀ f ∈ t0.ps, _; rw [tps]; simp) (by show (fs ++ [f]).length ≤ 3; simp; lia) (by show t0.ps.length ≤ 3; rw [tps]; simp)
    (fun b hb => by obtain ⟨u, hu, hlt⟩ := tb b hb; exact ⟨u, gx3.old b u hu, hlt⟩) rfl (fun _ q => by
      exfalso
      have q : t0.form = S! "array" ∨ t0.form = S! "pointer" ∨ t0.form = S! "proc" := q
      rw [tf] at q
      rcases q with q | q | q <;> (rw [ofS_inj] at q; exact absurd q (by decide))) (.inl rfl) rfl (Int.le_refl _) (I7.sz a { t0 with fs := fs } ea3) (I7.zero a { t0 with fs := fs } ea3)
  rw [set1_same] at I8
  have f5 : f - 1 = k3.length := by simp [f]
  have k4l : k4.length = k3.length + 2 := by simp [k4]
  have hnΔ : Δ f = none := by
    cases q : Δ f with
    | none => rfl
    | some t => have := dx.old _ t q; rw [I3.noO (by lia)] at this; cases this
  have hal : a + 2 < k3.length := I3.W.ltT a _ ea3
  have Uh : Up [4, 5, 7] h k8 := ((((((U.trans U3).appR _).set (.inl (by simp))).set (.inr (by lia))).set (.inr (by lia))).set (.inr (by lia)))
  refine mk2_4 k8 l4 ?_ (⟨⟨_, _, _, cnt3, es3, fs ++ [f], I8, gx3.upd _ ha hna, ((dx.upd _ (by lia) hnΔ).upd _ (by lia) hnΔ).upd _ (by lia) hnΔ, by lia, ne3, updT_self _ _ _, by simp; lia, by lia, fun g hg => ?_⟩, Uh⟩) ?_ (fun z z1 z2 => (upd_ap ..).trans ((if_neg z2).trans (l3o z z1)))
  · unfold L19_0
    rw [seq_next s1, seq_next s2, seq_next s3]
    rw [seq_next (σ' := ⟨k6, l4⟩) (by
      rw [seta_ap, exE]
      simp only [Option.bind_some, asgA_ap, var_ap, l4f, Option.map_some, HO.wr]
      rfl)]
    rw [seq_next (σ' := ⟨k7, l4⟩) (by
      rw [seta_ap, var_ap, l4m]
      simp only [Option.map_some, Option.bind_some, asgA_ap, var_ap, l4f, HO6.wr]
      rfl)]
    rw [seq_next (σ' := ⟨k8, l4⟩) (by
      have hat : att (var (S! "t")) (S! "fields") ⟨k7, l4⟩ = some (.ref (a + 1), ⟨k7, l4⟩) := by simp only [att_ap, var_ap, l4t, Option.map_some, Option.bind_some, HT.rd]
      rw [sE_ap, lmeth (k := a + 1) (σ' := ⟨k7, l4⟩) (xs := rf fs) hat HT.fs]
      simp only [evl_cons, evl_nil, var_ap, l4f, Option.map_some, Option.bind_some, append_ap (l := l4) HT.fs (show (rf fs).length ≤ szMax from by rw [rf_len, szm]; lia)]
      simp only [k8, rf, List.map_append, List.map_cons, List.map_nil])]
    rfl
  · rcases List.mem_append.mp hg with q | q
    · exact ff g q
    · rw [List.mem_singleton.mp q]; lia
  · have u3 : Up [4, 5, 7, a - 1, a + 1] k k3 := U3.mono fun j hj _ => by simp at hj ⊢; lia
    exact (((((u3.appR _).set (.inl (by simp))).set (.inr (by lia))).set (.inr (by lia))).set (.inl (by simp)))
end
end Mine.L
end
section
namespace Mine.L
section
variable {Γ : Nat → Option TI} {Δ : Nat → Option OI} {ex : Nat → Int} {cnt : Nat} {B : Int} {es : KE} {h h' : List AO}
theorem RS.step {a i : Nat} {t0 : TI} {k k' : List AO} (R : RS h Γ Δ cnt B a i t0 k) (u : Up [4, 5, 7] h k') (f : ∀ Γ' Δ' ex' cnt' es', Inv 0 Γ' Δ' ex' cnt' B es' k → Inv 0 Γ' Δ' ex' cnt' B es' k') : RS h Γ Δ cnt B a i t0 k' := by
  obtain ⟨Γ', Δ', ex', cnt', es', fs, I, r⟩ := R.ok
  exact ⟨⟨Γ', Δ', ex', cnt', es', fs, f _ _ _ _ _ I, r⟩, u⟩
theorem range_pick {k : List AO} {l : Str → Option AV} (H : HandOK k) {lim : Nat} (h0 : 0 < lim) (h1 : lim ≤ 6) {m : Nat} (hm : 8 ≤ m) (lh : l (S! "hand") = some (.ref 4)) : ∃ (d : Nat) (o : AO), d < lim ∧ HandOK (k.set 4 o) ∧
    bcall (.typ "range") [callf ((run theQ m).fn) 18 [var (S! "hand"), lit (.int lim)]] ⟨k, l⟩ = some (.ref k.length, ⟨k.set 4 o ++ [.rng d], l⟩) := by
  refine cps fun C kont => ?_
  refine ex2_4 (pick_ok H (lim := (lim : Int)) (by lia) (by lia) hm) fun d o c d0 dl hd => ?_
  obtain ⟨dN, rfl⟩ : ∃ dN : Nat, d = dN := ⟨d.toNat, by lia⟩
  refine kont ?_
  refine mk2_3 dN o (by lia) hd ?_
  simp only [bcall_ap, evl_cons, evl_nil, callf_ap, var_ap, lh, lit_ap, Option.map_some, Option.bind_some, c l, range_ap (h := k.set 4 o) (l := l) (k := (dN : Int)) (by lia) (by lia), List.length_set]
theorem record_ok (I : Inv 0 Γ Δ ex cnt B es h) (hc : cnt + 4 ≤ 60) (hB : B ≤ 2 ^ 40) {ps : List Nat} {p : Nat} (hp : h[p]? = some (.list (rf ps))) (p8 : 8 ≤ p) (pne : ps ≠ []) (pl : ps.length ≤ 40) (pin : ∀ x ∈ ps, ∃ t, Γ x = some t)
    {base : Option Nat} (hb : ∀ b, base = some b → ∃ u, Γ b = some u) {mod label : Str} (hlab : label ≠ S! "") (ll : label.length ≤ 1000) (shown : Bool) {m : Nat} (hm : 16 ≤ m) :
    ∃ h' Γ' Δ' ex' cnt' es' fs s, Call m 19 [.ref 4, .ref 6, .str mod, .str label, bv base, .ref p, .bool shown] h (.ref (h.length + 1)) h' ∧ Up [4, 5, 7] h h' ∧ Inv 0 Γ' Δ' ex' cnt' (8 * B) es' h' ∧ Gx h Γ Γ' ∧ Dx h Δ Δ' ∧ cnt' ≤ cnt + 4 ∧ es' ≠ [] ∧
      Γ' (h.length + 1) = some ⟨cnt + 1, S! "record", base, fs, [], mod, s⟩ := by
  refine cps fun C kont => ?_
  obtain ⟨n, rfl⟩ := ge_ex (show 16 ≤ m by assumption)
  have big := I.big
  have b4 := I.B4
  let l0 := env [(S! "hand", .ref 4), (S! "types", .ref 6), (S! "module", .str mod), (S! "label", .str label), (S! "base", bv base), (S! "pool", .ref p), (S! "shown", .bool shown)]
  let a := h.length + 1
  let lt' := upd l0 (S! "t") (.ref a)
  let t0' : TI := ⟨cnt + 1, S! "record", none, [], [], mod, 0⟩
  let t0 : TI := ⟨cnt + 1, S! "record", base, [], [], mod, 0⟩
  have hna : Γ a = none := I.noT (by lia)
  refine ex2_5 (new_ok (form := S! "record") (mod := mod) (label := label) (size := 0) I I.z0 (by lia) ⟨by lia, by lia⟩ hlab (show 6 ≤ n + 13 from Nat.le_add_left 6 (n + 7))) fun h1 es1 c1 U1 hl1 I1 ne1 => ?_
  obtain ⟨x2, w2, I2⟩ := I1.setBase (b := base) (pd' := 0) (updT_self _ _ _) (fun c hc' => by
    obtain ⟨u, hu⟩ := hb c hc'
    refine ⟨u, by rw [updT_ne _ _ (by rintro rfl; rw [hna] at hu; cases hu)]; exact hu, ?_⟩
    have := (I.G.num c u hu).2
    show u.num < (cnt : Int) + 1; lia) (fun _ q => by
      exfalso
      have q : S! "record" = S! "array" ∨ S! "record" = S! "pointer" ∨ S! "record" = S! "proc" := q
      rcases q with q | q | q <;> (rw [ofS_inj] at q; exact absurd q (by decide))) (.inr (.inl rfl))
  let h2 := h1.set (h.length + 1 - 1) (.flds (tyF (h.length + 1) { t0' with base := base } x2 (set1 ex (h.length + 1) 0 (h.length + 1))))
  have h2l : h2.length = h1.length := by simp [h2]
  have U2 : Up [4, 5, 7] h h2 := (U1.mono fun j hj _ => by simp at hj ⊢; lia).set (.inr (by lia))
  have R2 : RS h Γ Δ cnt B a 0 t0 h2 := by
    refine ⟨⟨_, Δ, _, cnt + 1, es1, [], I2, ((Gx.refl h Γ).upd _ (by lia) hna).upd _ (by lia) hna, Dx.refl _ _, by lia, ne1, updT_self _ _ _, by simp, by show (cnt : Int) + 1 ≤ ((cnt + 1 : Nat) : Int); lia, by simp⟩, U2⟩
  have lth : lt' (S! "hand") = some (.ref 4) := by kernel_rfl!
  obtain ⟨Γ2, Δ2, ex2, cnt2, es2, fs2, I2', _⟩ := R2.ok
  refine ex2_3 (range_pick (l := lt') I2'.hd (lim := 4) (by lia) (by lia) (show 8 ≤ n + 12 from Nat.le_add_left 8 (n + 4)) lth) fun d o3 dl hd3 er => ?_
  let h3 := h2.set 4 o3 ++ [AO.rng d]
  have er : bcall (.typ "range") [callf ((run theQ (n + 12)).fn) 18 [var (S! "hand"), lit (.int 4)]] ⟨h2, lt'⟩ = some (.ref h2.length, ⟨h3, lt'⟩) := er
  have hrng : h3[h2.length]? = some (.rng d) := by
    have q : h2.length = (h2.set 4 o3).length := by simp
    rw [q]; exact get_app0
  have h3l : h3.length = h1.length + 1 := by simp [h3, h2l]
  have R3 : RS h Γ Δ cnt B a 0 t0 h3 := R2.step ((U2.set (.inl (by simp))).appR _) (fun _ _ _ _ _ q => (q.set4 hd3).app _)
  let J : Nat → List AO → (Str → Option AV) → Prop := fun i k lk => RS h Γ Δ cnt B a i t0 k ∧ (∀ y, y ≠ S! "at" → y ≠ S! "held" → y ≠ S! "one_field" → lk y = lt' y)
  have look : ∀ {lk : Str → Option AV} {i : Nat}, (∀ y, y ≠ S! "at" → y ≠ S! "held" → y ≠ S! "one_field" → lk y = lt' y) → ∀ s : String, s ≠ "at" → s ≠ "held" → s ≠ "one_field" → upd lk (S! "at") (.int i) (S! s) = lt' (S! s) := fun {lk i} q s h1 h2 h3 => by
    rw [upd_ap, if_neg (dn h1)]; exact q _ (dn h1) (dn h2) (dn h3)
  obtain ⟨k, lk, e4, R4, L4⟩ := forN_range (x := S! "at") (N := d) (body := seq (L19_0 n)) (j := h3.length) J
    (fun i k lk o zp0 zp1 => by obtain ⟨q1, q2⟩ := zp0; obtain ⟨y, z, hz⟩ := zp1; exact ⟨q1.step (q1.up.set (.inr (by lia))) (fun _ _ _ _ _ q => q.setK hz rfl (by lia)), q2⟩)
    (fun i k lk hi zp2 zp3 => by
      obtain ⟨q1, q2⟩ := zp2
      obtain ⟨y, z, hz⟩ := zp3
      obtain ⟨k', l', r1, r2, r3, r4⟩ := rec_field hp p8 pne pl pin (a := a) (t0 := t0) (by lia) hna (by lia) rfl rfl (fun b hb' => by
          obtain ⟨u, hu⟩ := hb b hb'
          have := (I.G.num b u hu).2
          exact ⟨u, hu, by show u.num < (cnt : Int) + 1; lia⟩) (show i < 3 by lia) hc q1 n (l := upd lk (S! "at") (.int i)) (mod := mod) (label := label) (shown := shown)
        ((look q2 _ (by decide) (by decide) (by decide)).trans lth) ((look q2 _ (by decide) (by decide) (by decide)).trans (by kernel_rfl!)) ((look q2 _ (by decide) (by decide) (by decide)).trans (by kernel_rfl!)) ((look q2 _ (by decide) (by decide) (by decide)).trans (by kernel_rfl!))
        ((look q2 _ (by decide) (by decide) (by decide)).trans (by kernel_rfl!)) ((look q2 _ (by decide) (by decide) (by decide)).trans (by kernel_rfl!)) ((look q2 _ (by decide) (by decide) (by decide)).trans (by kernel_rfl!)) (by kernel_rfl!) ll
      exact ⟨.next, k', l', r1, .inl rfl, r3.2 _ (lt_of hz) (by simp; lia), r2, fun y y1 y2 y3 => by rw [r4 y y2 y3, upd_ap, if_neg y1]; exact q2 y y1 y2 y3⟩)
    d 0 (h3 ++ [.riter (0 : Nat) d]) lt' loops (by lia) (by unfold loops; lia) get_app0
    ⟨R3.step (R3.up.appR _) (fun _ _ _ _ _ q => q.app _), fun _ _ _ _ => rfl⟩
  obtain ⟨Γ4, Δ4, ex4, cnt4, es4, fs, I4, gx4, dx4, cc4, ne4, ea4, fl4, tn4, ff4⟩ := R4.ok
  refine ex2_3 (place_ok I4 hB ea4 (show 13 ≤ n + 13 from Nat.le_add_left 13 n)) fun h5 s c5 U5 I5 => ?_
  have lkt : lk (S! "t") = some (.ref a) := by rw [L4 _ (dn (by decide)) (dn (by decide)) (dn (by decide))]; simp only [upd_ap, if_true, lt']
  have hU4 := R4.up.1
  refine kont ?_
  refine mkE8 h5 _ Δ4 ex4 cnt4 es4 fs s ⟨fun l => ?_, ⟨Nat.le_trans hU4 U5.1, fun j hj hs => (U5.2 j (by lia) ?_).trans (R4.up.2 j hj hs)⟩, I5, gx4.upd _ (by lia) hna, dx4, by lia, ne4, updT_self _ _ _⟩
  · rw [fn19]
    apply frun_ret' (l' := lk)
    unfold B19
    show seq _ ⟨h, l0⟩ = _
    rw [seq_next (σ' := ⟨h1, lt'⟩) (by
      have q : evl [lit (.str (S! "record")), lit (.int 0), var (S! "module"), var (S! "label")] ⟨h, l0⟩ = some ([.str (S! "record"), .int 0, .str mod, .str label], ⟨h, l0⟩) := by simp only [lit_ap, var_ap, env_cons, if_true, if_false, Option.map_some, Option.bind_some, evl_cons, evl_nil, ofS_inj, String.reduceEq, l0]
      rw [setl_ap, types_new I (by kernel_rfl!) q, c1 l0]
      rfl)]
    rw [seq_next (σ' := ⟨h2, lt'⟩) (by
      have q1 : var (S! "base") ⟨h1, lt'⟩ = some (bv base, ⟨h1, lt'⟩) := by kernel_rfl!
      have q2 : var (S! "t") ⟨h1, lt'⟩ = some (.ref (h.length + 1), ⟨h1, lt'⟩) := by kernel_rfl!
      rw [seta_ap, q1]
      simp only [Option.bind_some, asgA_ap, q2, w2 lt', Option.map_some]
      rfl)]
    rw [seq_next (σ' := ⟨k, lk⟩) (forl_range (b := h2.length) (k := d) (h := h3) (l := lt') er hrng (by lia) e4)]
    rw [seq_next (σ' := ⟨h5, lk⟩) (by
      simp only [sE_ap, callf_ap, evl_cons, evl_nil, var_ap, lkt, Option.map_some, Option.bind_some, c5 lk])]
    apply seq_ret
    simp only [var_ap, Option.map_some, sRet_ap, lkt, a]
  · intro hm'
    refine cps fun C kont => ?_
    rcases List.mem_cons.mp hm' with q | q
    · have : a = h.length + 1 := rfl
      refine kont ?_
      lia
    · obtain ⟨f, hf, e⟩ := List.mem_map.mp q
      have := ff4 f hf
      have e : f - 1 = j := e
      refine kont ?_
      lia
end
end Mine.L
end
section
namespace Mine.L
section
variable {Γ : Nat → Option TI} {Δ : Nat → Option OI} {ex : Nat → Int} {cnt : Nat} {B : Int} {es : KE} {h h' : List AO}
structure PS (h : List AO) (Γ : Nat → Option TI) (Δ : Nat → Option OI) (ex : Nat → Int) (cnt : Nat) (B : Int) (es : KE) (a i : Nat) (t0 : TI) (k : List AO) : Prop where
  ok : ∃ (Γ' : Nat → Option TI) (Δ' : Nat → Option OI) (ps : List Nat), Inv a Γ' Δ' ex cnt B es k ∧ Gx h Γ Γ' ∧ Dx h Δ Δ' ∧ Γ' a = some { t0 with ps := ps } ∧ ps.length ≤ i ∧ ∀ f ∈ ps, h.length < f
  up : Up [4, 5, 7] h k
theorem PS.step {a i : Nat} {t0 : TI} {k k' : List AO} (R : PS h Γ Δ ex cnt B es a i t0 k) (u : Up [4, 5, 7] h k') (f : ∀ Γ' Δ', Inv a Γ' Δ' ex cnt B es k → Inv a Γ' Δ' ex cnt B es k') : PS h Γ Δ ex cnt B es a i t0 k' := by
  obtain ⟨Γ', Δ', fs, I, r⟩ := R.ok
  exact ⟨⟨Γ', Δ', fs, f _ _ I, r⟩, u⟩
theorem proc_par {ps : List Nat} {p a i : Nat} {t0 : TI} (hp : h[p]? = some (.list (rf ps))) (p8 : 8 ≤ p) (pne : ps ≠ []) (pl : ps.length ≤ 40) (pin : ∀ x ∈ ps, ∃ t, Γ x = some t) (ha : h.length < a) (hna : Γ a = none) (h40 : 42 ≤ h.length)
    (tf : t0.fs = []) (tb : t0.base = none) (hi : i < 3) {k : List AO} (R : PS h Γ Δ ex cnt B es a i t0 k) (n : Nat) {l : Str → Option AV}
    (q1 : l (S! "hand") = some (.ref 4)) (q5 : l (S! "pool") = some (.ref p)) (q7 : l (S! "t") = some (.ref a)) (q8 : l (S! "at") = some (.int i)) :
    ∃ k' l', seq (L20_0 n) ⟨k, l⟩ = some (.next, ⟨k', l'⟩) ∧ PS h Γ Δ ex cnt B es a (i + 1) t0 k' ∧ Up [4, 5, 7, a - 1, a + 2] k k' ∧ (∀ y, y ≠ S! "held" → y ≠ S! "par" → l' y = l y) := by
  obtain ⟨Γ1, Δ1, pr, I, gx, dx, ea, prl, ff⟩ := R.ok
  have U := R.up
  have hpl := lt_of hp
  have hk := U.1
  have pk : k[p]? = some (.list (rf ps)) := U.get hp (by simp; lia)
  have psl : (rf ps).length ≤ szMax := by rw [rf_len, szm]; lia
  have ppos : 0 < ps.length := by cases ps with | nil => exact absurd rfl pne | cons _ _ => simp
  refine ex2_4 (pick_ok I.hd (lim := (ps.length : Int)) (by lia) (by lia) (show 8 ≤ n + 11 from Nat.le_add_left 8 (n + 3))) fun d o1 d1 d0 dl hd1 => ?_
  let k1 := k.set 4 o1
  have I1 : Inv a Γ1 Δ1 ex cnt B es k1 := I.set4 hd1
  obtain ⟨dN, rfl⟩ : ∃ dN : Nat, d = dN := ⟨d.toNat, by lia⟩
  obtain ⟨x, hx⟩ : ∃ x, ps[dN]? = some x := ⟨_, List.getElem?_eq_getElem (by lia)⟩
  obtain ⟨tx, etx⟩ := pin x (List.mem_of_getElem? hx)
  have etx1 := gx.old x tx etx
  let la := upd l (S! "held") (.ref x)
  have pk1 : k1[p]? = some (.list (rf ps)) := (get_set_ne (by lia)).trans pk
  have s1 : setl (S! "held") (sub (var (S! "pool")) (callf ((run theQ (n + 11)).fn) 18 [var (S! "hand"), bcall (.bltn "len") [var (S! "pool")]])) ⟨k, l⟩ = some (.next, ⟨k1, la⟩) := by
    simp only [setl_ap, sub_ap, var_ap, q5, q1, Option.map_some, Option.bind_some, callf_ap, evl_cons, evl_nil, bcall_ap, len_ap (l := l) pk psl, rf_len, d1 l]
    rw [item_list (i := dN) pk1 psl (by unfold rf; rw [List.getElem?_map, hx]; rfl)]
    rfl
  have laH : la (S! "hand") = some (.ref 4) := Eq.trans (by kernel_rfl!) q1
  have lah : la (S! "held") = some (.ref x) := by kernel_rfl!
  have laa : la (S! "at") = some (.int i) := Eq.trans (by kernel_rfl!) q8
  have dl10 := digits_len i (by lia)
  have RX := (I1.W.ty x tx etx1).choose_spec.rd
  let nm' : Str := S! "p" ++ Str.ofString (toString (i : Int))
  let L2 : AO := .list [.str (S! "record"), .str (S! "array")]
  have kinds : ∃ k2 kd, evl [bino .Add (lit (.str (S! "p"))) (bcall (.typ "str") [var (S! "at")]), ifE (tAll .Or [tcmp .In (att (var (S! "held")) (S! "form")) (lst [lit (.str (S! "record")), lit (.str (S! "array"))]), tcmp .Eq (callf ((run theQ (n + 8)).fn) 18 [var (S! "hand"), lit (.int 2)]) (lit (.int 1))]) (lit (.str (S! "par"))) (lit (.str (S! "var"))), var (S! "held"), lit (.int 0)] ⟨k1, la⟩
      = some ([.str nm', .str kd, .ref x, .int 0], ⟨k2, la⟩) ∧ Inv a Γ1 Δ1 ex cnt B es k2 ∧ Up [4] k1 k2 := by
    have e1 : bino .Add (lit (.str (S! "p"))) (bcall (.typ "str") [var (S! "at")]) ⟨k1, la⟩ = some (.str nm', ⟨k1, la⟩) := by
      simp only [evl_cons, evl_nil, lit_ap, var_ap, laa, Option.map_some, Option.bind_some, bino_ap, bcall_ap, str_ap (h := k1) (l := la) i (by lia), add_str,
        show (S! "p").length ≤ szMax from by decide +kernel, show (Str.ofString (toString (i : Int))).length ≤ szMax from by rw [szm]; lia, and_self, if_true]
      rfl
    have I2 := I1.app [L2]
    have tin := in2 (e := att (var (S! "held")) (S! "form")) (σ := ⟨k1, la⟩) (h := k1) (l := la) (s := tx.form) (a := S! "record") (b := S! "array") (by simp only [att_ap, var_ap, lah, Option.map_some, Option.bind_some, RX])
    cases hb : (S! "record" == tx.form || (S! "array" == tx.form || false)) with
    | true =>
      refine mk2_3 (k1 ++ [L2]) (S! "par") ?_ I2 (Up.app _ _ _)
      rw [hb] at tin
      simp only [evl_cons, evl_nil, e1, Option.bind_some, ifE_ap, tor2, tin, lit_ap, var_ap, lah, Option.map_some, ifK_t, orK_t]
      rfl
    | false =>
      rw [hb] at tin
      refine ex2_4 (pick_ok I2.hd (lim := 2) (by lia) (by lia) (show 8 ≤ n + 8 from Nat.le_add_left 8 n)) fun d' o2 d2 _ _ hd2 => ?_
      have I3 := I2.set4 hd2
      refine mk2_3 ((k1 ++ [L2]).set 4 o2) (if d' == 1 then S! "par" else S! "var") ?_ I3 ((Up.app _ _ _).set (.inl (by simp)))
      have te : tcmp .Eq (callf ((run theQ (n + 8)).fn) 18 [var (S! "hand"), lit (.int 2)]) (lit (.int 1)) ⟨k1 ++ [L2], la⟩ = some (d' == 1, ⟨(k1 ++ [L2]).set 4 o2, la⟩) := by
        simp only [tcmp_ap, callf_ap, evl_cons, evl_nil, var_ap, laH, lit_ap, Option.map_some, Option.bind_some, d2 la, c_eq, s_int]
      have tin' : tcmp .In (att (var (S! "held")) (S! "form")) (lst [lit (.str (S! "record")), lit (.str (S! "array"))]) ⟨k1, la⟩ = some (false, ⟨k1 ++ [L2], la⟩) := tin
      rw [evl_cons, e1]
      simp only [Option.bind_some]
      rw [evl_cons, ifE_ap, tor2, tin']
      simp only [Option.bind_some, orK_f]
      rw [te]
      simp only [Option.bind_some]
      cases d' == 1 with
      | true => simp only [if_true, lit_ap, Option.bind_some, evl_cons, evl_nil, var_ap, lah, Option.map_some, ifK_t]
      | false => simp only [Bool.false_eq_true, if_false, lit_ap, Option.bind_some, evl_cons, evl_nil, var_ap, lah, Option.map_some, ifK_f]
  refine ex2_3 (kinds) fun k2 kd ek2 I2 U12 => ?_
  clear kinds
  have k2l := U12.1
  have k1l : k1.length = k.length := by simp [k1]
  let oi : OI := ⟨nm', kd, x, false⟩
  let ox : OX := ⟨.bool false, .str (S! ""), .none, .int 0, .int 0, .bool false⟩
  let f := k2.length + 1
  let k3 := k2 ++ [AO.flds (obF oi ox 0), .inst 2 k2.length]
  have I3 : Inv a Γ1 (updT Δ1 f oi) ex cnt B es k3 := I2.newOb (o := oi) (x := ox) ⟨tx, etx1⟩
  let lb := upd la (S! "par") (.ref f)
  have s2 : setl (S! "par") (newc ((run theQ (n + 12)).fn) 2 7 [bino .Add (lit (.str (S! "p"))) (bcall (.typ "str") [var (S! "at")]), ifE (tAll .Or [tcmp .In (att (var (S! "held")) (S! "form")) (lst [lit (.str (S! "record")), lit (.str (S! "array"))]), tcmp .Eq (callf ((run theQ (n + 8)).fn) 18 [var (S! "hand"), lit (.int 2)]) (lit (.int 1))]) (lit (.str (S! "par"))) (lit (.str (S! "var"))), var (S! "held"), lit (.int 0)]) ⟨k1, la⟩
      = some (.next, ⟨k3, lb⟩) := by
    rw [setl_ap, mkOb_ok (n := 0) (h := k2) (l := la) (name := nm') (kind := kd) (ty := x) ek2 (by have := I2.big; lia) (show 3 ≤ n + 12 from Nat.le_add_left 3 (n + 9))]
    rfl
  have lbH : lb (S! "hand") = some (.ref 4) := Eq.trans (by kernel_rfl!) laH
  have lbp : lb (S! "par") = some (.ref f) := by kernel_rfl!
  have lbt : lb (S! "t") = some (.ref a) := Eq.trans (by kernel_rfl!) q7
  have RO3 := (I3.W.ob f oi (updT_self _ _ _)).choose_spec.rd
  have ro : ∃ k4 b, bopE .And (cmpE .Eq (att (var (S! "par")) (S! "kind")) (lit (.str (S! "par")))) (cmpE .Eq (callf ((run theQ (n + 10)).fn) 18 [var (S! "hand"), lit (.int 2)]) (lit (.int 1))) ⟨k3, lb⟩ = some (.bool b, ⟨k4, lb⟩) ∧ Inv a Γ1 (updT Δ1 f oi) ex cnt B es k4 ∧ Up [4] k3 k4 := by
    rw [and_ap]
    have : cmpE .Eq (att (var (S! "par")) (S! "kind")) (lit (.str (S! "par"))) ⟨k3, lb⟩ = some (.bool (kd == S! "par"), ⟨k3, lb⟩) := by
      simp only [cmpE_ap, att_ap, var_ap, lbp, lit_ap, Option.map_some, Option.bind_some, RO3, c_eq, s_str]
      rfl
    rw [this]
    simp only [Option.bind_some]
    cases kd == S! "par" with
    | false => exact mk2_3 k3 false rfl I3 (Up.refl _ _)
    | true =>
      refine ex2_4 (pick_ok I3.hd (lim := 2) (by lia) (by lia) (show 8 ≤ n + 10 from Nat.le_add_left 8 (n + 2))) fun d' o2 d2 _ _ hd2 => ?_
      refine mk2_3 (k3.set 4 o2) (d' == 1) ?_ (I3.set4 hd2) ((Up.refl _ _).set (.inl (by simp)))
      simp only [cmpE_ap, callf_ap, evl_cons, evl_nil, var_ap, lbH, lit_ap, Option.map_some, Option.bind_some, d2 lb, c_eq, s_int, andE_t]
  refine ex2_3 (ro) fun k4 b ek4 I4 U34 => ?_
  clear ro
  have k4l := U34.1
  have k3l : k3.length = k2.length + 2 := by simp [k3]
  obtain ⟨x4, HO'⟩ := I4.W.ob f oi (updT_self _ _ _)
  have HO : IsOb k4 f oi x4 0 := HO'
  let k5 := k4.set (f - 1) (.flds (obF oi { x4 with ro := .bool b } 0))
  have I5 : Inv a Γ1 (updT (updT Δ1 f oi) f oi) ex cnt B es k5 := I4.modOb (o' := oi) (x' := { x4 with ro := .bool b }) (updT_self _ _ _) HO ⟨tx, etx1⟩
  obtain ⟨x8, HT⟩ := I5.W.ty a _ ea
  let t1 : TI := { t0 with ps := pr ++ [f] }
  let k8 := k5.set (a + 2) (.list (rf (pr ++ [f])))
  have HT8 : IsTy k8 a t1 x8 (ex a) := HT.putP (pr ++ [f])
  have I8 := I5.modTy (t' := t1) (x' := x8) (v := ex a) (h' := k8) (pd' := a) (B' := B) ea HT HT8 (by simp [k8]) (fun j _ _ q => get_set_ne (fun q2 => q q2.symm)) (by show ∀ f ∈ t0.fs, _; rw [tf]; simp) (fun g hg => by
      rcases List.mem_append.mp hg with q | q
      · exact I5.G.ps a _ ea g q
      · rw [List.mem_singleton.mp q]; exact ⟨oi, updT_self _ _ _⟩) (by show t0.fs.length ≤ 3; rw [tf]; simp) (by show (pr ++ [f]).length ≤ 3; simp; lia)
    (fun c hc => by have hc : t0.base = some c := hc; rw [tb] at hc; cases hc) rfl (fun q => absurd rfl q) (.inl rfl) rfl (Int.le_refl _) (I5.sz a { t0 with ps := pr } ea) (I5.zero a { t0 with ps := pr } ea)
  rw [set1_same] at I8
  have f5 : f - 1 = k2.length := by simp [f]
  have hnΔ : Δ f = none := by
    cases q : Δ f with
    | none => rfl
    | some t => have := dx.old _ t q; rw [I2.noO (by lia)] at this; cases this
  have hal : a + 2 < k2.length := I2.W.ltT a _ ea
  have m4 : ∀ {x y : List AO}, Up [4] x y → Up [4, 5, 7] x y := fun u => u.mono fun j hj _ => by simp at hj ⊢; lia
  have m4' : ∀ {x y : List AO}, Up [4] x y → Up [4, 5, 7, a - 1, a + 2] x y := fun u => u.mono fun j hj _ => by simp at hj ⊢; lia
  have Uh : Up [4, 5, 7] h k8 := ((((((U.set (.inl (by simp))).trans (m4 U12)).appR _).trans (m4 U34)).set (.inr (by lia))).set (.inr (by lia)))
  refine mk2_4 k8 lb ?_ (⟨⟨_, _, pr ++ [f], I8, gx.upd _ ha hna, (dx.upd _ (by lia) hnΔ).upd _ (by lia) hnΔ, updT_self _ _ _, by simp; lia, fun g hg => ?_⟩, Uh⟩) ?_ (fun z z1 z2 => (upd_ap ..).trans ((if_neg z2).trans ((upd_ap ..).trans (if_neg z1))))
  · unfold L20_0
    rw [seq_next s1, seq_next s2]
    rw [seq_next (σ' := ⟨k5, lb⟩) (by
      rw [seta_ap, ek4]
      simp only [Option.bind_some, asgA_ap, var_ap, lbp, Option.map_some, HO.wr]
      rfl)]
    rw [seq_next (σ' := ⟨k8, lb⟩) (by
      have hat : att (var (S! "t")) (S! "params") ⟨k5, lb⟩ = some (.ref (a + 2), ⟨k5, lb⟩) := by simp only [att_ap, var_ap, lbt, Option.map_some, Option.bind_some, HT.rd]
      rw [sE_ap, lmeth (k := a + 2) (σ' := ⟨k5, lb⟩) (xs := rf pr) hat HT.ps]
      simp only [evl_cons, evl_nil, var_ap, lbp, Option.map_some, Option.bind_some, append_ap (l := lb) HT.ps (show (rf pr).length ≤ szMax from by rw [rf_len, szm]; lia)]
      simp only [k8, rf, List.map_append, List.map_cons, List.map_nil])]
    rfl
  · rcases List.mem_append.mp hg with q | q
    · exact ff g q
    · rw [List.mem_singleton.mp q]; lia
  · exact (((((((Up.refl _ k).set (.inl (by simp))).trans (m4' U12)).appR _).trans (m4' U34)).set (.inr (by lia))).set (.inl (by simp)))
theorem procedure_ok (I : Inv 0 Γ Δ ex cnt B es h) (hc : cnt + 1 ≤ 60) {ps : List Nat} {p : Nat} (hp : h[p]? = some (.list (rf ps))) (p8 : 8 ≤ p) (pne : ps ≠ []) (pl : ps.length ≤ 40) (pin : ∀ x ∈ ps, ∃ t, Γ x = some t)
    {label : Str} (hlab : label ≠ S! "") {m : Nat} (hm : 16 ≤ m) :
    ∃ h' Γ' Δ' ex' es' t, Call m 20 [.ref 4, .ref 6, .str label, .ref p] h (.ref (h.length + 1)) h' ∧ Up [4, 5, 7] h h' ∧ Inv 0 Γ' Δ' ex' (cnt + 1) B es' h' ∧ Gx h Γ Γ' ∧ Dx h Δ Δ' ∧ es' ≠ [] ∧ Γ' (h.length + 1) = some t := by
  obtain ⟨n, rfl⟩ := ge_ex (show 16 ≤ m by assumption)
  have big := I.big
  have b4 := I.B4
  let l0 := env [(S! "hand", .ref 4), (S! "types", .ref 6), (S! "label", .str label), (S! "pool", .ref p)]
  let a := h.length + 1
  let lt' := upd l0 (S! "t") (.ref a)
  let t0 : TI := ⟨cnt + 1, S! "proc", none, [], [], S! "M", 4⟩
  have hna : Γ a = none := I.noT (by lia)
  refine ex2_5 (new_ok (form := S! "proc") (mod := S! "M") (label := label) (size := 4) I I.z0 (by (clear_value *; lia)) ⟨by (clear_value *; lia), b4⟩ hlab (show 6 ≤ n + 13 from Nat.le_add_left 6 (n + 7))) fun h1 es1 c1 U1 hl1 I1 ne1 => ?_
  have U1' : Up [4, 5, 7] h h1 := U1.mono fun j hj _ => by simp at hj ⊢; (clear_value *; lia)
  have lth : lt' (S! "hand") = some (.ref 4) := by kernel_rfl!
  refine ex2_3 (range_pick (l := lt') I1.hd (lim := 3) (by (clear_value *; lia)) (by (clear_value *; lia)) (show 8 ≤ n + 12 from Nat.le_add_left 8 (n + 4)) lth) fun d o3 dl hd3 er => ?_
  let h3 := h1.set 4 o3 ++ [AO.rng d]
  have er : bcall (.typ "range") [callf ((run theQ (n + 12)).fn) 18 [var (S! "hand"), lit (.int 3)]] ⟨h1, lt'⟩ = some (.ref h1.length, ⟨h3, lt'⟩) := er
  have hrng : h3[h1.length]? = some (.rng d) := by
    have q : h1.length = (h1.set 4 o3).length := by simp
    rw [q]; exact get_app0
  have h3l : h3.length = h1.length + 1 := by simp [h3]
  let ex1 := set1 ex (h.length + 1) 0
  have R3 : PS h Γ Δ ex1 (cnt + 1) B es1 a 0 t0 h3 := ⟨⟨_, Δ, [], (I1.set4 hd3).app _, (Gx.refl h Γ).upd _ (by (clear_value *; lia)) hna, Dx.refl _ _, updT_self _ _ _, by simp, by simp⟩, (U1'.set (.inl (by simp))).appR _⟩
  let J : Nat → List AO → (Str → Option AV) → Prop := fun i k lk => PS h Γ Δ ex1 (cnt + 1) B es1 a i t0 k ∧ (∀ y, y ≠ S! "at" → y ≠ S! "held" → y ≠ S! "par" → lk y = lt' y)
  have look : ∀ {lk : Str → Option AV} {i : Nat}, (∀ y, y ≠ S! "at" → y ≠ S! "held" → y ≠ S! "par" → lk y = lt' y) → ∀ s : String, s ≠ "at" → s ≠ "held" → s ≠ "par" → upd lk (S! "at") (.int i) (S! s) = lt' (S! s) := fun {lk i} q s h1 h2 h3 => by
    rw [upd_ap, if_neg (dn h1)]; exact q _ (dn h1) (dn h2) (dn h3)
  obtain ⟨k, lk, e4, R4, L4⟩ := forN_range (x := S! "at") (N := d) (body := seq (L20_0 n)) (j := h3.length) J
    (fun i k lk o zp0 zp1 => by obtain ⟨q1, q2⟩ := zp0; obtain ⟨y, z, hz⟩ := zp1; exact ⟨q1.step (q1.up.set (.inr (by (clear_value *; lia)))) (fun _ _ q => q.setK hz rfl (by (clear_value *; lia))), q2⟩)
    (fun i k lk hi zp2 zp3 => by
      obtain ⟨q1, q2⟩ := zp2
      obtain ⟨y, z, hz⟩ := zp3
      obtain ⟨k', l', r1, r2, r3, r4⟩ := proc_par hp p8 pne pl pin (a := a) (t0 := t0) (by lia) hna (by (clear_value *; lia)) rfl rfl (show i < 3 by (clear_value *; lia)) q1 n (l := upd lk (S! "at") (.int i))
        ((look q2 _ (by decide) (by decide) (by decide)).trans lth) ((look q2 _ (by decide) (by decide) (by decide)).trans (by kernel_rfl!)) ((look q2 _ (by decide) (by decide) (by decide)).trans (by kernel_rfl!)) (by kernel_rfl!)
      exact ⟨.next, k', l', r1, .inl rfl, r3.2 _ (lt_of hz) (by simp; lia), r2, fun y y1 y2 y3 => by rw [r4 y y2 y3, upd_ap, if_neg y1]; exact q2 y y1 y2 y3⟩)
    d 0 (h3 ++ [.riter (0 : Nat) d]) lt' loops (by (clear_value *; lia)) (by unfold loops; (clear_value *; lia)) get_app0
    ⟨R3.step (R3.up.appR _) (fun _ _ q => q.app _), fun _ _ _ _ => rfl⟩
  obtain ⟨Γ4, Δ4, pr, I4, gx4, dx4, ea4, prl4, ff4⟩ := R4.ok
  have lk' : ∀ s : String, s ≠ "at" → s ≠ "held" → s ≠ "par" → lk (S! s) = lt' (S! s) := fun s h1 h2 h3 => L4 _ (dn h1) (dn h2) (dn h3)
  have lkt : lk (S! "t") = some (.ref a) := (lk' _ (by decide) (by decide) (by decide)).trans (by kernel_rfl!)
  have lkh : lk (S! "hand") = some (.ref 4) := (lk' _ (by decide) (by decide) (by decide)).trans lth
  have lkT : lk (S! "types") = some (.ref 6) := (lk' _ (by decide) (by decide) (by decide)).trans (by kernel_rfl!)
  refine ex2_4 (pick_ok I4.hd (lim := 2) (by (clear_value *; lia)) (by (clear_value *; lia)) (show 8 ≤ n + 11 from Nat.le_add_left 8 (n + 3))) fun d5 o5 c5 _ _ hd5 => ?_
  let k5 := k.set 4 o5
  have I5 : Inv a Γ4 Δ4 ex1 (cnt + 1) B es1 k5 := I4.set4 hd5
  let bb : Nat := if d5 = 0 then 39 else 24
  have hbb : bb ∈ basics := by show (if d5 = 0 then 39 else 24) ∈ basics; split <;> simp [basics]
  obtain ⟨u, hu⟩ := I.bas bb hbb
  have un := (I.G.num bb u hu).2
  obtain ⟨x6, w6, I6⟩ := I5.setBase (b := some bb) (pd' := 0) ea4 (fun c hc' => by cases hc'; exact ⟨u, gx4.old bb u hu, by show u.num < (cnt : Int) + 1; (clear_value *; lia)⟩) (fun _ _ => ⟨bb, rfl⟩) (.inr (.inl rfl))
  let t6 : TI := { ({ t0 with ps := pr } : TI) with base := some bb }
  let k6 := k5.set (a - 1) (.flds (tyF a t6 x6 (ex1 a)))
  have I6 : Inv 0 (updT Γ4 a t6) Δ4 ex1 (cnt + 1) B es1 k6 := I6
  refine ex2_3 (params_ok I6 (updT_self _ _ _) (show 13 ≤ n + 13 from Nat.le_add_left 13 n)) fun h7 v7 c7 U7 I7 => ?_
  obtain ⟨xa, HT6⟩ := I6.W.ty a t6 (updT_self _ _ _)
  have hU4 := R4.up.1
  have k6l : k6.length = k.length := by simp [k6, k5]
  refine ⟨h7, _, Δ4, ex1, es1, t6, fun l => ?_, ⟨by have := U7.1; (clear_value *; lia), fun j hj hs => ?_⟩, I7, gx4.upd _ (by lia) hna, dx4, ne1, updT_self _ _ _⟩
  · rw [fn20]
    apply frun_ret' (l' := lk)
    unfold B20
    show seq _ ⟨h, l0⟩ = _
    rw [seq_next (σ' := ⟨h1, lt'⟩) (by
      have q : evl [lit (.str (S! "proc")), lit (.int 4), lit (.str (S! "M")), var (S! "label")] ⟨h, l0⟩ = some ([.str (S! "proc"), .int 4, .str (S! "M"), .str label], ⟨h, l0⟩) := by simp only [lit_ap, var_ap, env_cons, if_true, if_false, Option.map_some, Option.bind_some, evl_cons, evl_nil, ofS_inj, String.reduceEq, l0]
      rw [setl_ap, types_new I (by kernel_rfl!) q, c1 l0]
      rfl)]
    rw [seq_next (σ' := ⟨k, lk⟩) (forl_range (b := h1.length) (k := d) (h := h3) (l := lt') er hrng (by (clear_value *; lia)) e4)]
    rw [seq_next (σ' := ⟨k6, lk⟩) (by
      have tE : tcmp .Eq (callf ((run theQ (n + 11)).fn) 18 [var (S! "hand"), lit (.int 2)]) (lit (.int 0)) ⟨k, lk⟩ = some (d5 == 0, ⟨k5, lk⟩) := by
        simp only [tcmp_ap, callf_ap, evl_cons, evl_nil, var_ap, lkh, lit_ap, Option.map_some, Option.bind_some, c5 lk, c_eq, s_int]
        rfl
      have bE : ifE (tcmp .Eq (callf ((run theQ (n + 11)).fn) 18 [var (S! "hand"), lit (.int 2)]) (lit (.int 0))) (att (var (S! "types")) (S! "none")) (att (var (S! "types")) (S! "integer")) ⟨k, lk⟩ = some (bv (some bb), ⟨k5, lk⟩) := by
        rw [ifE_ap, tE]
        simp only [Option.bind_some]
        have rd := ts_rd I5.t5 I5.t6
        by_cases h0 : d5 = 0
        · simp only [h0, beq_self_eq_true, if_true, att_ap, var_ap, lkT, Option.map_some, Option.bind_some, rd, bb, bv, ifK_t]
        · have : (d5 == 0) = false := by simpa using h0
          simp only [this, if_false, att_ap, var_ap, lkT, Option.map_some, Option.bind_some, rd, bb, h0, bv, ifK_f]
      rw [seta_ap, bE]
      simp only [Option.bind_some, asgA_ap, var_ap, lkt, Option.map_some, w6 lk]
      rfl)]
    rw [seq_next (σ' := ⟨h7, lk⟩) (by
      simp only [sE_ap, callf_ap, evl_cons, evl_nil, att_ap, var_ap, lkt, Option.map_some, Option.bind_some, HT6.rd, lit_ap, c7 lk])]
    apply seq_ret
    simp only [var_ap, Option.map_some, sRet_ap, lkt, a]
  · have e7 : h7[j]? = k6[j]? := U7.2 j (by (clear_value *; lia)) (fun hm' => by
      obtain ⟨f, hf, e⟩ := List.mem_map.mp hm'
      have := ff4 f hf
      have e : f - 1 = j := e
      (clear_value *; lia))
    have aj : a = h.length + 1 := rfl
    have e6 : k6[j]? = k[j]? := by
      show ((k.set 4 o5).set (a - 1) _)[j]? = _
      rw [get_set_ne (by (clear_value *; lia)), get_set_ne (by rintro rfl; simp at hs)]
    exact e7.trans (e6.trans (R4.up.2 j hj hs))
end
end Mine.L
end
section
namespace Mine.L
section
variable {pd : Nat} {Γ : Nat → Option TI} {Δ : Nat → Option OI} {ex : Nat → Int} {cnt : Nat} {B : Int} {es : KE} {h h' : List AO}
theorem new0_ok (I : Inv pd Γ Δ ex cnt B es h) (hpd : Γ pd = none) (hc : cnt < 60) {form : Str} {size : Int} (hs : 0 ≤ size ∧ size ≤ B) {m : Nat} (hm : 6 ≤ m) :
    ∃ h2, Call m 9 [.ref 6, .str form, .int size] h (.ref (h.length + 1)) h2 ∧ Up [4, 5, 7] h h2 ∧ h.length + 5 ≤ h2.length ∧ Inv (h.length + 1) (updT Γ (h.length + 1) ⟨cnt + 1, form, none, [], [], S! "", size⟩) Δ (set1 ex (h.length + 1) 0) (cnt + 1) B es h2 := by
  obtain ⟨n, rfl⟩ := ge_ex (show 6 ≤ m by assumption)
  have hb := I.big
  let t : TI := ⟨cnt + 1, form, none, [], [], S! "", size⟩
  let g := h.set 5 (.flds (tsF (cnt + 1)))
  have gl : g.length = h.length := by simp [g]
  let h1 := g ++ blk (h.length + 1) t ⟨0, 0, S! ""⟩
  have h1l : h1.length = h.length + 5 := by simp [h1, gl, blk]
  have U : Up [5, 7] h h1 := ((Up.refl _ _).set (.inl (by simp))).appR _
  have HT : IsTy h1 (h.length + 1) t ⟨0, 0, S! ""⟩ 0 := by
    have := isTy_blk (h := g) (t := t) (x := ⟨0, 0, S! ""⟩) rfl rfl []
    rw [gl, List.append_nil] at this
    exact this
  have e5 : h1[5]? = some (.flds (tsF (cnt + 1 : Nat))) := (get_lt (by (clear_value *; lia))).trans (get_set I.t5)
  have e7 : h1[7]? = some (knAO es) := (get_lt (by (clear_value *; lia))).trans ((get_set_ne (by decide)).trans I.kn)
  refine ⟨h1, fun l => ?_, U.mono fun j hj _ => by simp at hj ⊢; (clear_value *; lia), by (clear_value *; lia), new_inv I hpd hc U (by (clear_value *; lia)) HT rfl rfl rfl rfl hs e5 e7 (fun e he => ?_) (by have := I.kl; (clear_value *; lia))⟩
  · rw [fn9_2]
    let l0 := env [(S! "self", .ref 6), (S! "form", .str form), (S! "size", .int size), (S! "module", .str (S! "")), (S! "label", .str (S! ""))]
    let lm := upd l0 (S! "made") (.ref (h.length + 1))
    apply frun_ret' (l' := lm)
    unfold B9
    rw [new_first (form := form) (mod := S! "") (label := S! "") (size := size) I.t5 I.t6 (by (clear_value *; lia)) (by kernel_rfl!) (by kernel_rfl!) (by kernel_rfl!) (by kernel_rfl!) (by kernel_rfl!)]
    have q1 : var (S! "label") ⟨h1, lm⟩ = some (.str (S! ""), ⟨h1, lm⟩) := by kernel_rfl!
    rw [show (⟨h.set 5 (.flds (tsF (cnt + 1))) ++ blk (h.length + 1) ⟨cnt + 1, form, none, [], [], S! "", size⟩ ⟨0, 0, S! ""⟩, upd (env [(Str.ofString "self", AV.ref 6), (Str.ofString "form", AV.str form), (Str.ofString "size", AV.int size), (Str.ofString "module", AV.str (Str.ofString "")), (Str.ofString "label", AV.str (Str.ofString ""))]) (S! "made") (AV.ref (h.length + 1))⟩ : St) = ⟨h1, lm⟩ from rfl]
    rw [seq_next (σ' := ⟨h1, lm⟩) (by
      rw [iff_ap, tcmp_ap, q1]
      simp only [Option.bind_some, lit_ap, c_ne, b_str, beq_self_eq_true, Option.map_some, Bool.not_true, brS_f]
      rfl)]
    apply seq_ret
    simp only [var_ap, upd_ap, if_true, Option.map_some, sRet_ap, lm]
  · have q := (I.ks e he).1
    refine ⟨U.get q ?_, ?_⟩
    · intro hm
      refine cps fun C kont => ?_
      simp at hm
      rcases hm with hm | hm
      · refine kont ?_
        rw [hm, I.t5] at q; cases q
      · rw [hm, I.kn] at q
        refine kont ?_
        cases hes : es <;> (rw [hes] at q; simp [knAO] at q)
    · obtain ⟨a, u, z1, z2, z3⟩ := (I.ks e he).2
      exact ⟨a, u, z1, by rw [updT_ne _ _ (by rintro rfl; rw [I.noT (by (clear_value *; lia))] at z2; cases z2)]; exact z2, z3⟩
theorem string_ok (I : Inv 0 Γ Δ ex cnt B es h) (hc : cnt < 60) {size : Int} (hs : 0 ≤ size ∧ size ≤ B) {m : Nat} (hm : 9 ≤ m) :
    ∃ h' Γ' ex' t, Call m 10 [.ref 6, .int size] h (.ref (h.length + 1)) h' ∧ Up [4, 5, 7] h h' ∧ Inv 0 Γ' Δ ex' (cnt + 1) B es h' ∧ Gx h Γ Γ' ∧ Γ' (h.length + 1) = some t := by
  refine cps fun C kont => ?_
  obtain ⟨n, rfl⟩ := ge_ex (show 9 ≤ m by assumption)
  have big := I.big
  have hna : Γ (h.length + 1) = none := I.noT (by lia)
  refine ex1_4 (new0_ok (form := S! "string") I I.z0 hc hs (show 6 ≤ n + 6 from Nat.le_add_left 6 n)) fun h1 c1 U1 l1 I1 => ?_
  have I1 := I1.unpend (fun t e q => by
    rw [updT_self] at e; cases e
    exfalso
    have q : S! "string" = S! "array" ∨ S! "string" = S! "pointer" ∨ S! "string" = S! "proc" := q
    rcases q with q | q | q <;> (rw [ofS_inj] at q; exact absurd q (by decide)))
  obtain ⟨x, HT⟩ := I1.W.ty (h.length + 1) _ (updT_self _ _ _)
  have I2 := I1.modTx (x' := { x with length := size }) (updT_self _ _ _) HT
  obtain ⟨u, hu⟩ := I.bas 14 (by simp [basics])
  have un := (I.G.num 14 u hu).2
  have ne14 : 14 ≠ h.length + 1 := by lia
  refine kont ?_
  obtain ⟨x3, w3, I3⟩ := I2.setBase (b := some 14) (pd' := 0) (updT_self _ _ _) (fun c hc' => by cases hc'; exact ⟨u, by rw [updT_ne _ _ ne14]; exact hu, by show u.num < (cnt : Int) + 1; lia⟩) (fun _ _ => ⟨14, rfl⟩) (.inl rfl)
  let l0 := env [(S! "self", .ref 6), (S! "length", .int size)]
  let lm := upd l0 (S! "made") (.ref (h.length + 1))
  have lms : lm (S! "self") = some (.ref 6) := by kernel_rfl!
  have lml : lm (S! "length") = some (.int size) := by kernel_rfl!
  have lmm : lm (S! "made") = some (.ref (h.length + 1)) := by kernel_rfl!
  refine ⟨_, _, _, _, fun l => ?_, ((U1.set (.inr (by lia))).set (.inr (by lia))), I3, ((Gx.refl h Γ).upd _ (by lia) hna).upd _ (by lia) hna, updT_self _ _ _⟩
  rw [fn10]
  apply frun_ret' (l' := lm)
  unfold B10
  show seq _ ⟨h, l0⟩ = _
  rw [seq_next (σ' := ⟨h1, lm⟩) (by
    rw [setl_ap, imeth (k := 6) (c := 3) (d := 5) (m := 9) (σ' := ⟨h, l0⟩) (fs := tsF cnt) (K := ⟨8, [(Str.ofString "new", 9), (Str.ofString "string", 10)], typesAttrs⟩) (by kernel_rfl!) I.t6 I.t5 rfl (by kernel_rfl) (by kernel_rfl)]
    have q : evl [lit (.str (S! "string")), var (S! "length")] ⟨h, l0⟩ = some ([.str (S! "string"), .int size], ⟨h, l0⟩) := by simp only [lit_ap, var_ap, env_cons, if_true, if_false, Option.map_some, Option.bind_some, evl_cons, evl_nil, ofS_inj, String.reduceEq, l0]
    rw [q]
    simp only [Option.bind_some, c1 l0]
    rfl)]
  rw [seq_next (by
    rw [seta_ap, var_ap, lml]
    simp only [Option.map_some, Option.bind_some, asgA_ap, var_ap, lmm, HT.wr]
    rfl)]
  rw [seq_next (by
    rw [seta_ap, att_ap, var_ap, lms]
    simp only [Option.map_some, Option.bind_some, ts_rd I2.t5 I2.t6, asgA_ap, var_ap, lmm]
    rw [show (AV.ref 14) = bv (some 14) from rfl, w3 lm]
    rfl)]
  apply seq_ret
  simp only [var_ap, sRet_ap, lmm, Option.map_some]
theorem const_ok (I : Inv 0 Γ Δ ex cnt B es h) (hc : cnt < 60) {m : Nat} (hm : 15 ≤ m) :
    ∃ h' Γ' ex' cnt' y v r, Call m 22 [.ref 4, .ref 6] h (.ref r) h' ∧ Up [4, 5, 7] h h' ∧ Inv 0 Γ' Δ ex' cnt' B es h' ∧ Gx h Γ Γ' ∧ cnt' ≤ cnt + 1 ∧ h'[r]? = some (.tup [.ref y, v]) ∧ ∃ t, Γ' y = some t := by
  refine cps fun C kont => ?_
  obtain ⟨n, rfl⟩ := ge_ex (show 15 ≤ m by assumption)
  have big := I.big
  have b4 := I.B4
  let l0 := env [(S! "hand", .ref 4), (S! "types", .ref 6)]
  refine ex2_4 (pick_ok I.hd (lim := 6) (by (clear_value *; lia)) (by (clear_value *; lia)) (show 8 ≤ n + 12 from Nat.le_add_left 8 (n + 4))) fun f o1 c1 f0 f1 hd1 => ?_
  let h1 := h.set 4 o1
  have I1 : Inv 0 Γ Δ ex cnt B es h1 := I.set4 hd1
  have U1 : Up [4, 5, 7] h h1 := (Up.refl _ _).set (.inl (by simp))
  have h1l : h1.length = h.length := by simp [h1]
  let lf := upd l0 (S! "form") (.int f)
  have lfh : lf (S! "hand") = some (.ref 4) := by kernel_rfl!
  have lft : lf (S! "types") = some (.ref 6) := by kernel_rfl!
  have lff : lf (S! "form") = some (.int f) := by kernel_rfl!
  have s1 : setl (S! "form") (callf ((run theQ (n + 12)).fn) 18 [var (S! "hand"), lit (.int 6)]) ⟨h, l0⟩ = some (.next, ⟨h1, lf⟩) := by
    have q : var (S! "hand") ⟨h, l0⟩ = some (.ref 4, ⟨h, l0⟩) := by kernel_rfl!
    simp only [setl_ap, callf_ap, evl_cons, evl_nil, q, lit_ap, Option.bind_some, c1 l0]
    rfl
  have tf : ∀ k : Int, tcmp .Eq (var (S! "form")) (lit (.int k)) ⟨h1, lf⟩ = some (f == k, ⟨h1, lf⟩) := fun k => by simp only [tcmp_ap, var_ap, lff, lit_ap, Option.map_some, Option.bind_some, c_eq, s_int]
  by_cases h4 : f = 4
  · -- letters
    let L : AO := .list [.str (S! ""), .str (S! "ab"), .str (S! "x"), .str (S! "ÿ")]
    have I2 := I1.app [L]
    refine ex2_4 (pick_ok I2.hd (lim := 4) (by (clear_value *; lia)) (by (clear_value *; lia)) (show 8 ≤ n + 10 from Nat.le_add_left 8 (n + 2))) fun d o2 c2 d0 d1 hd2 => ?_
    let h3 := (h1 ++ [L]).set 4 o2
    have I3 : Inv 0 Γ Δ ex cnt B es h3 := I2.set4 hd2
    have lk : ∃ s : Str, s.length ≤ 2 ∧ ∀ l, item (.ref h1.length) (.int d) ⟨h3, l⟩ = some (.str s) := by
      refine cps fun C kont => ?_
      obtain ⟨dN, rfl⟩ : ∃ dN : Nat, d = dN := ⟨d.toNat, by (clear_value *; lia)⟩
      have e : h3[h1.length]? = some L := (get_set_ne (by (clear_value *; lia))).trans get_app0
      have : dN = 0 ∨ dN = 1 ∨ dN = 2 ∨ dN = 3 := by (clear_value *; lia)
      rcases this with rfl | rfl | rfl | rfl
      · refine kont ?_
        exact ⟨S! "", by decide +kernel, fun l => item_list e (by rw [szm]; simp) rfl⟩
      · refine kont ?_
        exact ⟨S! "ab", by decide +kernel, fun l => item_list e (by rw [szm]; simp) rfl⟩
      · refine kont ?_
        exact ⟨S! "x", by decide +kernel, fun l => item_list e (by rw [szm]; simp) rfl⟩
      · refine kont ?_
        exact ⟨S! "ÿ", by decide +kernel, fun l => item_list e (by rw [szm]; simp) rfl⟩
    obtain ⟨s, sl, hit⟩ := lk
    let ll := upd lf (S! "letters_of") (.str s)
    have lll : ll (S! "letters_of") = some (.str s) := by kernel_rfl!
    have llt : ll (S! "types") = some (.ref 6) := Eq.trans (by kernel_rfl!) lft
    refine ex4_5 (string_ok (size := s.length + 1) I3 hc ⟨by (clear_value *; lia), by (clear_value *; lia)⟩ (show 9 ≤ n + 10 from Nat.le_add_left 9 (n + 1))) fun h5 Γ5 ex5 t5 c5 U5 I5 gx5 et5 => ?_
    have h3l : h3.length = h.length + 1 := by simp [h3, h1l]
    refine kont ?_
    refine mkE7 (h5 ++ [.tup [.ref (h3.length + 1), .str s]]) Γ5 ex5 (cnt + 1) (h3.length + 1) (.str s) h5.length ⟨fun l => ?_, (((U1.appR _).set (.inl (by simp))).trans U5).appR _, I5.app _, (⟨gx5.old, fun a t e => by rcases gx5.new a t e with q | q; exact .inl q; exact .inr (by (clear_value *; lia))⟩), by (clear_value *; lia), get_app0, ⟨t5, et5⟩⟩
    rw [fn22]
    apply frun_ret' (l' := ll)
    unfold B22
    show seq _ ⟨h, l0⟩ = _
    rw [seq_next s1]
    apply seq_ret
    rw [iff_ap, tf, h4]
    simp only [beq_self_eq_true, Option.bind_some, brS_t]
    rw [seq_next (σ' := ⟨h3, ll⟩) (by
      have q0 : lst [lit (.str (S! "")), lit (.str (S! "ab")), lit (.str (S! "x")), lit (.str (S! "ÿ"))] ⟨h1, lf⟩ = some (.ref h1.length, ⟨h1 ++ [L], lf⟩) := rfl
      simp only [setl_ap, sub_ap, q0, Option.bind_some, callf_ap, evl_cons, evl_nil, var_ap, lfh, lit_ap, Option.map_some, c2 lf]
      rw [hit lf]
      rfl)]
    apply seq_ret
    have ql : bcall (.bltn "len") [var (S! "letters_of")] ⟨h3, ll⟩ = some (.int s.length, ⟨h3, ll⟩) := by
      simp only [bcall_ap, evl_cons, evl_nil, var_ap, lll, Option.map_some, Option.bind_some, b_len, lenV, show s.length ≤ szMax from by rw [szm]; (clear_value *; lia), if_true]
    have qm : meth ((run theQ (n + 10)).fn) (var (S! "types")) (S! "string") [bino .Add (bcall (.bltn "len") [var (S! "letters_of")]) (lit (.int 1))] ⟨h3, ll⟩ = some (.ref (h3.length + 1), ⟨h5, ll⟩) := by
      rw [imeth (k := 6) (c := 3) (d := 5) (m := 10) (σ' := ⟨h3, ll⟩) (fs := tsF cnt) (K := ⟨8, [(Str.ofString "new", 9), (Str.ofString "string", 10)], typesAttrs⟩) (by simp only [var_ap, Option.map_some, llt]) I3.t6 I3.t5 rfl (by kernel_rfl) (by kernel_rfl)]
      simp only [evl_cons, evl_nil, bino_ap, ql, lit_ap, Option.bind_some, add_int, c5 ll]
    rw [sRet_ap, tupE_ap, evl_cons, qm]
    simp only [Option.bind_some, evl_cons, evl_nil, var_ap, lll, Option.map_some]
  · have n4 : (f == 4) = false := by simpa using h4
    have s2 : ∀ c, iff' (tcmp .Eq (var (S! "form")) (lit (.int 4))) c [] ⟨h1, lf⟩ = some (.next, ⟨h1, lf⟩) := fun c => by rw [iff_ap, tf, n4]; rfl
    by_cases h5 : f = 5
    · obtain ⟨t, et⟩ := I.bas 34 (by simp [basics])
      refine kont ?_
      refine mkE7 (h1 ++ [.tup [.ref 34, .none]]) Γ ex cnt 34 .none h1.length ⟨fun l => ?_, U1.appR _, I1.app _, Gx.refl _ _, by (clear_value *; lia), get_app0, ⟨t, et⟩⟩
      rw [fn22]
      apply frun_ret' (l' := lf)
      unfold B22
      show seq _ ⟨h, l0⟩ = _
      rw [seq_next s1, seq_next (s2 _)]
      apply seq_ret
      rw [iff_ap, tf, h5]
      simp only [beq_self_eq_true, Option.bind_some, brS_t]
      apply seq_ret
      simp only [sRet_ap, tupE_ap, evl_cons, evl_nil, att_ap, var_ap, lft, Option.map_some, Option.bind_some, ts_rd I1.t5 I1.t6, lit_ap]
    · have n5 : (f == 5) = false := by simpa using h5
      obtain ⟨fN, rfl⟩ : ∃ fN : Nat, f = fN := ⟨f.toNat, by (clear_value *; lia)⟩
      have f4 : fN < 4 := by (clear_value *; lia)
      let L : AO := .list [.int 2147483648, .int 2, .int 256, .int 4294967296]
      have I2 : Inv 0 Γ Δ ex cnt B es (h1 ++ [L]) := I1.app [L]
      have lim : ∃ w : Int, 0 < w ∧ w ≤ 2 ^ 40 ∧ ∀ l, item (.ref h1.length) (.int fN) ⟨h1 ++ [L], l⟩ = some (.int w) := by
        refine cps fun C kont => ?_
        have e : (h1 ++ [L])[h1.length]? = some L := get_app0
        have : fN = 0 ∨ fN = 1 ∨ fN = 2 ∨ fN = 3 := by (clear_value *; lia)
        rcases this with rfl | rfl | rfl | rfl
        · refine kont ?_
          exact ⟨2147483648, by decide, by decide, fun l => item_list e (by rw [szm]; simp) rfl⟩
        · refine kont ?_
          exact ⟨2, by decide, by decide, fun l => item_list e (by rw [szm]; simp) rfl⟩
        · refine kont ?_
          exact ⟨256, by decide, by decide, fun l => item_list e (by rw [szm]; simp) rfl⟩
        · refine kont ?_
          exact ⟨4294967296, by decide, by decide, fun l => item_list e (by rw [szm]; simp) rfl⟩
      refine ex1_3 (lim) fun w w0 w1 hit => ?_
      clear lim
      refine ex2_4 (pick_ok I2.hd w0 w1 (show 8 ≤ n + 12 from Nat.le_add_left 8 (n + 4))) fun v o2 c2 v0 v1 hd2 => ?_
      let h3 := (h1 ++ [L]).set 4 o2
      have I3 : Inv 0 Γ Δ ex cnt B es h3 := I2.set4 hd2
      have h3l : h3.length = h.length + 1 := by simp [h3, h1l]
      let lv := upd lf (S! "value") (.int v)
      have lvh : lv (S! "hand") = some (.ref 4) := Eq.trans (by kernel_rfl!) lfh
      have lvt : lv (S! "types") = some (.ref 6) := Eq.trans (by kernel_rfl!) lft
      have lvf : lv (S! "form") = some (.int fN) := Eq.trans (by kernel_rfl!) lff
      have lvv : lv (S! "value") = some (.int v) := by kernel_rfl!
      have s4 : setl (S! "value") (callf ((run theQ (n + 12)).fn) 18 [var (S! "hand"), sub (lst [bino .Pow (lit (.int 2)) (lit (.int 31)), lit (.int 2), lit (.int 256), bino .Pow (lit (.int 2)) (lit (.int 32))]) (var (S! "form"))]) ⟨h1, lf⟩ = some (.next, ⟨h3, lv⟩) := by
        have q0 : lst [bino .Pow (lit (.int 2)) (lit (.int 31)), lit (.int 2), lit (.int 256), bino .Pow (lit (.int 2)) (lit (.int 32))] ⟨h1, lf⟩ = some (.ref h1.length, ⟨h1 ++ [L], lf⟩) := by
          simp only [lst_ap, evl_cons, evl_nil, bino_ap, lit_ap, Option.bind_some, pow_int]
          rfl
        simp only [setl_ap, callf_ap, evl_cons, evl_nil, var_ap, lfh, Option.map_some, Option.bind_some, sub_ap, q0, lff, hit lf, c2 lf]
        rfl
      let L2 : AO := .list [.ref 24, .ref 9, .ref 14, .ref 29]
      have I4 : Inv 0 Γ Δ ex cnt B es (h3 ++ [L2]) := I3.app [L2]
      have ty : ∃ y : Nat, y ∈ basics ∧ ∀ l, item (.ref h3.length) (.int fN) ⟨h3 ++ [L2], l⟩ = some (.ref y) := by
        refine cps fun C kont => ?_
        have e : (h3 ++ [L2])[h3.length]? = some L2 := get_app0
        have : fN = 0 ∨ fN = 1 ∨ fN = 2 ∨ fN = 3 := by (clear_value *; lia)
        rcases this with rfl | rfl | rfl | rfl
        · refine kont ?_
          exact ⟨24, by simp [basics], fun l => item_list e (by rw [szm]; simp) rfl⟩
        · refine kont ?_
          exact ⟨9, by simp [basics], fun l => item_list e (by rw [szm]; simp) rfl⟩
        · refine kont ?_
          exact ⟨14, by simp [basics], fun l => item_list e (by rw [szm]; simp) rfl⟩
        · refine kont ?_
          exact ⟨29, by simp [basics], fun l => item_list e (by rw [szm]; simp) rfl⟩
      obtain ⟨y, hy, hit2⟩ := ty
      obtain ⟨t, et⟩ := I.bas y hy
      have q1 : sub (lst [att (var (S! "types")) (S! "integer"), att (var (S! "types")) (S! "boolean"), att (var (S! "types")) (S! "char"), att (var (S! "types")) (S! "mask")]) (var (S! "form")) ⟨h3, lv⟩ = some (.ref y, ⟨h3 ++ [L2], lv⟩) := by
        have q0 : lst [att (var (S! "types")) (S! "integer"), att (var (S! "types")) (S! "boolean"), att (var (S! "types")) (S! "char"), att (var (S! "types")) (S! "mask")] ⟨h3, lv⟩ = some (.ref h3.length, ⟨h3 ++ [L2], lv⟩) := by
          simp only [lst_ap, evl_cons, evl_nil, att_ap, var_ap, lvt, Option.map_some, Option.bind_some, ts_rd I3.t5 I3.t6]
          rfl
        simp only [sub_ap, q0, var_ap, lvf, Option.map_some, Option.bind_some, hit2 lv]
      have last : ∃ h6 w, ifE (tAll .And [tcmp .Eq (var (S! "form")) (lit (.int 0)), tcmp .Eq (callf ((run theQ (n + 8)).fn) 18 [var (S! "hand"), lit (.int 2)]) (lit (.int 1))]) (bino .Sub (lit (.int 0)) (var (S! "value"))) (var (S! "value")) ⟨h3 ++ [L2], lv⟩ = some (.int w, ⟨h6, lv⟩) ∧ Inv 0 Γ Δ ex cnt B es h6 ∧ Up [4] (h3 ++ [L2]) h6 := by
        rw [ifE_ap, tand2]
        have t0 : tcmp .Eq (var (S! "form")) (lit (.int 0)) ⟨h3 ++ [L2], lv⟩ = some ((fN : Int) == 0, ⟨h3 ++ [L2], lv⟩) := by simp only [tcmp_ap, var_ap, lvf, lit_ap, Option.map_some, Option.bind_some, c_eq, s_int]
        rw [t0]
        simp only [Option.bind_some]
        cases (fN : Int) == 0 with
        | false => exact mk2_3 (h3 ++ [L2]) v (by simp only [Option.bind_some, var_ap, lvv, Option.map_some, ifK_f, andK_f]) I4 (Up.refl _ _)
        | true =>
          refine ex2_4 (pick_ok I4.hd (lim := 2) (by (clear_value *; lia)) (by (clear_value *; lia)) (show 8 ≤ n + 8 from Nat.le_add_left 8 n)) fun d o3 c3 _ _ hd3 => ?_
          have t1 : tcmp .Eq (callf ((run theQ (n + 8)).fn) 18 [var (S! "hand"), lit (.int 2)]) (lit (.int 1)) ⟨h3 ++ [L2], lv⟩ = some (d == 1, ⟨(h3 ++ [L2]).set 4 o3, lv⟩) := by
            simp only [tcmp_ap, callf_ap, evl_cons, evl_nil, var_ap, lvh, lit_ap, Option.map_some, Option.bind_some, c3 lv, c_eq, s_int]
          simp only [t1, Option.bind_some, andK_t]
          cases d == 1 with
          | false => exact mk2_3 _ v (by simp only [var_ap, lvv, Option.map_some, ifK_f]) (I4.set4 hd3) ((Up.refl _ _).set (.inl (by simp)))
          | true => exact mk2_3 _ (0 - v) (by simp only [bino_ap, lit_ap, var_ap, lvv, Option.map_some, Option.bind_some, sub_int, ifK_t]) (I4.set4 hd3) ((Up.refl _ _).set (.inl (by simp)))
      refine ex2_3 (last) fun h6 w' eL I6 U6 => ?_
      clear last
      refine kont ?_
      refine mkE7 (h6 ++ [.tup [.ref y, .int w']]) Γ ex cnt y (.int w') h6.length ⟨fun l => ?_, ((((U1.appR _).set (.inl (by simp))).appR _).trans (U6.mono fun j hj _ => by simp at hj ⊢; (clear_value *; lia))).appR _, I6.app _, Gx.refl _ _, by (clear_value *; lia), get_app0, ⟨t, et⟩⟩
      rw [fn22]
      apply frun_ret' (l' := lv)
      unfold B22
      show seq _ ⟨h, l0⟩ = _
      rw [seq_next s1, seq_next (s2 _), seq_next (σ' := ⟨h1, lf⟩) (by rw [iff_ap, tf, n5]; rfl), seq_next s4]
      apply seq_ret
      rw [sRet_ap, tupE_ap, evl_cons, q1]
      simp only [Option.bind_some, evl_cons, evl_nil, eL, Option.map_some]
end
end Mine.L
end
section
namespace Mine.L
noncomputable def Bn (i : Nat) : Int := 4 * 8 ^ i
theorem Bn_succ (i : Nat) : Bn (i + 1) = 8 * Bn i := by unfold Bn; rw [Int.pow_succ]; lia
theorem Bn_le (i : Nat) (h : i ≤ 6) : 4 ≤ Bn i ∧ Bn i ≤ 2 ^ 40 := by
  exact (by decide +kernel : ∀ i, i < 7 → 4 ≤ Bn i ∧ Bn i ≤ 2 ^ 40) i (Nat.lt_succ_of_le h)
structure Fr (p : Nat) (Γ : Nat → Option TI) (Δ : Nat → Option OI) : Prop where
  t : ∀ a t, Γ a = some t → p < a - 1 ∨ a + 2 < p
  o : ∀ a o, Δ a = some o → p < a - 1 ∨ a < p
structure PL (h : List AO) (p cnt i fo : Nat) (k : List AO) (Γ : Nat → Option TI) (Δ : Nat → Option OI) (ex : Nat → Int) (cnt' : Nat) (es : KE) (ps : List Nat) : Prop where
  I : Inv 0 Γ Δ ex cnt' (Bn (i + 1)) es k
  lst : k[p]? = some (.list (rf ps))
  ne : ps ≠ []
  len : ps.length ≤ 5 + i
  pin : ∀ x ∈ ps, ∃ t, Γ x = some t
  fo : ∃ t, Γ fo = some t ∧ t.form = S! "record"
  cl : cnt' ≤ cnt + 4 + 4 * i
  en : es ≠ []
  fr : Fr p Γ Δ
  up : Up [4, 5, 7] h k
  hp : h.length ≤ p
  big : 42 ≤ h.length
section
variable {h k k' : List AO} {p cnt i fo : Nat} {Γ Γ2 : Nat → Option TI} {Δ Δ2 : Nat → Option OI} {ex ex2 : Nat → Int} {cnt' cnt2 : Nat} {es es2 : KE} {ps : List Nat}
theorem PL.add (P : PL h p cnt i fo k Γ Δ ex cnt' es ps) (u : Up [4, 5, 7] k k') (I : Inv 0 Γ2 Δ2 ex2 cnt2 (Bn (i + 2)) es2 k') (gx : Gx k Γ Γ2) (dx : Dx k Δ Δ2) {y : Nat} (hy : ∃ t, Γ2 y = some t) (hc : cnt2 ≤ cnt' + 4) (en : es2 ≠ []) :
    k'[p]? = some (.list (rf ps)) ∧ PL h p cnt (i + 1) fo (k'.set p (.list (rf ps ++ [.ref y]))) Γ2 Δ2 ex2 cnt2 es2 (ps ++ [y]) := by
  have hb := P.big; have hp := P.hp
  have pk := lt_of P.lst
  have lst' : k'[p]? = some (.list (rf ps)) := u.get P.lst (by simp; lia)
  have fr : Fr p Γ2 Δ2 := ⟨fun a t e => by
    rcases gx.new a t e with q | q
    · exact P.fr.t a t q
    · exact .inl (by lia), fun a o e => by
    rcases dx.new a o e with q | q
    · exact P.fr.o a o q
    · exact .inl (by lia)⟩
  refine ⟨lst', I.put lst' (by lia) (by simp) fr.t fr.o, by rw [get_set lst']; simp [rf], by simp, by have := P.len; simp; lia, fun x hx => ?_, ?_, by have := P.cl; lia, en, fr, (P.up.trans u).set (.inr hp), hp, hb⟩
  · refine cps fun C kont => ?_
    rcases List.mem_append.mp hx with q | q
    · refine kont ?_
      obtain ⟨t, e⟩ := P.pin x q; exact ⟨t, gx.old x t e⟩
    · refine kont ?_
      rw [List.mem_singleton.mp q]; exact hy
  · obtain ⟨t, e, f⟩ := P.fo; exact ⟨t, gx.old fo t e, f⟩
theorem pool_append {fn : SF} {e : SE} {l : Str → Option AV} {y : Nat} (lp : l (S! "pool") = some (.ref p)) (hk : ∃ xs, k[p]? = some (.list xs)) (he : e ⟨k, l⟩ = some (.ref y, ⟨k', l⟩)) (hl : k'[p]? = some (.list (rf ps))) (n : ps.length ≤ 1000) :
    sE (meth fn (var (S! "pool")) (S! "append") [e]) ⟨k, l⟩ = some (.next, ⟨k'.set p (.list (rf ps ++ [.ref y])), l⟩) := by
  obtain ⟨xs, hk⟩ := hk
  rw [sE_ap, lmeth (k := p) (σ' := ⟨k, l⟩) (xs := xs) (by simp only [var_ap, Option.map_some, lp]) hk]
  simp only [evl_cons, evl_nil, he, Option.bind_some, append_ap (l := l) hl (show (rf ps).length ≤ szMax from by rw [rf_len, szm]; lia), Option.map_some]
theorem sub_pick {l : Str → Option AV} {B : Int} {pd : Nat} (I : Inv pd Γ Δ ex cnt' B es k) {x : Str} {b : Nat} {xs : List Nat} (lx : l x = some (.ref b)) (lh : l (S! "hand") = some (.ref 4)) (hb : k[b]? = some (.list (rf xs))) (b8 : 8 ≤ b) (ne : xs ≠ []) (n : xs.length ≤ 1000) {m : Nat} (hm : 8 ≤ m) :
    ∃ o y, HandOK (k.set 4 o) ∧ y ∈ xs ∧ sub (var x) (callf ((run theQ m).fn) 18 [var (S! "hand"), bcall (.bltn "len") [var x]]) ⟨k, l⟩ = some (.ref y, ⟨k.set 4 o, l⟩) := by
  refine cps fun C kont => ?_
  have xp : 0 < xs.length := by cases xs with | nil => exact absurd rfl ne | cons _ _ => simp
  refine ex2_4 (pick_ok I.hd (lim := (xs.length : Int)) (by lia) (by lia) hm) fun d o c d0 d1 hd => ?_
  obtain ⟨dN, rfl⟩ : ∃ dN : Nat, d = dN := ⟨d.toNat, by lia⟩
  obtain ⟨y, hy⟩ : ∃ y, xs[dN]? = some y := ⟨_, List.getElem?_eq_getElem (by lia)⟩
  refine kont ?_
  refine mk2_3 o y hd (List.mem_of_getElem? hy) ?_
  have psl : (rf xs).length ≤ szMax := by rw [rf_len, szm]; lia
  simp only [sub_ap, var_ap, lx, lh, Option.map_some, Option.bind_some, callf_ap, evl_cons, evl_nil, bcall_ap, len_ap (l := l) hb psl, rf_len, c l]
  rw [item_list (i := dN) ((get_set_ne (by lia)).trans hb) psl (by unfold rf; rw [List.getElem?_map, hy]; rfl)]
  rfl
theorem pool_turn (P : PL h p cnt i fo k Γ Δ ex cnt' es ps) (hi : i < 4) (hc : cnt + 24 ≤ 60) (n : Nat) {l : Str → Option AV}
    (q1 : l (S! "hand") = some (.ref 4)) (q2 : l (S! "types") = some (.ref 6)) (q3 : l (S! "pool") = some (.ref p)) (q4 : l (S! "foreign") = some (.ref fo)) (q5 : l (S! "at") = some (.int i)) :
    ∃ k' l' Γ' Δ' ex' cnt'' es' ps', seq (L21_0 n) ⟨k, l⟩ = some (.next, ⟨k', l'⟩) ∧ PL h p cnt (i + 1) fo k' Γ' Δ' ex' cnt'' es' ps' ∧ (∀ j, j < k.length → j ≠ p → 42 ≤ j → k'[j]? = k[j]?) ∧
      (∀ y, y ≠ S! "form" → y ≠ S! "label" → y ≠ S! "records" → y ≠ S! "base" → y ≠ S! "t" → l' y = l y) := by
  refine cps fun C kont => ?_
  have hb := P.big; have hp := P.hp
  have hpk := lt_of P.lst
  have ul := P.up.1
  have B4 := (Bn_le (i + 1) (by lia)).1
  have Bb := (Bn_le (i + 1) (by lia)).2
  have Bs : Bn (i + 2) = 8 * Bn (i + 1) := Bn_succ (i + 1)
  have cl := P.cl
  have pln := P.len
  refine ex2_4 (pick_ok P.I.hd (lim := 4) (by lia) (by lia) (show 8 ≤ n + 20 from Nat.le_add_left 8 (n + 12))) fun f o1 c1 f0 f1 hd1 => ?_
  let k1 := k.set 4 o1
  have I1 : Inv 0 Γ Δ ex cnt' (Bn (i + 1)) es k1 := P.I.set4 hd1
  have k1l : k1.length = k.length := by simp [k1]
  have pk1 : k1[p]? = some (.list (rf ps)) := (get_set_ne (by (clear_value *; lia))).trans P.lst
  let lf := upd l (S! "form") (.int f)
  let lab : Str := S! "T" ++ Str.ofString (toString (i : Int))
  let lg := upd lf (S! "label") (.str lab)
  have dl10 := digits_len i (by (clear_value *; lia))
  have labl : lab.length ≤ 11 := by
    show (S! "T" ++ _).length ≤ 11
    rw [str_app]
    have : (S! "T").length = 1 := by decide +kernel
    (clear_value *; lia)
  have labne : lab ≠ S! "" := by
    intro q
    have := congrArg Str.length q
    rw [str_app] at this
    have e1 : (S! "T").length = 1 := by decide +kernel
    have e2 : (S! "").length = 0 := by decide +kernel
    (clear_value *; lia)
  have s1 : setl (S! "form") (callf ((run theQ (n + 20)).fn) 18 [var (S! "hand"), lit (.int 4)]) ⟨k, l⟩ = some (.next, ⟨k1, lf⟩) := by
    simp only [setl_ap, callf_ap, evl_cons, evl_nil, var_ap, q1, lit_ap, Option.map_some, Option.bind_some, c1 l]
    rfl
  have s2 : setl (S! "label") (bino .Add (lit (.str (S! "T"))) (bcall (.typ "str") [var (S! "at")])) ⟨k1, lf⟩ = some (.next, ⟨k1, lg⟩) := by
    have q : var (S! "at") ⟨k1, lf⟩ = some (.int i, ⟨k1, lf⟩) := ev_var (Eq.trans (by kernel_rfl!) q5)
    simp only [setl_ap, bino_ap, lit_ap, bcall_ap, evl_cons, evl_nil, q, Option.bind_some, str_ap (h := k1) (l := lf) i (by (clear_value *; lia)), add_str, show (S! "T").length ≤ szMax from by decide +kernel, show (Str.ofString (toString (i : Int))).length ≤ szMax from by rw [szm]; (clear_value *; lia), and_self, if_true]
    rfl
  let isR : Nat → Bool := fun x => match Γ x with | some t => t.form == S! "record" | none => false
  let rs := (ps ++ [fo]).filter isR
  obtain ⟨tf, etf, tff⟩ := P.fo
  have rsin : ∀ x ∈ rs, ∃ t, Γ x = some t := fun x hx => by
    rcases List.mem_append.mp (List.mem_filter.mp hx).1 with q | q
    · exact P.pin x q
    · rw [List.mem_singleton.mp q]; exact ⟨tf, etf⟩
  have rsne : rs ≠ [] := List.ne_nil_of_mem (List.mem_filter.mpr ⟨List.mem_append_right _ (List.mem_singleton.mpr rfl), by show (match Γ fo with | some t => t.form == S! "record" | none => false) = true; rw [etf]; show (tf.form == S! "record") = true; rw [tff]; simp⟩)
  have rsl : rs.length ≤ 6 + i := by have := List.length_filter_le isR (ps ++ [fo]); rw [List.length_append, List.length_cons, List.length_nil] at this; show (List.filter isR (ps ++ [fo])).length ≤ _; (clear_value *; lia)
  let X : List AO := [.list [.ref fo], .list (rf (ps ++ [fo])), .junk, .list (rf rs)]
  let k2 := k1 ++ X
  have I2 : Inv 0 Γ Δ ex cnt' (Bn (i + 1)) es k2 := I1.app X
  have k2l : k2.length = k.length + 4 := by simp [k2, X, k1l]
  let lr := upd lg (S! "records") (.ref (k1.length + 3))
  have rk2 : k2[k1.length + 3]? = some (.list (rf rs)) := get_app 3
  have pk2 : k2[p]? = some (.list (rf ps)) := (get_lt (by (clear_value *; lia))).trans pk1
  have s3 : setl (S! "records") (comp (S! "t") (bino .Add (var (S! "pool")) (lst [var (S! "foreign")])) [tcmp .Eq (att (var (S! "t")) (S! "form")) (lit (.str (S! "record")))] (var (S! "t"))) ⟨k1, lg⟩ = some (.next, ⟨k2, lr⟩) := by
    have I1b := I1.app [.list [.ref fo], .list (rf (ps ++ [fo]))]
    have qa : bino .Add (var (S! "pool")) (lst [var (S! "foreign")]) ⟨k1, lg⟩ = some (.ref (k1.length + 1), ⟨k1 ++ [.list [.ref fo], .list (rf (ps ++ [fo]))], lg⟩) := by
      have z1 : var (S! "pool") ⟨k1, lg⟩ = some (.ref p, ⟨k1, lg⟩) := ev_var (Eq.trans (by kernel_rfl!) q3)
      have z2 : var (S! "foreign") ⟨k1, lg⟩ = some (.ref fo, ⟨k1, lg⟩) := ev_var (Eq.trans (by kernel_rfl!) q4)
      simp only [bino_ap, z1, lst_ap, evl_cons, evl_nil, z2, Option.bind_some]
      rw [add_list (h := k1 ++ [AO.list [AV.ref fo]]) (xs := rf ps) (ys := [.ref fo]) ((get_lt (show p < k1.length by (clear_value *; lia))).trans pk1) get_app0 (by rw [rf_len, szm]; (clear_value *; lia)) (by rw [szm]; exact Nat.le_of_ble_eq_true rfl)]
      simp [rf]
    rw [setl_ap, comp_rf (h := k1 ++ [.list [.ref fo], .list (rf (ps ++ [fo]))]) (b := k1.length + 1) (fs := ps ++ [fo]) (l := lg) qa (get_app 1) (by rw [szm]; simp; (clear_value *; lia)) isR AV.ref (fun v hv ys lv => by
      have : ∃ t, Γ v = some t := by
        refine cps fun C kont => ?_
        rcases List.mem_append.mp hv with q | q
        · refine kont ?_
          exact P.pin v q
        · refine kont ?_
          rw [List.mem_singleton.mp q]; exact ⟨tf, etf⟩
      obtain ⟨t, et⟩ := this
      have RT := ((I1b.app ys).W.ty v t et).choose_spec.rd
      simp only [trl_one, tcmp_ap, att_ap, var_ap, upd_ap, if_true, Option.map_some, Option.bind_some, RT, lit_ap, c_eq, s_str, isR, et]) (fun v hv _ ys lv => by simp only [var_ap, upd_ap, if_true, Option.map_some, List.append_assoc, List.cons_append, List.nil_append])]
    simp only [Option.bind_some, List.append_assoc, List.cons_append, List.nil_append, List.length_append, List.length_cons, List.length_nil]
    rfl
  have lrh : lr (S! "hand") = some (.ref 4) := Eq.trans (by kernel_rfl!) q1
  have lrt : lr (S! "types") = some (.ref 6) := Eq.trans (by kernel_rfl!) q2
  have lrp : lr (S! "pool") = some (.ref p) := Eq.trans (by kernel_rfl!) q3
  have lrl : lr (S! "label") = some (.str lab) := by kernel_rfl!
  have lrf : lr (S! "form") = some (.int f) := by kernel_rfl!
  have lrr : lr (S! "records") = some (.ref (k1.length + 3)) := by kernel_rfl!
  have lro : ∀ y, y ≠ S! "form" → y ≠ S! "label" → y ≠ S! "records" → lr y = l y := fun y y1 y2 y3 => by simp only [lr, lg, lf, upd_ap, y1, y2, y3, if_false]
  have U2 : Up [4, 5, 7] k k2 := ((Up.refl _ _).set (.inl (by simp))).appR _
  have tstf : ∀ c : Int, tcmp .Eq (var (S! "form")) (lit (.int c)) ⟨k2, lr⟩ = some (f == c, ⟨k2, lr⟩) := fun c => by simp only [tcmp_ap, var_ap, lrf, lit_ap, Option.map_some, Option.bind_some, c_eq, s_int]
  have branch : ∃ k' l' Γ' Δ' ex' cnt'' es' y, iff' (tcmp .Eq (var (S! "form")) (lit (.int 0))) [setl (S! "base") (ifE (tcmp .Eq (callf ((run theQ (n + 17)).fn) 18 [var (S! "hand"), lit (.int 2)]) (lit (.int 1))) (sub (var (S! "records")) (callf ((run theQ (n + 17)).fn) 18 [var (S! "hand"), bcall (.bltn "len") [var (S! "records")]])) (lit .none)),
        sE (meth ((run theQ (n + 19)).fn) (var (S! "pool")) (S! "append") [callf ((run theQ (n + 18)).fn) 19 [var (S! "hand"), var (S! "types"), lit (.str (S! "M")), var (S! "label"), ifE (tAll .Or [tcmp .Is (var (S! "base")) (lit .none), tcmp .Lt (att (var (S! "base")) (S! "level")) (lit (.int 2))]) (var (S! "base")) (lit .none), var (S! "pool"), lit (.bool false)]])]
      [iff' (tcmp .Eq (var (S! "form")) (lit (.int 1))) [setl (S! "t") (meth ((run theQ (n + 18)).fn) (var (S! "types")) (S! "new") [lit (.str (S! "pointer")), lit (.int 4), lit (.str (S! "M")), var (S! "label")]), seta (var (S! "t")) (S! "base") (sub (var (S! "records")) (callf ((run theQ (n + 17)).fn) 18 [var (S! "hand"), bcall (.bltn "len") [var (S! "records")]])), sE (meth ((run theQ (n + 18)).fn) (var (S! "pool")) (S! "append") [var (S! "t")])]
      [iff' (tcmp .Eq (var (S! "form")) (lit (.int 2))) [setl (S! "t") (meth ((run theQ (n + 17)).fn) (var (S! "types")) (S! "new") [lit (.str (S! "array")), lit (.int 0), lit (.str (S! "M")), var (S! "label")]), seta (var (S! "t")) (S! "base") (sub (var (S! "pool")) (callf ((run theQ (n + 16)).fn) 18 [var (S! "hand"), bcall (.bltn "len") [var (S! "pool")]])),
        seta (var (S! "t")) (S! "length") (bino .Add (lit (.int 1)) (callf ((run theQ (n + 16)).fn) 18 [var (S! "hand"), lit (.int 3)])), seta (var (S! "t")) (S! "size") (bino .Mult (att (var (S! "t")) (S! "length")) (att (att (var (S! "t")) (S! "base")) (S! "size"))), sE (meth ((run theQ (n + 17)).fn) (var (S! "pool")) (S! "append") [var (S! "t")])]
      [sE (meth ((run theQ (n + 17)).fn) (var (S! "pool")) (S! "append") [callf ((run theQ (n + 16)).fn) 20 [var (S! "hand"), var (S! "types"), var (S! "label"), var (S! "pool")]])]]] ⟨k2, lr⟩ = some (.next, ⟨k'.set p (.list (rf ps ++ [.ref y])), l'⟩) ∧
      Up [4, 5, 7] k k' ∧ Inv 0 Γ' Δ' ex' cnt'' (Bn (i + 2)) es' k' ∧ Gx k Γ Γ' ∧ Dx k Δ Δ' ∧ (∃ t, Γ' y = some t) ∧ cnt'' ≤ cnt' + 4 ∧ es' ≠ [] ∧ (∀ z, z ≠ S! "base" → z ≠ S! "t" → l' z = lr z) := by
    refine cps fun C kont => ?_
    have gxk : ∀ {g : List AO} {Γ' : Nat → Option TI}, k.length ≤ g.length → Gx g Γ Γ' → Gx k Γ Γ' := fun {g Γ'} q x => ⟨x.old, fun a t e => by
      rcases x.new a t e with r | r
      · exact .inl r
      · exact .inr (by (clear_value *; lia))⟩
    have dxk : ∀ {g : List AO} {Δ' : Nat → Option OI}, k.length ≤ g.length → Dx g Δ Δ' → Dx k Δ Δ' := fun {g Δ'} q x => ⟨x.old, fun a t e => by
      rcases x.new a t e with r | r
      · exact .inl r
      · exact .inr (by (clear_value *; lia))⟩
    have m4 : ∀ {x y : List AO}, Up [4] x y → Up [4, 5, 7] x y := fun u => u.mono fun j hj _ => by simp at hj ⊢; (clear_value *; lia)
    have psn : ps.length ≤ 40 := by (clear_value *; lia)
    by_cases h0 : f = 0
    · -- a record
      have hbase : ∃ k4 b, ifE (tcmp .Eq (callf ((run theQ (n + 17)).fn) 18 [var (S! "hand"), lit (.int 2)]) (lit (.int 1))) (sub (var (S! "records")) (callf ((run theQ (n + 17)).fn) 18 [var (S! "hand"), bcall (.bltn "len") [var (S! "records")]])) (lit .none) ⟨k2, lr⟩ = some (bv b, ⟨k4, lr⟩) ∧ Inv 0 Γ Δ ex cnt' (Bn (i + 1)) es k4 ∧ Up [4] k2 k4 ∧ ∀ c, b = some c → ∃ t, Γ c = some t := by
        refine ex2_4 (pick_ok I2.hd (lim := 2) (by (clear_value *; lia)) (by (clear_value *; lia)) (show 8 ≤ n + 17 from Nat.le_add_left 8 (n + 9))) fun d o2 c2 _ _ hd2 => ?_
        let k3 := k2.set 4 o2
        have I3 : Inv 0 Γ Δ ex cnt' (Bn (i + 1)) es k3 := I2.set4 hd2
        have te : tcmp .Eq (callf ((run theQ (n + 17)).fn) 18 [var (S! "hand"), lit (.int 2)]) (lit (.int 1)) ⟨k2, lr⟩ = some (d == 1, ⟨k3, lr⟩) := by
          simp only [tcmp_ap, callf_ap, evl_cons, evl_nil, var_ap, lrh, lit_ap, Option.map_some, Option.bind_some, c2 lr, c_eq, s_int]
          rfl
        rw [ifE_ap, te]
        simp only [Option.bind_some]
        cases d == 1 with
        | false => exact mk2_4 k3 none rfl I3 ((Up.refl _ _).set (.inl (by simp))) (fun c q => by cases q)
        | true =>
          refine ex2_3 (sub_pick I3 (x := S! "records") lrr lrh ((get_set_ne (by (clear_value *; lia))).trans rk2) (by (clear_value *; lia)) rsne (by (clear_value *; lia)) (show 8 ≤ n + 17 from Nat.le_add_left 8 (n + 9))) fun o3 y hd3 hy e3 => ?_
          exact mk2_4 (k3.set 4 o3) (some y) e3 (I3.set4 hd3) (((Up.refl _ _).set (.inl (by simp))).set (.inl (by simp))) (fun c q => by cases q; exact rsin y hy)
      refine ex2_4 (hbase) fun k4 b eb I4 U24 hbt => ?_
      clear hbase
      let lb := upd lr (S! "base") (bv b)
      have lbb : lb (S! "base") = some (bv b) := by kernel_rfl!
      have k4l := U24.1
      have pk4 : k4[p]? = some (.list (rf ps)) := U24.get pk2 (by simp; (clear_value *; lia))
      have harg : ∃ b', ifE (tAll .Or [tcmp .Is (var (S! "base")) (lit .none), tcmp .Lt (att (var (S! "base")) (S! "level")) (lit (.int 2))]) (var (S! "base")) (lit .none) ⟨k4, lb⟩ = some (bv b', ⟨k4, lb⟩) ∧ ∀ c, b' = some c → ∃ t, Γ c = some t := by
        refine cps fun C kont => ?_
        cases b with
        | none => refine kont ?_; exact ⟨none, by simp only [ifE_ap, tor2, tcmp_ap, var_ap, lbb, bv, lit_ap, Option.map_some, Option.bind_some, c_is0, ifK_t, orK_t], fun c q => by cases q⟩
        | some y =>
          obtain ⟨t, et⟩ := hbt y rfl
          obtain ⟨x, HT⟩ := I4.W.ty y t et
          have tl : tAll .Or [tcmp .Is (var (S! "base")) (lit .none), tcmp .Lt (att (var (S! "base")) (S! "level")) (lit (.int 2))] ⟨k4, lb⟩ = some (decide (x.level < 2), ⟨k4, lb⟩) := by
            simp only [tor2, tcmp_ap, var_ap, lbb, bv, lit_ap, Option.map_some, Option.bind_some, c_lt, c_is1, att_ap, HT.rd, orK_f]
          refine kont ?_
          rw [ifE_ap, tl]
          simp only [Option.bind_some]
          cases decide (x.level < 2) with
          | true => exact ⟨some y, by simp only [var_ap, lbb, Option.map_some, ifK_t], hbt⟩
          | false => exact ⟨none, rfl, fun c q => by cases q⟩
      obtain ⟨b', eb', hbt'⟩ := harg
      refine ex8_8 (record_ok I4 (by (clear_value *; lia)) Bb pk4 (by (clear_value *; lia)) P.ne psn P.pin hbt' (mod := S! "M") labne (by (clear_value *; lia)) false (show 16 ≤ n + 18 from Nat.le_add_left 16 (n + 2))) fun k5 Γ5 Δ5 ex5 cnt5 es5 fs5 s5 c5 U5 I5 gx5 dx5 cc5 en5 et5 => ?_
      rw [← Bs] at I5
      refine kont ?_
      refine mkE8 k5 lb Γ5 Δ5 ex5 cnt5 es5 (k4.length + 1) ⟨?_, (U2.trans (m4 U24)).trans U5, I5, gxk (by (clear_value *; lia)) gx5, dxk (by (clear_value *; lia)) dx5, ⟨_, et5⟩, by (clear_value *; lia), en5, fun z z1 z2 => (upd_ap ..).trans (if_neg z1)⟩
      rw [iff_ap, tstf, h0]
      simp only [beq_self_eq_true, Option.bind_some, brS_t]
      rw [seq_next (σ' := ⟨k4, lb⟩) (by rw [setl_ap, eb]; rfl)]
      have lbh : lb (S! "hand") = some (.ref 4) := Eq.trans (by kernel_rfl!) lrh
      have lbt : lb (S! "types") = some (.ref 6) := Eq.trans (by kernel_rfl!) lrt
      have lbl : lb (S! "label") = some (.str lab) := Eq.trans (by kernel_rfl!) lrl
      have lbp : lb (S! "pool") = some (.ref p) := Eq.trans (by kernel_rfl!) lrp
      have p5 : k5[p]? = some (.list (rf ps)) := U5.get pk4 (by simp; (clear_value *; lia))
      rw [seq_next (pool_append lbp ⟨_, pk4⟩ (k' := k5) (y := k4.length + 1) (by
        simp only [callf_ap, evl_cons, evl_nil, var_ap, lbh, lbt, lbl, lbp, lit_ap, Option.map_some, Option.bind_some, eb', c5 lb]) p5 (by (clear_value *; lia)))]
      rfl
    · have n0 : (f == 0) = false := by simpa using h0
      by_cases h1 : f = 1
      · -- a pointer
        refine ex2_5 (new_ok (form := S! "pointer") (mod := S! "M") (label := lab) (size := 4) I2 I2.z0 (by (clear_value *; lia)) ⟨by (clear_value *; lia), B4⟩ labne (show 6 ≤ n + 18 from Nat.le_add_left 6 (n + 12))) fun k3 es3 c3 U3 l3 I3 en3 => ?_
        have hna : Γ (k2.length + 1) = none := I2.noT (by (clear_value *; lia))
        let lt := upd lr (S! "t") (.ref (k2.length + 1))
        have ltt : lt (S! "t") = some (.ref (k2.length + 1)) := by kernel_rfl!
        have lth : lt (S! "hand") = some (.ref 4) := Eq.trans (by kernel_rfl!) lrh
        have ltr : lt (S! "records") = some (.ref (k1.length + 3)) := Eq.trans (by kernel_rfl!) lrr
        have ltp : lt (S! "pool") = some (.ref p) := Eq.trans (by kernel_rfl!) lrp
        refine kont ?_
        refine ex2_3 (sub_pick I3 (x := S! "records") (l := lt) ltr lth (U3.get rk2 (by simp; (clear_value *; lia))) (by (clear_value *; lia)) rsne (by (clear_value *; lia)) (show 8 ≤ n + 17 from Nat.le_add_left 8 (n + 9))) fun o4 y hd4 hy e4 => ?_
        let k4 := k3.set 4 o4
        have I4 := I3.set4 hd4
        obtain ⟨u, hu⟩ := rsin y hy
        have un := (P.I.G.num y u hu).2
        obtain ⟨x5, w5, I5⟩ := I4.setBase (b := some y) (pd' := 0) (updT_self _ _ _) (fun c hc' => by cases hc'; exact ⟨u, by rw [updT_ne _ _ (by rintro rfl; rw [hna] at hu; cases hu)]; exact hu, by show u.num < (cnt' : Int) + 1; (clear_value *; lia)⟩) (fun _ _ => ⟨y, rfl⟩) (.inr (.inl rfl))
        have I5' := I5.wide (B' := Bn (i + 2)) (by (clear_value *; lia))
        have U35 : Up [4, 5, 7] k2 k3 := U3.mono fun j hj _ => by simp at hj ⊢; (clear_value *; lia)
        have p3 : k3[p]? = some (.list (rf ps)) := U35.get pk2 (by simp; (clear_value *; lia))
        refine ⟨_, lt, _, Δ, _, cnt' + 1, es3, k2.length + 1, ?_, (((U2.trans U35).set (.inl (by simp))).set (.inr (by (clear_value *; lia)))), I5', ((Gx.refl k Γ).upd _ (by (clear_value *; lia)) hna).upd _ (by (clear_value *; lia)) hna, Dx.refl _ _, ⟨_, updT_self _ _ _⟩, by (clear_value *; lia), en3, fun z z1 z2 => (upd_ap ..).trans (if_neg z2)⟩
        rw [iff_ap, tstf, n0]
        simp only [Option.bind_some, brS_f]
        rw [seq_next (by
          rw [iff_ap, tstf, h1]
          simp only [beq_self_eq_true, Option.bind_some, brS_t]
          rw [seq_next (σ' := ⟨k3, lt⟩) (by
            have q : evl [lit (.str (S! "pointer")), lit (.int 4), lit (.str (S! "M")), var (S! "label")] ⟨k2, lr⟩ = some ([.str (S! "pointer"), .int 4, .str (S! "M"), .str lab], ⟨k2, lr⟩) := by simp only [evl_cons, evl_nil, lit_ap, var_ap, lrl, Option.map_some, Option.bind_some]
            rw [setl_ap, types_new I2 lrt q, c3 lr]
            rfl)]
          rw [seq_next (by
            rw [seta_ap, e4]
            simp only [Option.bind_some, asgA_ap, var_ap, ltt, Option.map_some]
            rw [show (AV.ref y) = bv (some y) from rfl, w5 lt]
            rfl)]
          rw [seq_next (pool_append ltp ⟨_, (get_set_ne (by (clear_value *; lia))).trans ((get_set_ne (by (clear_value *; lia))).trans p3)⟩ (y := k2.length + 1) (by simp only [var_ap, ltt, Option.map_some]; rfl) ((get_set_ne (by (clear_value *; lia))).trans ((get_set_ne (by (clear_value *; lia))).trans p3)) (by (clear_value *; lia)))]
          rfl)]
        rfl
      · have n1 : (f == 1) = false := by simpa using h1
        by_cases h2 : f = 2
        · -- an array
          refine ex2_5 (new_ok (form := S! "array") (mod := S! "M") (label := lab) (size := 0) I2 I2.z0 (by (clear_value *; lia)) ⟨by (clear_value *; lia), by (clear_value *; lia)⟩ labne (show 6 ≤ n + 17 from Nat.le_add_left 6 (n + 11))) fun k3 es3 c3 U3 l3 I3 en3 => ?_
          have hna : Γ (k2.length + 1) = none := I2.noT (by (clear_value *; lia))
          let lt := upd lr (S! "t") (.ref (k2.length + 1))
          have ltt : lt (S! "t") = some (.ref (k2.length + 1)) := by kernel_rfl!
          have lth : lt (S! "hand") = some (.ref 4) := Eq.trans (by kernel_rfl!) lrh
          have ltp : lt (S! "pool") = some (.ref p) := Eq.trans (by kernel_rfl!) lrp
          have U35 : Up [4, 5, 7] k2 k3 := U3.mono fun j hj _ => by simp at hj ⊢; (clear_value *; lia)
          have p3 : k3[p]? = some (.list (rf ps)) := U35.get pk2 (by simp; (clear_value *; lia))
          refine ex2_3 (sub_pick I3 (x := S! "pool") (l := lt) ltp lth p3 (by (clear_value *; lia)) P.ne (by (clear_value *; lia)) (show 8 ≤ n + 16 from Nat.le_add_left 8 (n + 8))) fun o4 y hd4 hy e4 => ?_
          have I4 := I3.set4 hd4
          obtain ⟨u, hu⟩ := P.pin y hy
          have un := (P.I.G.num y u hu).2
          have us := P.I.sz y u hu
          have yne : y ≠ k2.length + 1 := by rintro rfl; rw [hna] at hu; cases hu
          refine kont ?_
          obtain ⟨x5, w5, I5⟩ := I4.setBase (b := some y) (pd' := 0) (updT_self _ _ _) (fun c hc' => by cases hc'; exact ⟨u, by rw [updT_ne _ _ yne]; exact hu, by show u.num < (cnt' : Int) + 1; (clear_value *; lia)⟩) (fun _ _ => ⟨y, rfl⟩) (.inr (.inl rfl))
          refine ex2_4 (pick_ok I5.hd (lim := 3) (by (clear_value *; lia)) (by (clear_value *; lia)) (show 8 ≤ n + 16 from Nat.le_add_left 8 (n + 8))) fun d o6 c6 d0 dl hd6 => ?_
          have I6 := I5.set4 hd6
          obtain ⟨x6, HT6⟩ := I6.W.ty (k2.length + 1) _ (updT_self _ _ _)
          have I7 := I6.modTx (x' := { x6 with length := 1 + d }) (updT_self _ _ _) HT6
          have HT7 := HT6.put (t' := { ({ num := (cnt' : Int) + 1, form := S! "array", base := none, fs := [], ps := [], mod := S! "M", size := 0 } : TI) with base := some y }) (x' := { x6 with length := 1 + d }) (ex' := set1 ex (k2.length + 1) 0 (k2.length + 1)) rfl rfl
          obtain ⟨xu, HU⟩ := I7.W.ty y u (by rw [updT_ne _ _ yne, updT_ne _ _ yne]; exact hu)
          let sz : Int := (1 + d) * u.size
          have szb : 0 ≤ sz ∧ sz ≤ 3 * u.size := ⟨Int.mul_nonneg (by (clear_value *; lia)) us.1, Int.mul_le_mul_of_nonneg_right (by (clear_value *; lia)) us.1⟩
          have I8 := I7.modTy (t' := { ({ num := (cnt' : Int) + 1, form := S! "array", base := some y, fs := [], ps := [], mod := S! "M", size := 0 } : TI) with size := sz }) (x' := { x6 with length := 1 + d }) (v := set1 ex (k2.length + 1) 0 (k2.length + 1)) (pd' := 0) (B' := Bn (i + 2)) (updT_self _ _ _) HT7 (HT7.put rfl rfl) (by simp) (fun j q _ _ => get_set_ne (fun q2 => q q2.symm))
            (by simp) (by simp) (by simp) (by simp) (fun c hc' => by cases hc'; exact ⟨u, by rw [updT_ne _ _ yne, updT_ne _ _ yne]; exact hu, by show u.num < (cnt' : Int) + 1; (clear_value *; lia)⟩) rfl (fun _ _ => ⟨y, rfl⟩) (.inl rfl) rfl (by (clear_value *; lia)) (by show 0 ≤ sz ∧ sz ≤ Bn (i + 2); (clear_value *; lia)) (fun _ => by simp [set1])
          have ne1 : k2.length + 1 - 1 ≠ p := by (clear_value *; lia)
          have p8 : ∀ {g : List AO} {o : AO}, g[p]? = some (.list (rf ps)) → (g.set (k2.length + 1 - 1) o)[p]? = some (.list (rf ps)) := fun e => (get_set_ne ne1).trans e
          have p4 : ∀ {g : List AO} {o : AO}, g[p]? = some (.list (rf ps)) → (g.set 4 o)[p]? = some (.list (rf ps)) := fun e => (get_set_ne (by (clear_value *; lia))).trans e
          refine ⟨_, lt, _, Δ, _, cnt' + 1, es3, k2.length + 1, ?_, ((((((U2.trans U35).set (.inl (by simp))).set (.inr (by (clear_value *; lia)))).set (.inl (by simp))).set (.inr (by (clear_value *; lia)))).set (.inr (by (clear_value *; lia)))), I8, (((Gx.refl k Γ).upd _ (by (clear_value *; lia)) hna).upd _ (by (clear_value *; lia)) hna).upd _ (by (clear_value *; lia)) hna, Dx.refl _ _, ⟨_, updT_self _ _ _⟩, by (clear_value *; lia), en3, fun z z1 z2 => (upd_ap ..).trans (if_neg z2)⟩
          rw [iff_ap, tstf, n0]
          simp only [Option.bind_some, brS_f]
          rw [seq_next (by
            rw [iff_ap, tstf, n1]
            simp only [Option.bind_some, brS_f]
            rw [seq_next (by
              rw [iff_ap, tstf, h2]
              simp only [beq_self_eq_true, Option.bind_some, brS_t]
              rw [seq_next (σ' := ⟨k3, lt⟩) (by
                have q : evl [lit (.str (S! "array")), lit (.int 0), lit (.str (S! "M")), var (S! "label")] ⟨k2, lr⟩ = some ([.str (S! "array"), .int 0, .str (S! "M"), .str lab], ⟨k2, lr⟩) := by simp only [evl_cons, evl_nil, lit_ap, var_ap, lrl, Option.map_some, Option.bind_some]
                rw [setl_ap, types_new I2 lrt q, c3 lr]
                rfl)]
              rw [seq_next (by
                rw [seta_ap, e4]
                simp only [Option.bind_some, asgA_ap, var_ap, ltt, Option.map_some]
                rw [show (AV.ref y) = bv (some y) from rfl, w5 lt]
                rfl)]
              rw [seq_next (by
                rw [seta_ap, bino_ap, lit_ap]
                simp only [Option.bind_some, callf_ap, evl_cons, evl_nil, var_ap, lth, lit_ap, Option.map_some, c6 lt, add_int, asgA_ap, ltt, HT6.wr]
                rfl)]
              rw [seq_next (by
                rw [seta_ap, bino_ap]
                simp only [att_ap, var_ap, ltt, Option.map_some, Option.bind_some, HT7.rd, bv, HU.rd, mul_int, show u.size.natAbs < 2 ^ 60 from by (clear_value *; lia), if_true, asgA_ap, HT7.wr]
                rfl)]
              rw [seq_next (pool_append ltp ⟨_, p8 (p8 (p4 (p8 (p4 p3))))⟩ (y := k2.length + 1) (by simp only [var_ap, ltt, Option.map_some]; rfl) (p8 (p8 (p4 (p8 (p4 p3))))) (by (clear_value *; lia)))]
              rfl)]
            rfl)]
          rfl
        · have n2 : (f == 2) = false := by simpa using h2
          refine ex6_7 (procedure_ok I2 (by (clear_value *; lia)) pk2 (by (clear_value *; lia)) P.ne psn P.pin labne (show 16 ≤ n + 16 from Nat.le_add_left 16 n)) fun k3 Γ3 Δ3 ex3 es3 t3 c3 U3 I3 gx3 dx3 en3 et3 => ?_
          have I3' := I3.wide (B' := Bn (i + 2)) (by (clear_value *; lia))
          refine kont ?_
          refine mkE8 k3 lr Γ3 Δ3 ex3 (cnt' + 1) es3 (k2.length + 1) ⟨?_, U2.trans U3, I3', gxk (by (clear_value *; lia)) gx3, dxk (by (clear_value *; lia)) dx3, ⟨_, et3⟩, by (clear_value *; lia), en3, fun z _ _ => rfl⟩
          rw [iff_ap, tstf, n0]
          simp only [Option.bind_some, brS_f]
          rw [seq_next (by
            rw [iff_ap, tstf, n1]
            simp only [Option.bind_some, brS_f]
            rw [seq_next (by
              rw [iff_ap, tstf, n2]
              simp only [Option.bind_some, brS_f]
              rw [seq_next (pool_append lrp ⟨_, pk2⟩ (k' := k3) (y := k2.length + 1) (by
                simp only [callf_ap, evl_cons, evl_nil, var_ap, lrh, lrt, lrl, lrp, Option.map_some, Option.bind_some, c3 lr]) (U3.get pk2 (by simp; (clear_value *; lia))) (by (clear_value *; lia)))]
              rfl)]
            rfl)]
          rfl
  refine ex8_9 (branch) fun k' l' Γ' Δ' ex' cnt'' es' y e4 U4 I4 gx4 dx4 hy cc en4 lo4 => ?_
  clear branch
  obtain ⟨hl4, P4⟩ := P.add U4 I4 gx4 dx4 hy cc en4
  refine kont ?_
  refine mkE8 _ l' Γ' Δ' ex' cnt'' es' (ps ++ [y]) ⟨?_, P4, fun j h2 h3 h4 => ?_, fun z z1 z2 z3 z4 z5 => (lo4 z z4 z5).trans (lro z z1 z2 z3)⟩
  · unfold L21_0
    rw [seq_next s1, seq_next s2, seq_next s3, seq_next e4]
    rfl
  · rw [get_set_ne (Ne.symm h3)]; exact U4.2 j h2 (by simp; (clear_value *; lia))
end
end Mine.L
end
section
namespace Mine.L
section
variable {Γ : Nat → Option TI} {Δ : Nat → Option OI} {ex : Nat → Int} {cnt : Nat} {es : KE} {h h' : List AO}
theorem PL.step {p i fo : Nat} {k k' : List AO} {cnt' : Nat} {ps : List Nat} (P : PL h p cnt i fo k Γ Δ ex cnt' es ps) (u : Up [4, 5, 7] k k') (I : Inv 0 Γ Δ ex cnt' (Bn (i + 1)) es k') : PL h p cnt i fo k' Γ Δ ex cnt' es ps :=
  ⟨I, u.get P.lst (by have := P.hp; have := P.big; simp; lia), P.ne, P.len, P.pin, P.fo, P.cl, P.en, P.fr, P.up.trans u, P.hp, P.big⟩
theorem pool_ok (I : Inv 0 Γ Δ ex cnt 4 es h) (hc : cnt + 24 ≤ 60) {m : Nat} (hm : 24 ≤ m) :
    ∃ h' Γ' Δ' ex' cnt' es' ps, Call m 21 [.ref 4, .ref 6] h (.ref h.length) h' ∧ Up [4, 5, 7] h h' ∧ Inv 0 Γ' Δ' ex' cnt' (Bn 5) es' h' ∧ h'[h.length]? = some (.list (rf ps)) ∧ ps ≠ [] ∧ ps.length ≤ 9 ∧ (∀ x ∈ ps, ∃ t, Γ' x = some t) ∧ cnt' ≤ cnt + 20 ∧ es' ≠ [] ∧ Fr h.length Γ' Δ' := by
  refine cps fun C kont => ?_
  obtain ⟨n, rfl⟩ := ge_ex (show 24 ≤ m by assumption)
  have big := I.big
  let l0 := env [(S! "hand", .ref 4), (S! "types", .ref 6)]
  let p := h.length
  let ps0 : List Nat := [24, 14, 9, 29, 19]
  let h1 := h ++ [AO.list (rf ps0)]
  let l1 := upd l0 (S! "pool") (.ref p)
  have h1l : h1.length = h.length + 1 := by simp [h1]
  have I1 : Inv 0 Γ Δ ex cnt 4 es h1 := I.app _
  have l0t : l0 (S! "types") = some (.ref 6) := by kernel_rfl!
  have s1 : setl (S! "pool") (lst [att (var (S! "types")) (S! "integer"), att (var (S! "types")) (S! "char"), att (var (S! "types")) (S! "boolean"), att (var (S! "types")) (S! "mask"), att (var (S! "types")) (S! "byte")]) ⟨h, l0⟩ = some (.next, ⟨h1, l1⟩) := by
    simp only [setl_ap, lst_ap, evl_cons, evl_nil, att_ap, var_ap, l0t, Option.map_some, Option.bind_some, ts_rd I.t5 I.t6]
    rfl
  have l1p : l1 (S! "pool") = some (.ref p) := by kernel_rfl!
  have l1h : l1 (S! "hand") = some (.ref 4) := by kernel_rfl!
  have l1t : l1 (S! "types") = some (.ref 6) := by kernel_rfl!
  have pin0 : ∀ x ∈ ps0, ∃ t, Γ x = some t := fun x hx => I.bas x (by simp only [ps0, List.mem_cons, List.not_mem_nil, or_false] at hx; rcases hx with rfl | rfl | rfl | rfl | rfl <;> simp [basics])
  let h2 := h1 ++ [AO.junk, AO.list (rf [24, 14])]
  have h2l : h2.length = h.length + 3 := by simp [h2, h1l]
  have I2 : Inv 0 Γ Δ ex cnt 4 es h2 := I1.app _
  have hslc : slc (var (S! "pool")) (lit .none) (lit (.int 2)) ⟨h1, l1⟩ = some (.ref (h1.length + 1), ⟨h2, l1⟩) := by
    have e : h1[p]? = some (.list (rf ps0)) := get_app0
    simp only [slc_ap, var_ap, l1p, Option.map_some, Option.bind_some, lit_ap, slc_list e (show (rf ps0).length ≤ szMax from by rw [szm]; decide) (sl_to (show (0 : Int) ≤ 2 from by decide))]
    rfl
  obtain ⟨h3, Γ3, Δ3, ex3, cnt3, es3, fs3, s3, c3, U3, I3, gx3, dx3, cc3, en3, et3⟩ := record_ok I2 (by (clear_value *; lia)) (by decide) (ps := [24, 14]) (p := h1.length + 1) (get_app 1) (by (clear_value *; lia)) (by simp) (by simp) (fun x hx => pin0 x (by
    simp only [List.mem_cons, List.not_mem_nil, or_false] at hx
    rcases hx with rfl | rfl <;> simp [ps0])) (base := none) (fun b q => by cases q) (mod := S! "N") (label := S! "R") (by rw [ne_eq, ofS_inj]; decide) (by decide +kernel) true (show 16 ≤ n + 21 from Nat.le_add_left 16 (n + 5))
  let fo := h2.length + 1
  let l3 := upd l1 (S! "foreign") (.ref fo)
  have l3f : l3 (S! "foreign") = some (.ref fo) := by kernel_rfl!
  have l3h : l3 (S! "hand") = some (.ref 4) := Eq.trans (by kernel_rfl!) l1h
  have s2 : setl (S! "foreign") (callf ((run theQ (n + 21)).fn) 19 [var (S! "hand"), var (S! "types"), lit (.str (S! "N")), lit (.str (S! "R")), lit .none, slc (var (S! "pool")) (lit .none) (lit (.int 2)), lit (.bool true)]) ⟨h1, l1⟩ = some (.next, ⟨h3, l3⟩) := by
    have c3' : (run theQ (n + 21)).fn 19 [.ref 4, .ref 6, .str (S! "N"), .str (S! "R"), .none, .ref (h1.length + 1), .bool true] ⟨h2, l1⟩ = some (.ref (h2.length + 1), ⟨h3, l1⟩) := c3 l1
    simp only [setl_ap, callf_ap, evl_cons, evl_nil, var_ap, l1h, l1t, lit_ap, Option.map_some, Option.bind_some, hslc, c3']
    rfl
  obtain ⟨x4, HT⟩ := I3.W.ty fo _ et3
  let t3 : TI := ⟨cnt + 1, S! "record", none, fs3, [], S! "N", s3⟩
  let h4 := h3.set (fo - 1) (.flds (tyF fo t3 x4 1))
  have I4 := I3.modTy (t' := t3) (x' := x4) (v := 1) (h' := h4) (pd' := 0) (B' := 8 * 4) et3 HT (HT.put rfl rfl) (by simp [h4]) (fun j q _ _ => get_set_ne (fun q2 => q q2.symm)) (I3.G.fs fo _ et3) (I3.G.ps fo _ et3) (I3.G.fsl fo _ et3) (I3.G.psl fo _ et3) (fun b hb => I3.G.base fo _ b et3 hb) rfl (fun q => I3.G.has fo _ et3 q) (.inl rfl) rfl (Int.le_refl _) (I3.sz fo _ et3) (fun q => by
    have q : S! "N" = S! "M" := q
    rw [ofS_inj] at q; exact absurd q (by decide))
  rw [updT_id et3] at I4
  have U4 : Up [4, 5, 7] h h4 := (((Up.app _ _ _).appR _).trans U3).set (.inr (by show h.length ≤ h2.length + 1 - 1; (clear_value *; lia)))
  have hU3 := U3.1
  have h4l : h4.length = h3.length := by simp [h4]
  have p4 : h4[p]? = some (.list (rf ps0)) := by
    have e1 : h2[p]? = some (.list (rf ps0)) := (get_lt (by rw [h1l]; exact Nat.lt_succ_self _)).trans get_app0
    have e3 : h3[p]? = some (.list (rf ps0)) := U3.get e1 (by show h.length ∉ _; simp; (clear_value *; lia))
    exact (get_set_ne (by show h2.length + 1 - 1 ≠ h.length; (clear_value *; lia))).trans e3
  have frp : Fr p Γ3 Δ3 := ⟨fun a t e => by
    rcases gx3.new a t e with q | q
    · exact .inr (by have := I.W.ltT a t q; exact this)
    · exact .inl (by show h.length < a - 1; (clear_value *; lia)), fun a o e => by
    rcases dx3.new a o e with q | q
    · exact .inr (by have := I.W.ltO a o q; exact this)
    · exact .inl (by show h.length < a - 1; (clear_value *; lia))⟩
  have P4 : PL h p cnt 0 fo h4 Γ3 Δ3 (set1 ex3 fo 1) cnt3 es3 ps0 := ⟨I4, p4, by simp [ps0], by simp [ps0], fun x hx => let ⟨t, e⟩ := pin0 x hx; ⟨t, gx3.old x t e⟩, ⟨_, et3, rfl⟩, by (clear_value *; lia), en3, frp, U4, Nat.le_refl _, big⟩
  have s4 : seta (var (S! "foreign")) (S! "exno") (lit (.int 1)) ⟨h3, l3⟩ = some (.next, ⟨h4, l3⟩) := by
    simp only [seta_ap, lit_ap, Option.bind_some, asgA_ap, var_ap, l3f, Option.map_some, HT.wr]
    rfl
  refine ex2_3 (range_pick (l := l3) I4.hd (lim := 5) (by (clear_value *; lia)) (by (clear_value *; lia)) (show 8 ≤ n + 20 from Nat.le_add_left 8 (n + 12)) l3h) fun d o5 dl hd5 er => ?_
  let h5 := h4.set 4 o5 ++ [AO.rng d]
  have er : bcall (.typ "range") [callf ((run theQ (n + 20)).fn) 18 [var (S! "hand"), lit (.int 5)]] ⟨h4, l3⟩ = some (.ref h4.length, ⟨h5, l3⟩) := er
  have hrng : h5[h4.length]? = some (.rng d) := by
    have q : h4.length = (h4.set 4 o5).length := by simp
    rw [q]; exact get_app0
  have h5l : h5.length = h4.length + 1 := by simp [h5]
  have P5 : PL h p cnt 0 fo h5 Γ3 Δ3 (set1 ex3 fo 1) cnt3 es3 ps0 := P4.step (((Up.refl _ _).set (.inl (by simp))).appR _) ((P4.I.set4 hd5).app _)
  let J : Nat → List AO → (Str → Option AV) → Prop := fun i k lk => (∃ Γ' Δ' ex' cnt' es' ps, PL h p cnt i fo k Γ' Δ' ex' cnt' es' ps) ∧ (∀ y, y ≠ S! "at" → y ≠ S! "form" → y ≠ S! "label" → y ≠ S! "records" → y ≠ S! "base" → y ≠ S! "t" → lk y = l3 y) ∧ h5.length ≤ k.length
  have look : ∀ {lk : Str → Option AV} {i : Nat}, (∀ y, y ≠ S! "at" → y ≠ S! "form" → y ≠ S! "label" → y ≠ S! "records" → y ≠ S! "base" → y ≠ S! "t" → lk y = l3 y) → ∀ s : String, s ≠ "at" → s ≠ "form" → s ≠ "label" → s ≠ "records" → s ≠ "base" → s ≠ "t" → upd lk (S! "at") (.int i) (S! s) = l3 (S! s) := fun {lk i} q s h1 h2 h3 h4 h5 h6 => by
    rw [upd_ap, if_neg (dn h1)]; exact q _ (dn h1) (dn h2) (dn h3) (dn h4) (dn h5) (dn h6)
  obtain ⟨k, lk, e6, ⟨Γ6, Δ6, ex6, cnt6, es6, ps6, P6⟩, L6, _⟩ := forN_range (x := S! "at") (N := d) (body := seq (L21_0 n)) (j := h5.length) J
    (fun i k lk o ⟨⟨Γ', Δ', ex', cnt', es', ps, q1⟩, q2, q3⟩ ⟨y, z, hz⟩ => ⟨⟨Γ', Δ', ex', cnt', es', ps, by
      have hne : p ≠ h5.length := by show h.length ≠ _; (clear_value *; lia)
      exact ⟨q1.I.setK hz rfl (by (clear_value *; lia)), (get_set_ne (Ne.symm hne)).trans q1.lst, q1.ne, q1.len, q1.pin, q1.fo, q1.cl, q1.en, q1.fr, q1.up.set (.inr (by (clear_value *; lia))), q1.hp, q1.big⟩⟩, q2, by simpa using q3⟩)
    (fun i k lk hi ⟨⟨Γ', Δ', ex', cnt', es', ps, q1⟩, q2, q3⟩ ⟨y, z, hz⟩ => by
      obtain ⟨k', l', Γ2, Δ2, ex2, cnt2, es2, ps2, r1, r2, r3, r4⟩ := pool_turn q1 (by (clear_value *; lia)) hc n (l := upd lk (S! "at") (.int i))
        ((look q2 _ (by decide) (by decide) (by decide) (by decide) (by decide) (by decide)).trans l3h) ((look q2 _ (by decide) (by decide) (by decide) (by decide) (by decide) (by decide)).trans (by simp only [upd_ap, if_false, ofS_inj, String.reduceEq, l3, l1t])) ((look q2 _ (by decide) (by decide) (by decide) (by decide) (by decide) (by decide)).trans (by simp only [upd_ap, if_false, ofS_inj, String.reduceEq, l3, l1p])) ((look q2 _ (by decide) (by decide) (by decide) (by decide) (by decide) (by decide)).trans l3f) (by kernel_rfl!)
      have hjl := lt_of hz
      refine ⟨.next, k', l', r1, .inl rfl, r3 _ hjl (by show h5.length ≠ h.length; (clear_value *; lia)) (by (clear_value *; lia)), ⟨Γ2, Δ2, ex2, cnt2, es2, ps2, r2⟩, fun y y1 y2 y3 y4 y5 y6 => by rw [r4 y y2 y3 y4 y5 y6, upd_ap, if_neg y1]; exact q2 y y1 y2 y3 y4 y5 y6, ?_⟩
      have e1 := r3 _ hjl (by show h5.length ≠ h.length; (clear_value *; lia)) (by (clear_value *; lia))
      rw [hz] at e1
      have := lt_of e1; (clear_value *; lia))
    d 0 (h5 ++ [.riter (0 : Nat) d]) l3 loops (by (clear_value *; lia)) (by unfold loops; (clear_value *; lia)) get_app0
    ⟨⟨_, _, _, _, _, _, P5.step (Up.app _ _ _) (P5.I.app _)⟩, fun _ _ _ _ _ _ _ => rfl, by simp⟩
  have lkp : lk (S! "pool") = some (.ref p) := by rw [L6 _ (dn (by decide)) (dn (by decide)) (dn (by decide)) (dn (by decide)) (dn (by decide)) (dn (by decide))]; simp only [upd_ap, if_false, ofS_inj, String.reduceEq, l3, l1p]
  have hB : Bn (d + 1) ≤ Bn 5 := by
    have : d = 0 ∨ d = 1 ∨ d = 2 ∨ d = 3 ∨ d = 4 := by (clear_value *; lia)
    rcases this with rfl | rfl | rfl | rfl | rfl <;> (unfold Bn; decide)
  refine kont ?_
  refine mkE7 k Γ6 Δ6 ex6 cnt6 es6 ps6 ⟨fun l => ?_, P6.up, P6.I.wide hB, P6.lst, P6.ne, by have := P6.len; (clear_value *; lia), P6.pin, by have := P6.cl; (clear_value *; lia), P6.en, P6.fr⟩
  rw [fn21]
  apply frun_ret' (l' := lk)
  unfold B21
  show seq _ ⟨h, l0⟩ = _
  rw [seq_next s1, seq_next s2, seq_next s4]
  rw [seq_next (σ' := ⟨k, lk⟩) (forl_range (b := h4.length) (k := d) (h := h5) (l := l3) er hrng (by (clear_value *; lia)) e6)]
  apply seq_ret
  simp only [var_ap, Option.map_some, sRet_ap, lkp]
  rfl
end
end Mine.L
end
section
namespace Mine.L
section
variable {Γ Γ2 : Nat → Option TI} {Δ Δ2 : Nat → Option OI} {ex ex2 : Nat → Int} {cnt cnt2 : Nat} {es es2 : KE} {h k k' : List AO} {B : Int}
structure ML (h : List AO) (tr p c i : Nat) (ps : List Nat) (k : List AO) (Γ : Nat → Option TI) (Δ : Nat → Option OI) (ex : Nat → Int) (cnt : Nat) (es : KE) (os : List Nat) : Prop where
  I : Inv 0 Γ Δ ex cnt (Bn 5) es k
  t1 : k[tr]? = some (.inst 4 (tr - 1))
  t2 : k[tr - 1]? = some (.flds (trF tr (S! "M")))
  os' : k[tr + 2]? = some (.list (rf os))
  ol : os.length = i
  nd : os.Nodup
  obs : ∀ o ∈ os, o < k.length ∧ ∃ oi, Δ o = some oi ∧ oi.kind ≠ S! "record"
  lst : k[p]? = some (.list (rf ps))
  pin : ∀ x ∈ ps, ∃ t, Γ x = some t
  cl : cnt ≤ c + i
  en : es ≠ []
  fr : Fr (tr + 2) Γ Δ
  up : Up [4, 5, 7] h k
  p8 : 42 ≤ p
  trp : p < tr - 1
  h8 : 42 ≤ h.length
  hp : h.length ≤ p
theorem item_neg {l : Str → Option AV} {a i : Nat} {xs : List AV} {v : AV} (e : k[a]? = some (.list xs)) (n : xs.length ≤ szMax) (hi : i < xs.length) (hv : xs[xs.length - 1 - i]? = some v) : item (.ref a) (.int (-1 - (i : Int))) ⟨k, l⟩ = some v := by
  show itemI a (-1 - (i : Int)) ⟨k, l⟩ = _
  unfold itemI; simp only [e]; unfold pickL
  have h1 : ¬ (0 : Int) ≤ -1 - (i : Int) := by lia
  have h2 : (0 : Int) ≤ -1 - (i : Int) + (xs.length : Int) := by lia
  have h3 : (-1 - (i : Int) + (xs.length : Int)).toNat = xs.length - 1 - i := by lia
  simp only [n, if_true, idx?, h1, if_false, h2, h3, Option.bind_some, hv]
theorem mod_turn {tr p c i : Nat} {ps os : List Nat} (P : ML h tr p c i ps k Γ Δ ex cnt es os) (pne : ps ≠ []) (pl : ps.length ≤ 40) (hi : i < 5) (hc : c + 6 ≤ 60) (n : Nat) {l : Str → Option AV}
    (q1 : l (S! "hand") = some (.ref 4)) (q2 : l (S! "types") = some (.ref 6)) (q3 : l (S! "pool") = some (.ref p)) (q4 : l (S! "tree") = some (.ref tr)) (q5 : l (S! "at") = some (.int i)) :
    ∃ k' l' Γ' Δ' ex' cnt' es' os', seq (L23_0 n) ⟨k, l⟩ = some (.next, ⟨k', l'⟩) ∧ ML h tr p c (i + 1) ps k' Γ' Δ' ex' cnt' es' os' ∧ (∀ j, j < k.length → j ≠ tr + 2 → 42 ≤ j → k'[j]? = k[j]?) ∧ k.length ≤ k'.length ∧
      (∀ y, y ≠ S! "kind" → y ≠ S! "obj" → l' y = l y) := by
  refine cps fun C kont => ?_
  have p8 := P.p8; have trp := P.trp; have h8 := P.h8; have cl := P.cl
  have trl := lt_of P.os'
  have ul := P.up.1
  have B4 := (Bn_le 5 (by lia)).1
  let KL : AO := .list [.str (S! "const"), .str (S! "type"), .str (S! "var"), .str (S! "proc")]
  have Ia : Inv 0 Γ Δ ex cnt (Bn 5) es (k ++ [KL]) := P.I.app _
  refine ex2_4 (pick_ok Ia.hd (lim := 4) (by (clear_value *; lia)) (by (clear_value *; lia)) (show 8 ≤ n + 22 from Nat.le_add_left 8 (n + 14))) fun d o1 c1 d0 d1 hd1 => ?_
  let k1 := (k ++ [KL]).set 4 o1
  have I1 : Inv 0 Γ Δ ex cnt (Bn 5) es k1 := Ia.set4 hd1
  have k1l : k1.length = k.length + 1 := by simp [k1]
  have hkd : ∃ kd c0 : Str, (∀ l, item (.ref k.length) (.int d) ⟨k1, l⟩ = some (.str kd)) ∧ kd ≠ S! "record" ∧ (∀ l, item (.str kd) (.int 0) ⟨k1, l⟩ = some (.str c0)) ∧ c0.length ≤ 10 := by
    refine cps fun C kont => ?_
    obtain ⟨dN, rfl⟩ : ∃ dN : Nat, d = dN := ⟨d.toNat, by (clear_value *; lia)⟩
    have e : k1[k.length]? = some KL := (get_set_ne (by (clear_value *; lia))).trans get_app0
    have : dN = 0 ∨ dN = 1 ∨ dN = 2 ∨ dN = 3 := by (clear_value *; lia)
    have fst : ∀ s : Str, s.length ≤ 10 → 0 < s.length → ∃ c0 : Str, (∀ l, item (.str s) (.int 0) ⟨k1, l⟩ = some (.str c0)) ∧ c0.length ≤ 10 := fun s h1 h2 => by
      refine ⟨⟨#[s.cps.getD (0 : Int).toNat 0]⟩, fun l => ?_, by show 1 ≤ 10; decide⟩
      exact if_pos ⟨Int.le_refl 0, by (clear_value *; lia), by rw [szm]; (clear_value *; lia)⟩
    rcases this with rfl | rfl | rfl | rfl
    · obtain ⟨c0, h1, h2⟩ := fst (S! "const") (by decide +kernel) (by decide +kernel)
      refine kont ?_
      exact mk2_4 (S! "const") c0 (fun l => item_list e (by rw [szm]; simp) rfl) (by rw [ne_eq, ofS_inj]; decide) h1 h2
    · obtain ⟨c0, h1, h2⟩ := fst (S! "type") (by decide +kernel) (by decide +kernel)
      refine kont ?_
      exact mk2_4 (S! "type") c0 (fun l => item_list e (by rw [szm]; simp) rfl) (by rw [ne_eq, ofS_inj]; decide) h1 h2
    · obtain ⟨c0, h1, h2⟩ := fst (S! "var") (by decide +kernel) (by decide +kernel)
      refine kont ?_
      exact mk2_4 (S! "var") c0 (fun l => item_list e (by rw [szm]; simp) rfl) (by rw [ne_eq, ofS_inj]; decide) h1 h2
    · obtain ⟨c0, h1, h2⟩ := fst (S! "proc") (by decide +kernel) (by decide +kernel)
      refine kont ?_
      exact mk2_4 (S! "proc") c0 (fun l => item_list e (by rw [szm]; simp) rfl) (by rw [ne_eq, ofS_inj]; decide) h1 h2
  refine ex2_4 (hkd) fun kd c0 hk1 kdr hk2 c0l => ?_
  clear hkd
  let lk := upd l (S! "kind") (.str kd)
  have s1 : setl (S! "kind") (sub (lst [lit (.str (S! "const")), lit (.str (S! "type")), lit (.str (S! "var")), lit (.str (S! "proc"))]) (callf ((run theQ (n + 22)).fn) 18 [var (S! "hand"), lit (.int 4)])) ⟨k, l⟩ = some (.next, ⟨k1, lk⟩) := by
    have q0 : lst [lit (.str (S! "const")), lit (.str (S! "type")), lit (.str (S! "var")), lit (.str (S! "proc"))] ⟨k, l⟩ = some (.ref k.length, ⟨k ++ [KL], l⟩) := rfl
    simp only [setl_ap, sub_ap, q0, Option.bind_some, callf_ap, evl_cons, evl_nil, var_ap, q1, lit_ap, Option.map_some, c1 l]
    rw [hk1 l]
    rfl
  have lkk : lk (S! "kind") = some (.str kd) := by kernel_rfl!
  have lka : lk (S! "at") = some (.int i) := Eq.trans (by kernel_rfl!) q5
  have lkt : lk (S! "types") = some (.ref 6) := Eq.trans (by kernel_rfl!) q2
  have dl10 := digits_len i (by (clear_value *; lia))
  let nm' : Str := c0 ++ Str.ofString (toString (i : Int))
  let oi : OI := ⟨nm', kd, 39, false⟩
  let ox : OX := ⟨.bool false, .str (S! ""), .none, .int 0, .int 0, .bool false⟩
  let f := k1.length + 1
  let k2 := k1 ++ [AO.flds (obF oi ox 0), .inst 2 k1.length]
  have I2 : Inv 0 Γ (updT Δ f oi) ex cnt (Bn 5) es k2 := I1.newOb (o := oi) (x := ox) (I1.bas 39 (by simp [basics]))
  have k2l : k2.length = k.length + 3 := by simp [k2, k1l]
  let lo := upd lk (S! "obj") (.ref f)
  have s2 : setl (S! "obj") (newc ((run theQ (n + 23)).fn) 2 7 [bino .Add (sub (var (S! "kind")) (lit (.int 0))) (bcall (.typ "str") [var (S! "at")]), var (S! "kind"), att (var (S! "types")) (S! "none"), lit (.int 0)]) ⟨k1, lk⟩ = some (.next, ⟨k2, lo⟩) := by
    rw [setl_ap, mkOb_ok (n := 0) (h := k1) (l := lk) (name := nm') (kind := kd) (ty := 39) (by
      simp only [evl_cons, evl_nil, bino_ap, sub_ap, var_ap, lkk, lit_ap, Option.map_some, Option.bind_some, hk2 lk, bcall_ap, lka, str_ap (h := k1) (l := lk) i (by (clear_value *; lia)), add_str,
        show c0.length ≤ szMax from by rw [szm]; (clear_value *; lia), show (Str.ofString (toString (i : Int))).length ≤ szMax from by rw [szm]; (clear_value *; lia), and_self, if_true, att_ap, lkt, ts_rd I1.t5 I1.t6]
      rfl) (by (clear_value *; lia)) (show 3 ≤ n + 23 from Nat.le_add_left 3 (n + 20))]
    rfl
  have loo : lo (S! "obj") = some (.ref f) := by kernel_rfl!
  have lok : lo (S! "kind") = some (.str kd) := Eq.trans (by kernel_rfl!) lkk
  have loh : lo (S! "hand") = some (.ref 4) := Eq.trans (by kernel_rfl!) q1
  have lot : lo (S! "types") = some (.ref 6) := Eq.trans (by kernel_rfl!) lkt
  have lop : lo (S! "pool") = some (.ref p) := Eq.trans (by kernel_rfl!) q3
  have loa : lo (S! "at") = some (.int i) := Eq.trans (by kernel_rfl!) lka
  have lotr : lo (S! "tree") = some (.ref tr) := Eq.trans (by kernel_rfl!) q4
  have hnΔ : Δ f = none := P.I.noO (by lia)
  have ff : updT Δ f oi f = some oi := updT_self _ _ _
  have pk2 : k2[p]? = some (.list (rf ps)) := (get_lt (by (clear_value *; lia))).trans ((get_set_ne (by (clear_value *; lia))).trans ((get_lt (by (clear_value *; lia))).trans P.lst))
  have psl : (rf ps).length ≤ szMax := by rw [rf_len, szm]; (clear_value *; lia)
  have ppos : 0 < ps.length := by cases ps with | nil => exact absurd rfl pne | cons _ _ => simp
  have tk : ∀ s : String, tcmp .Eq (var (S! "kind")) (lit (.str (S! s))) ⟨k2, lo⟩ = some (kd == S! s, ⟨k2, lo⟩) := fun s => by simp only [tcmp_ap, var_ap, lok, lit_ap, Option.map_some, Option.bind_some, c_eq, s_str]
  have typed : ∃ k4 Γ4 Δ4 ex4 cnt4 es4 y, iff' (tcmp .Eq (var (S! "kind")) (lit (.str (S! "const")))) [set2 (asgA (var (S! "obj")) (S! "type")) (asgA (var (S! "obj")) (S! "value")) (callf ((run theQ (n + 22)).fn) 22 [var (S! "hand"), var (S! "types")])]
      [iff' (tcmp .Eq (var (S! "kind")) (lit (.str (S! "proc")))) [seta (var (S! "obj")) (S! "type") (callf ((run theQ (n + 21)).fn) 20 [var (S! "hand"), var (S! "types"), bino .Add (lit (.str (S! "P"))) (bcall (.typ "str") [var (S! "at")]), var (S! "pool")])]
      [seta (var (S! "obj")) (S! "type") (sub (var (S! "pool")) (bino .Sub (negE (lit (.int 1))) (callf ((run theQ (n + 19)).fn) 18 [var (S! "hand"), bcall (.bltn "len") [var (S! "pool")]])))]] ⟨k2, lo⟩ = some (.next, ⟨k4, lo⟩) ∧
      Inv 0 Γ4 Δ4 ex4 cnt4 (Bn 5) es4 k4 ∧ Δ4 f = some ⟨nm', kd, y, false⟩ ∧ Gx k Γ Γ4 ∧ Dx k Δ Δ4 ∧ Up [4, 5, 7, f - 1] k2 k4 ∧ cnt4 ≤ cnt + 1 ∧ es4 ≠ [] := by
    refine cps fun C kont => ?_
    have dx2 : Dx k Δ (updT Δ f oi) := (Dx.refl _ _).upd _ (by lia) hnΔ
    have m4 : ∀ {x y : List AO}, Up [4, 5, 7] x y → Up [4, 5, 7, f - 1] x y := fun u => u.mono fun j hj _ => by simp at hj ⊢; (clear_value *; lia)
    have setT : ∀ {g : List AO} {Γ' : Nat → Option TI} {Δ' : Nat → Option OI} {ex' : Nat → Int} {cnt' : Nat} {es' : KE} (Ig : Inv 0 Γ' Δ' ex' cnt' (Bn 5) es' g) (ef : Δ' f = some oi) (y : Nat) (hy : ∃ t, Γ' y = some t), ∃ x, (∀ l, setAttr theQ (.ref f) (S! "type") (.ref y) ⟨g, l⟩ = some ⟨g.set (f - 1) (.flds (obF ⟨nm', kd, y, false⟩ x 0)), l⟩) ∧
        Inv 0 Γ' (updT Δ' f ⟨nm', kd, y, false⟩) ex' cnt' (Bn 5) es' (g.set (f - 1) (.flds (obF ⟨nm', kd, y, false⟩ x 0))) ∧ IsOb (g.set (f - 1) (.flds (obF ⟨nm', kd, y, false⟩ x 0))) f ⟨nm', kd, y, false⟩ x 0 := fun {g Γ' Δ' ex' cnt' es'} Ig ef y hy => by
      obtain ⟨x, HO'⟩ := Ig.W.ob f oi ef
      have HO : IsOb g f oi x 0 := HO'
      exact ⟨x, fun l => HO.wr.2.1 l y, Ig.modOb (o' := ⟨nm', kd, y, false⟩) (x' := x) ef HO hy, HO.put⟩
    cases hk : kd == S! "const" with
    | true =>
      refine ex7_7 (const_ok I2 (by (clear_value *; lia)) (show 15 ≤ n + 22 from Nat.le_add_left 15 (n + 7))) fun g Γ4 ex4 cnt4 y v r c3 U3 I3 gx3 cc3 hr hy => ?_
      obtain ⟨x, w4, I4, HO4⟩ := setT I3 ff y hy
      have I5 := I4.modOb (o' := ⟨nm', kd, y, false⟩) (x' := { x with va := v }) (updT_self _ _ _) HO4 hy
      refine kont ?_
      refine mkE7 _ Γ4 _ ex4 cnt4 es y ⟨?_, I5, updT_self _ _ _, ⟨gx3.old, fun a t e => by rcases gx3.new a t e with q | q; exact .inl q; exact .inr (by (clear_value *; lia))⟩, (dx2.upd _ (by lia) hnΔ).upd _ (by lia) hnΔ, ((m4 U3).set (.inl (by simp))).set (.inl (by simp)), cc3, P.en⟩
      rw [iff_ap, tk, hk]
      simp only [Option.bind_some, brS_t]
      rw [seq_next (by
        show ((callf ((run theQ (n + 22)).fn) 22 [var (S! "hand"), var (S! "types")] ⟨k2, lo⟩).bind _) = _
        simp only [callf_ap, evl_cons, evl_nil, var_ap, loh, lot, Option.map_some, Option.bind_some, c3 lo, pair_at hr, asgA_ap, loo, w4, HO4.wr]
        rfl)]
      rfl
    | false =>
      cases hk2 : kd == S! "proc" with
      | true =>
        let lab : Str := S! "P" ++ Str.ofString (toString (i : Int))
        have labne : lab ≠ S! "" := by
          intro q
          have := congrArg Str.length q
          rw [str_app] at this
          have e1 : (S! "P").length = 1 := by decide +kernel
          have e2 : (S! "").length = 0 := by decide +kernel
          (clear_value *; lia)
        refine ex6_7 (procedure_ok I2 (by (clear_value *; lia)) pk2 (by (clear_value *; lia)) pne pl P.pin labne (show 16 ≤ n + 21 from Nat.le_add_left 16 (n + 5))) fun g Γ4 Δ4 ex4 es4 t4 c3 U3 I3 gx3 dx3 en3 et3 => ?_
        obtain ⟨x, w4, I4, HO4⟩ := setT I3 (dx3.old _ _ ff) (k2.length + 1) ⟨_, et3⟩
        refine kont ?_
        refine mkE7 _ Γ4 _ ex4 (cnt + 1) es4 (k2.length + 1) ⟨?_, I4, updT_self _ _ _, ⟨gx3.old, fun a t e => by rcases gx3.new a t e with q | q; exact .inl q; exact .inr (by (clear_value *; lia))⟩, (dx2.trans dx3 (by (clear_value *; lia))).upd _ (by lia) hnΔ, (m4 U3).set (.inl (by simp)), by (clear_value *; lia), en3⟩
        rw [iff_ap, tk, hk]
        simp only [Option.bind_some, brS_f]
        rw [seq_next (by
          rw [iff_ap, tk, hk2]
          simp only [Option.bind_some, brS_t]
          rw [seq_next (by
            have qa : bino .Add (lit (.str (S! "P"))) (bcall (.typ "str") [var (S! "at")]) ⟨k2, lo⟩ = some (.str lab, ⟨k2, lo⟩) := by
              simp only [bino_ap, lit_ap, bcall_ap, evl_cons, evl_nil, var_ap, loa, Option.map_some, Option.bind_some, str_ap (h := k2) (l := lo) i (by (clear_value *; lia)), add_str, show (S! "P").length ≤ szMax from by decide +kernel, show (Str.ofString (toString (i : Int))).length ≤ szMax from by rw [szm]; (clear_value *; lia), and_self, if_true]
              rfl
            rw [seta_ap]
            simp only [callf_ap, evl_cons, evl_nil, var_ap, loh, lot, lop, qa, Option.map_some, Option.bind_some, c3 lo, asgA_ap, loo, w4]
            rfl)]
          rfl)]
        rfl
      | false =>
        refine ex2_4 (pick_ok I2.hd (lim := (ps.length : Int)) (by (clear_value *; lia)) (by (clear_value *; lia)) (show 8 ≤ n + 19 from Nat.le_add_left 8 (n + 11))) fun d' o3 c3 d0' d1' hd3 => ?_
        have I3 := I2.set4 hd3
        obtain ⟨dN, rfl⟩ : ∃ dN : Nat, d' = dN := ⟨d'.toNat, by (clear_value *; lia)⟩
        obtain ⟨y, hy⟩ : ∃ y, ps[ps.length - 1 - dN]? = some y := ⟨_, List.getElem?_eq_getElem (by (clear_value *; lia))⟩
        obtain ⟨t, et⟩ := P.pin y (List.mem_of_getElem? hy)
        obtain ⟨x, w4, I4, HO4⟩ := setT I3 ff y ⟨t, et⟩
        refine kont ?_
        refine mkE7 _ Γ _ ex cnt es y ⟨?_, I4, updT_self _ _ _, Gx.refl _ _, dx2.upd _ (by lia) hnΔ, ((Up.refl _ _).set (.inl (by simp))).set (.inl (by simp)), by (clear_value *; lia), P.en⟩
        rw [iff_ap, tk, hk]
        simp only [Option.bind_some, brS_f]
        rw [seq_next (by
          rw [iff_ap, tk, hk2]
          simp only [Option.bind_some, brS_f]
          rw [seq_next (by
            have qs : sub (var (S! "pool")) (bino .Sub (negE (lit (.int 1))) (callf ((run theQ (n + 19)).fn) 18 [var (S! "hand"), bcall (.bltn "len") [var (S! "pool")]])) ⟨k2, lo⟩ = some (.ref y, ⟨k2.set 4 o3, lo⟩) := by
              simp only [sub_ap, var_ap, lop, loh, Option.map_some, Option.bind_some, bino_ap, negE_ap, lit_ap, callf_ap, evl_cons, evl_nil, bcall_ap, len_ap (l := lo) pk2 psl, rf_len, c3 lo, sub_int, neg_i]
              rw [item_neg (i := dN) (xs := rf ps) ((get_set_ne (by (clear_value *; lia))).trans pk2) psl (by rw [rf_len]; (clear_value *; lia)) (by rw [rf_len]; unfold rf; rw [List.getElem?_map, hy]; rfl)]
              rfl
            rw [seta_ap, qs]
            simp only [Option.bind_some, asgA_ap, var_ap, loo, Option.map_some, w4]
            rfl)]
          rfl)]
        rfl
  refine ex7_8 (typed) fun k4 Γ4 Δ4 ex4 cnt4 es4 y e4 I4 ef4 gx4 dx4 U4 cc4 en4 => ?_
  clear typed
  refine ex2_4 (pick_ok I4.hd (lim := 4) (by (clear_value *; lia)) (by (clear_value *; lia)) (show 8 ≤ n + 22 from Nat.le_add_left 8 (n + 14))) fun d5 o5 c5 _ _ hd5 => ?_
  let k5 := k4.set 4 o5
  have I5 : Inv 0 Γ4 Δ4 ex4 cnt4 (Bn 5) es4 k5 := I4.set4 hd5
  obtain ⟨x5, HO5'⟩ := I5.W.ob f _ ef4
  have HO5 : IsOb k5 f ⟨nm', kd, y, false⟩ x5 0 := HO5'
  have ytype := I5.G.oty f _ ef4
  let oi6 : OI := ⟨nm', kd, y, decide (d5 < 3)⟩
  let k6 := k5.set (f - 1) (.flds (obF oi6 x5 0))
  have I6 : Inv 0 Γ4 (updT Δ4 f oi6) ex4 cnt4 (Bn 5) es4 k6 := I5.modOb (o' := oi6) (x' := x5) ef4 HO5 ytype
  have HO6 : IsOb k6 f oi6 x5 0 := HO5.put
  let k7 := k6.set (f - 1) (.flds (obF oi6 { x5 with md := .str (S! "M") } 0))
  have I7 : Inv 0 Γ4 (updT (updT Δ4 f oi6) f oi6) ex4 cnt4 (Bn 5) es4 k7 := I6.modOb (o' := oi6) (x' := { x5 with md := .str (S! "M") }) (updT_self _ _ _) HO6 ytype
  have k4l := U4.1
  have f1 : f - 1 = k.length + 1 := by simp [f, k1l]
  have U7 : Up [4, 5, 7] k k7 := by
    have u2 : Up [4, 5, 7] k k2 := ((Up.app _ _ _).set (.inl (by simp))).appR _
    have u4 : Up [4, 5, 7] k k4 := ⟨by (clear_value *; lia), fun j hj hs => (U4.2 j (by (clear_value *; lia)) (by simp at hs ⊢; (clear_value *; lia))).trans (u2.2 j hj hs)⟩
    exact ((u4.set (.inl (by simp))).set (.inr (by (clear_value *; lia)))).set (.inr (by (clear_value *; lia)))
  have k7l : k7.length = k4.length := by simp [k7, k6, k5]
  have dx7 : Dx k Δ (updT (updT Δ4 f oi6) f oi6) := (dx4.upd _ (by (clear_value *; lia)) hnΔ).upd _ (by (clear_value *; lia)) hnΔ
  have fr7 : Fr (tr + 2) Γ4 (updT (updT Δ4 f oi6) f oi6) := ⟨fun a t e => by
    rcases gx4.new a t e with q | q
    · exact P.fr.t a t q
    · exact .inl (by (clear_value *; lia)), fun a o e => by
    rcases dx7.new a o e with q | q
    · exact P.fr.o a o q
    · exact .inl (by (clear_value *; lia))⟩
  have tr7 : ∀ {j : Nat} {o : AO}, k[j]? = some o → 42 ≤ j → k7[j]? = some o := fun e hj => U7.get e (by simp; (clear_value *; lia))
  have os7 := tr7 P.os' (by (clear_value *; lia))
  have t17 := tr7 P.t1 (by (clear_value *; lia))
  have t27 := tr7 P.t2 (by (clear_value *; lia))
  let k8 := k7.set (tr + 2) (.list (rf os ++ [.ref f]))
  have I8 : Inv 0 Γ4 (updT (updT Δ4 f oi6) f oi6) ex4 cnt4 (Bn 5) es4 k8 := I7.put os7 (by (clear_value *; lia)) (by simp) fr7.t fr7.o
  have osl : os.length ≤ 5 := by have := P.ol; (clear_value *; lia)
  refine kont ?_
  refine mkE8 k8 lo Γ4 _ ex4 cnt4 es4 (os ++ [f]) ⟨?_, ⟨I8, (get_set_ne (by (clear_value *; lia))).trans t17, (get_set_ne (by (clear_value *; lia))).trans t27, by rw [get_set os7]; simp [rf], by simp [P.ol], ?_, fun o ho => ?_, (get_set_ne (by (clear_value *; lia))).trans (tr7 P.lst p8), fun x hx => let ⟨t, e⟩ := P.pin x hx; ⟨t, gx4.old x t e⟩, by (clear_value *; lia), en4, fr7, (P.up.trans U7).set (.inr (by have := P.hp; (clear_value *; lia))), p8, trp, h8, P.hp⟩, fun j h1 h2 h3 => ?_, by simp [k8]; (clear_value *; lia), fun z z1 z2 => (upd_ap ..).trans ((if_neg z2).trans ((upd_ap ..).trans (if_neg z1)))⟩
  · unfold L23_0
    rw [seq_next s1, seq_next s2, seq_next e4]
    rw [seq_next (σ' := ⟨k6, lo⟩) (by
      have qe : cmpE .Lt (callf ((run theQ (n + 22)).fn) 18 [var (S! "hand"), lit (.int 4)]) (lit (.int 3)) ⟨k4, lo⟩ = some (.bool (decide (d5 < 3)), ⟨k5, lo⟩) := by
        simp only [cmpE_ap, callf_ap, evl_cons, evl_nil, var_ap, loh, lit_ap, Option.map_some, Option.bind_some, c5 lo, c_lt]
        rfl
      rw [seta_ap, qe]
      simp only [Option.bind_some, asgA_ap, var_ap, loo, Option.map_some, HO5.wr]
      rfl)]
    rw [seq_next (σ' := ⟨k7, lo⟩) (by
      rw [seta_ap, lit_ap]
      simp only [Option.bind_some, asgA_ap, var_ap, loo, Option.map_some, HO6.wr]
      rfl)]
    rw [seq_next (σ' := ⟨k8, lo⟩) (by
      have hat : att (var (S! "tree")) (S! "objs") ⟨k7, lo⟩ = some (.ref (tr + 2), ⟨k7, lo⟩) := by
        simp only [att_ap, var_ap, lotr, Option.map_some, Option.bind_some, attr_of t17 t27 (show hasAttr 4 (S! "objs") = true from by kernel_rfl) (show getF (S! "objs") (trF tr (S! "M")) = some (.ref (tr + 2)) from by kernel_rfl) rfl]
      rw [sE_ap, lmeth (k := tr + 2) (σ' := ⟨k7, lo⟩) (xs := rf os) hat os7]
      simp only [evl_cons, evl_nil, var_ap, loo, Option.map_some, Option.bind_some, append_ap (l := lo) os7 (show (rf os).length ≤ szMax from by rw [rf_len, szm]; (clear_value *; lia))]
      rfl)]
    rfl
  · rw [List.nodup_append]
    refine ⟨P.nd, by simp, fun a ha b hb => ?_⟩
    rw [List.mem_singleton.mp hb]
    have := (P.obs a ha).1
    (clear_value *; lia)
  · refine cps fun C kont => ?_
    rcases List.mem_append.mp ho with q | q
    · obtain ⟨z1, oi', z2, z3⟩ := P.obs o q
      refine kont ?_
      exact ⟨by simp [k8]; (clear_value *; lia), oi', dx7.old _ _ z2, z3⟩
    · refine kont ?_
      rw [List.mem_singleton.mp q]
      exact ⟨by simp [k8]; (clear_value *; lia), oi6, updT_self _ _ _, kdr⟩
  · rw [get_set_ne (Ne.symm h2)]; exact U7.2 j h1 (by simp; (clear_value *; lia))
end
end Mine.L
end
section
namespace Mine.L
section
variable {Γ : Nat → Option TI} {Δ : Nat → Option OI} {ex : Nat → Int} {cnt : Nat} {es : KE} {h : List AO}
theorem ML.step {tr p c i : Nat} {ps os : List Nat} {k k' : List AO} (P : ML h tr p c i ps k Γ Δ ex cnt es os) (I : Inv 0 Γ Δ ex cnt (Bn 5) es k') (u : Up [4, 5, 7] h k') (f : ∀ j, 42 ≤ j → (∃ o, k[j]? = some o ∧ itLike o = false) → k'[j]? = k[j]?) (hl : k.length ≤ k'.length) : ML h tr p c i ps k' Γ Δ ex cnt es os := by
  have p8 := P.p8; have trp := P.trp
  exact ⟨I, (f _ (by lia) ⟨_, P.t1, rfl⟩).trans P.t1, (f _ (by lia) ⟨_, P.t2, rfl⟩).trans P.t2, (f _ (by lia) ⟨_, P.os', rfl⟩).trans P.os', P.ol, P.nd, fun o ho => ⟨by have := (P.obs o ho).1; lia, (P.obs o ho).2⟩, (f _ (by lia) ⟨_, P.lst, rfl⟩).trans P.lst, P.pin, P.cl, P.en, P.fr, u, P.p8, P.trp, P.h8, P.hp⟩
theorem module_ok (I : Inv 0 Γ Δ ex cnt 4 es h) (hc : cnt + 30 ≤ 60) {m : Nat} (hm : 27 ≤ m) :
    ∃ h' tr p Γ' Δ' ex' cnt' es' os ps i, Call m 23 [.ref 4, .ref 6] h (.ref tr) h' ∧ ML h tr p (cnt + 20) i ps h' Γ' Δ' ex' cnt' es' os ∧ i ≤ 5 := by
  refine cps fun C kont => ?_
  obtain ⟨n, rfl⟩ := ge_ex (show 27 ≤ m by assumption)
  have big := I.big
  let l0 := env [(S! "hand", .ref 4), (S! "types", .ref 6)]
  refine ex7_10 (pool_ok I (by (clear_value *; lia)) (show 24 ≤ n + 24 from Nat.le_add_left 24 n)) fun h1 Γ1 Δ1 ex1 cnt1 es1 ps c1 U1 I1 pk1 pne pl pin cc1 en1 fr1 => ?_
  let l1 := upd l0 (S! "pool") (.ref h.length)
  have hU1 := U1.1
  have s1 : setl (S! "pool") (callf ((run theQ (n + 24)).fn) 21 [var (S! "hand"), var (S! "types")]) ⟨h, l0⟩ = some (.next, ⟨h1, l1⟩) := by
    have q1 : var (S! "hand") ⟨h, l0⟩ = some (.ref 4, ⟨h, l0⟩) := by kernel_rfl!
    have q2 : var (S! "types") ⟨h, l0⟩ = some (.ref 6, ⟨h, l0⟩) := by kernel_rfl!
    simp only [setl_ap, callf_ap, evl_cons, evl_nil, q1, q2, Option.bind_some, c1 l0]
    rfl
  let tr := h1.length + 1
  let h2 := h1 ++ [AO.flds (trF (h1.length + 1) (S! "M")), .inst 4 h1.length, .list [], .list [], .list [], .list []]
  have h2l : h2.length = h1.length + 6 := by simp [h2]
  have plt := lt_of pk1
  let l2 := upd l1 (S! "tree") (.ref tr)
  have s2 : setl (S! "tree") (newc ((run theQ (n + 24)).fn) 4 11 [lit (.str (S! "M"))]) ⟨h1, l1⟩ = some (.next, ⟨h2, l2⟩) := by
    rw [setl_ap, newc_ap (vs := [.str (S! "M")]) (σ' := ⟨h1, l1⟩) (by simp only [evl_cons, evl_nil, lit_ap, Option.bind_some]) (by intro q; have q2 : h1 = [] := q; have := congrArg List.length q2; rw [List.length_nil] at this; (clear_value *; lia))]
    have i11 := init11 (h := h1) (name := S! "M") (show 3 ≤ n + 24 from Nat.le_add_left 3 (n + 21)) l1
    simp only [i11, Option.bind_some]
    rfl
  have l2h : l2 (S! "hand") = some (.ref 4) := by kernel_rfl!
  have l2t : l2 (S! "types") = some (.ref 6) := by kernel_rfl!
  have l2p : l2 (S! "pool") = some (.ref h.length) := by kernel_rfl!
  have l2r : l2 (S! "tree") = some (.ref tr) := by kernel_rfl!
  have I2 : Inv 0 Γ1 Δ1 ex1 cnt1 (Bn 5) es1 h2 := I1.app _
  have hpl : h.length < tr - 1 := by show h.length < h1.length + 1 - 1; (clear_value *; lia)
  have P2 : ML h tr h.length (cnt + 20) 0 ps h2 Γ1 Δ1 ex1 cnt1 es1 [] := ⟨I2, get_app 1, get_app0, get_app 3, rfl, .nil, (fun o ho => by cases ho), (get_lt plt).trans pk1, pin, by (clear_value *; lia), en1, ⟨fun a t e => .inr (by have := I1.W.ltT a t e; show a + 2 < h1.length + 1 + 2; (clear_value *; lia)), fun a o e => .inr (by have := I1.W.ltO a o e; show a < h1.length + 1 + 2; (clear_value *; lia))⟩, U1.appR _, big, hpl, big, Nat.le_refl _⟩
  refine ex2_4 (pick_ok I2.hd (lim := 5) (by (clear_value *; lia)) (by (clear_value *; lia)) (show 8 ≤ n + 22 from Nat.le_add_left 8 (n + 14))) fun d o3 c3 d0 d1 hd3 => ?_
  obtain ⟨dN, rfl⟩ : ∃ dN : Nat, d = dN := ⟨d.toNat, by (clear_value *; lia)⟩
  let h3 := h2.set 4 o3
  have I3 : Inv 0 Γ1 Δ1 ex1 cnt1 (Bn 5) es1 h3 := I2.set4 hd3
  let N := dN + 1
  let h4 := h3 ++ [AO.rng N]
  have h4l : h4.length = h2.length + 1 := by simp [h4, h3]
  have er : bcall (.typ "range") [bino .Add (lit (.int 1)) (callf ((run theQ (n + 22)).fn) 18 [var (S! "hand"), lit (.int 5)])] ⟨h2, l2⟩ = some (.ref h3.length, ⟨h4, l2⟩) := by
    simp only [bcall_ap, evl_cons, evl_nil, bino_ap, lit_ap, Option.bind_some, callf_ap, var_ap, l2h, Option.map_some, c3 l2, add_int]
    rw [show (1 : Int) + (dN : Int) = ((N : Nat) : Int) from by show (1 : Int) + dN = ((dN + 1 : Nat) : Int); (clear_value *; lia), range_ap (by (clear_value *; lia)) (by show ((dN + 1 : Nat) : Int) ≤ 1000; (clear_value *; lia))]
  have h2p : h2.length ≤ h2.length := Nat.le_refl _
  have P4 : ML h tr h.length (cnt + 20) 0 ps h4 Γ1 Δ1 ex1 cnt1 es1 [] := P2.step (I3.app _) ((P2.up.set (.inl (by simp))).appR _) (fun j hj ⟨o, e, _⟩ => (get_lt (by have := lt_of e; simp [h3]; exact this)).trans (get_set_ne (by (clear_value *; lia)))) (by (clear_value *; lia))
  let J : Nat → List AO → (Str → Option AV) → Prop := fun i k lk => (∃ Γ' Δ' ex' cnt' es' os, ML h tr h.length (cnt + 20) i ps k Γ' Δ' ex' cnt' es' os) ∧ (∀ y, y ≠ S! "at" → y ≠ S! "kind" → y ≠ S! "obj" → lk y = l2 y) ∧ h4.length ≤ k.length
  have look : ∀ {lk : Str → Option AV} {i : Nat}, (∀ y, y ≠ S! "at" → y ≠ S! "kind" → y ≠ S! "obj" → lk y = l2 y) → ∀ s : String, s ≠ "at" → s ≠ "kind" → s ≠ "obj" → upd lk (S! "at") (.int i) (S! s) = l2 (S! s) := fun {lk i} q s h1 h2 h3 => by
    rw [upd_ap, if_neg (dn h1)]; exact q _ (dn h1) (dn h2) (dn h3)
  obtain ⟨k, lk, e6, ⟨Γ6, Δ6, ex6, cnt6, es6, os, P6⟩, L6, _⟩ := forN_range (x := S! "at") (N := N) (body := seq (L23_0 n)) (j := h4.length) J
    (fun i k lk o ⟨⟨Γ', Δ', ex', cnt', es', os, q1⟩, q2, q3⟩ ⟨y, z, hz⟩ => ⟨⟨Γ', Δ', ex', cnt', es', os, q1.step (q1.I.setK hz rfl (by (clear_value *; lia))) (q1.up.set (.inr (by (clear_value *; lia)))) (fun j hj ⟨o', e, hi⟩ => get_set_ne (by
      rintro rfl
      rw [hz] at e; cases e; cases hi)) (by simp)⟩, q2, by simpa using q3⟩)
    (fun i k lk hi ⟨⟨Γ', Δ', ex', cnt', es', os, q1⟩, q2, q3⟩ ⟨y, z, hz⟩ => by
      have hi5 : i < 5 := by have : N ≤ 5 := by (show dN + 1 ≤ 5; (clear_value *; lia))
                             (clear_value *; lia)
      obtain ⟨k', l', Γ2, Δ2, ex2, cnt2, es2, os2, r1, r2, r3, r4, r5⟩ := mod_turn q1 pne (by (clear_value *; lia)) hi5 (by (clear_value *; lia)) n (l := upd lk (S! "at") (.int i))
        ((look q2 _ (by decide) (by decide) (by decide)).trans l2h) ((look q2 _ (by decide) (by decide) (by decide)).trans l2t) ((look q2 _ (by decide) (by decide) (by decide)).trans l2p) ((look q2 _ (by decide) (by decide) (by decide)).trans l2r) (by kernel_rfl!)
      have hjl := lt_of hz
      exact ⟨.next, k', l', r1, .inl rfl, r3 _ hjl (by show h4.length ≠ h1.length + 1 + 2; (clear_value *; lia)) (by (clear_value *; lia)), ⟨Γ2, Δ2, ex2, cnt2, es2, os2, r2⟩, fun y y1 y2 y3 => by rw [r5 y y2 y3, upd_ap, if_neg y1]; exact q2 y y1 y2 y3, by (clear_value *; lia)⟩)
    N 0 (h4 ++ [.riter (0 : Nat) N]) l2 loops (by (clear_value *; lia)) (by unfold loops; show dN + 1 < 1000000; (clear_value *; lia)) get_app0
    ⟨⟨_, _, _, _, _, _, P4.step (P4.I.app _) (P4.up.appR _) (fun j hj ⟨o, e, _⟩ => get_lt (lt_of e)) (by simp)⟩, fun _ _ _ _ => rfl, by simp⟩
  have lkr : lk (S! "tree") = some (.ref tr) := by rw [L6 _ (dn (by decide)) (dn (by decide)) (dn (by decide))]; exact l2r
  refine kont ?_
  refine mkE11 k tr h.length Γ6 Δ6 ex6 cnt6 es6 os ps N ⟨fun l => ?_, P6, by show dN + 1 ≤ 5; (clear_value *; lia)⟩
  rw [fn23]
  apply frun_ret' (l' := lk)
  unfold B23
  show seq _ ⟨h, l0⟩ = _
  rw [seq_next s1, seq_next s2]
  rw [seq_next (σ' := ⟨k, lk⟩) (forl_range (b := h3.length) (k := N) (h := h4) (l := l2) er get_app0 (by show dN + 1 ≤ 1000; (clear_value *; lia)) e6)]
  apply seq_ret
  simp only [var_ap, Option.map_some, sRet_ap, lkr]
theorem built_of {tr p c i : Nat} {ps os : List Nat} {k : List AO} (P : ML h tr p c i ps k Γ Δ ex cnt es os) (hi : i ≤ 5) (hcl : c + i ≤ 1000) : Built k.length cnt Γ Δ ex nm00 k tr (tr + 2) os es (tsF cnt) (trF tr (S! "M")) := by
  have big := P.I.big
  have trl := lt_of P.os'
  have trp := P.trp
  refine ⟨P.I.W, P.I.gr, Nat.le_refl _, by lia, P.I.c0, P.I.c1, P.I.t5, P.I.t6, by kernel_rfl, ?_, fun e he => ⟨(P.I.ks e he).1, lt_of (P.I.ks e he).1, (P.I.ks e he).2⟩, by have := P.I.kl; have := P.cl; lia, by lia, P.t1, P.t2, by lia, by kernel_rfl, by kernel_rfl, trl, P.os', P.nd, by have := P.ol; lia, fun o ho => let ⟨_, oi, z1, z2⟩ := P.obs o ho; ⟨oi, z1, z2, rfl⟩, P.I.zero⟩
  have e := P.I.kn
  cases hes : es with
  | nil => exact absurd hes P.en
  | cons x xs => rw [hes] at e; exact e
end
end Mine.L
end
section
namespace Mine.L
noncomputable def tB (num : Int) (form : String) (size : Int) : TI := ⟨num, Str.ofString form, none, [], [], S! "", size⟩
noncomputable def H0 (x : AO) (c hd : List AV) : List AO := [.cell none, x, .junk, .list c, .list hd, .flds (tsF 7), .inst 3 5, .idict []] ++ (blk 9 (tB 1 "boolean" 1) ⟨0, 0, S! ""⟩ ++ (blk 14 (tB 2 "char" 1) ⟨0, 0, S! ""⟩ ++ (blk 19 (tB 3 "byte" 1) ⟨0, 0, S! ""⟩ ++ (blk 24 (tB 4 "integer" 4) ⟨0, 0, S! ""⟩ ++ (blk 29 (tB 5 "set" 4) ⟨0, 0, S! ""⟩ ++ (blk 34 (tB 6 "nil" 4) ⟨0, 0, S! ""⟩ ++ blk 39 (tB 7 "none" 0) ⟨0, 0, S! ""⟩))))))
theorem types_init (n : Nat) (c hd : List AV) (l : Str → Option AV) : newc ((run theQ (n + 27)).fn) 3 8 [] ⟨[.cell none, .cell none, .junk, .list c, .list hd], l⟩ = some (.ref 6, ⟨H0 (.cell none) c hd, l⟩) := by kernel_rfl
noncomputable def Γ0 (a : Nat) : Option TI := if a = 9 then some (tB 1 "boolean" 1) else if a = 14 then some (tB 2 "char" 1) else if a = 19 then some (tB 3 "byte" 1) else if a = 24 then some (tB 4 "integer" 4) else
  if a = 29 then some (tB 5 "set" 4) else if a = 34 then some (tB 6 "nil" 4) else if a = 39 then some (tB 7 "none" 0) else none
noncomputable def Δ0 : Nat → Option OI := fun _ => none
theorem Γ0_all {P : Nat → TI → Prop} (h1 : P 9 (tB 1 "boolean" 1)) (h2 : P 14 (tB 2 "char" 1)) (h3 : P 19 (tB 3 "byte" 1)) (h4 : P 24 (tB 4 "integer" 4)) (h5 : P 29 (tB 5 "set" 4)) (h6 : P 34 (tB 6 "nil" 4)) (h7 : P 39 (tB 7 "none" 0)) (a : Nat) (t : TI) (e : Γ0 a = some t) : P a t := by
  unfold Γ0 at e
  iterate 7 (split at e; · subst a; cases e; assumption)
  cases e
theorem inv0 {cells : List Int} (hl : cells.length ≤ 63) (s : Int) : Inv 0 Γ0 Δ0 (fun _ => 0) 7 4 [] (H0 (.cell (some (.ref 6))) (ofInts cells) (hnd (0 : Nat) 0 s)) := by
  have len : (H0 (.cell (some (.ref 6))) (ofInts cells) (hnd (0 : Nat) 0 s)).length = 43 := rfl
  refine ⟨⟨fun a t e => ⟨⟨0, 0, S! ""⟩, ?_⟩, (fun a o e => by cases e), fun a t e => ?_, (fun a o e => by cases e)⟩, ⟨fun a t e => ?_, fun a t e => ?_, fun a t e => ?_, fun a t e => ?_, fun a t b e hb => ?_, fun a t e _ hf => ?_, (fun f o e => by cases e), fun a b t u e1 e2 hn => ?_, fun a t e => ?_, by lia⟩, fun a t e => ?_, fun a t e => ?_, (fun a o e => by cases e), ⟨cells, 0, 0, s, rfl, hl, rfl, by lia, by lia⟩, rfl, rfl, rfl, rfl, rfl, (fun e he => by cases he), by simp, fun b hb => ?_, fun _ _ _ _ => rfl, by lia⟩
  · revert a t e; refine Γ0_all ?_ ?_ ?_ ?_ ?_ ?_ ?_ <;> exact ⟨by lia, rfl, rfl, rfl, rfl⟩
  · rw [len]
    revert a t e; refine Γ0_all ?_ ?_ ?_ ?_ ?_ ?_ ?_ <;> lia
  · revert a t e; refine Γ0_all ?_ ?_ ?_ ?_ ?_ ?_ ?_ <;> (intro f hf; cases hf)
  · revert a t e; refine Γ0_all ?_ ?_ ?_ ?_ ?_ ?_ ?_ <;> (intro f hf; cases hf)
  · revert a t e; refine Γ0_all ?_ ?_ ?_ ?_ ?_ ?_ ?_ <;> exact Nat.zero_le _
  · revert a t e; refine Γ0_all ?_ ?_ ?_ ?_ ?_ ?_ ?_ <;> exact Nat.zero_le _
  · revert hb; revert a t e; refine Γ0_all ?_ ?_ ?_ ?_ ?_ ?_ ?_ <;> (intro hb; cases hb)
  · revert hf; revert a t e; refine Γ0_all ?_ ?_ ?_ ?_ ?_ ?_ ?_ <;> (intro _ hf; exfalso; simp only [tB, S!, ofS_inj, String.reduceEq, or_self] at hf)
  · have num : ∀ (a : Nat) (t : TI), Γ0 a = some t → (a : Int) = 5 * t.num + 4 := by refine Γ0_all ?_ ?_ ?_ ?_ ?_ ?_ ?_ <;> rfl
    have n1 := num _ _ e1
    have n2 := num _ _ e2
    rw [hn] at n1
    exact Int.ofNat.inj (n1.trans n2.symm)
  · revert a t e; refine Γ0_all ?_ ?_ ?_ ?_ ?_ ?_ ?_ <;> (simp only [tB]; lia)
  · revert a t e; refine Γ0_all ?_ ?_ ?_ ?_ ?_ ?_ ?_ <;> (simp only [tB]; lia)
  · revert a t e; refine Γ0_all ?_ ?_ ?_ ?_ ?_ ?_ ?_ <;> lia
  · simp only [basics, List.mem_cons, List.not_mem_nil, or_false] at hb
    rcases hb with rfl | rfl | rfl | rfl | rfl | rfl | rfl <;> exact ⟨_, rfl⟩
theorem B26_eq (n : Nat) : B26 n = setl (S! "hand") (lst [var (S! "cells"), lit (.int 0), lit (.int 0), bino .Mult (bino .Mod (bcall (.bltn "sum") [var (S! "cells")]) (lit (.int 100003))) (lit (.int 7))]) :: setc 1 (newc ((run theQ (n + 27)).fn) 3 8 []) :: setl (S! "tree") (callf ((run theQ (n + 27)).fn) 23 [var (S! "hand"), celv 1]) :: tailB n := by kernel_rfl
theorem set_init (c hd : List AV) (l : Str → Option AV) : asgC 1 (.ref 6) ⟨H0 (.cell none) c hd, l⟩ = some ⟨H0 (.cell (some (.ref 6))) c hd, l⟩ := by kernel_rfl
noncomputable def stA (cells : List Int) : St := ⟨[.cell none, .cell none, .junk, .list (ofInts cells)], upd (fun _ => none) (Str.ofString "cells") (.ref 3)⟩
theorem law_runs (n : Nat) (cells : List Int) (hl : cells.length ≤ 63) : ∃ σ', exs (run theQ (n + 29)) lawK lawRest (stA cells) = some (.ret (.bool true), σ') := by
  refine cps fun C kont => ?_
  let lc : Str → Option AV := upd (fun _ => none) (Str.ofString "cells") (.ref 3)
  let s : Int := Int.fmod cells.sum 100003 * 7
  let lh := upd lc (S! "hand") (.ref 4)
  let h1 : List AO := [.cell none, .cell none, .junk, .list (ofInts cells), .list (hnd (0 : Nat) 0 s)]
  let h2 := H0 (.cell (some (.ref 6))) (ofInts cells) (hnd (0 : Nat) 0 s)
  have I := inv0 hl s
  refine ex11_3 (module_ok I (by lia) (show 27 ≤ n + 27 from Nat.le_add_left 27 n)) fun h3 tr p Γ Δ ex cnt es os ps i c3 P hi => ?_
  have B := built_of P hi (by lia)
  let lt := upd lh (S! "tree") (.ref tr)
  obtain ⟨σ', et⟩ := law_tail B n (l := lt) (by kernel_rfl!)
  refine kont ?_
  refine ⟨σ', ?_⟩
  rw [law_run n (stA cells), B26_eq]
  show seq _ ⟨[.cell none, .cell none, .junk, .list (ofInts cells)], lc⟩ = _
  have lcc : lc (S! "cells") = some (.ref 3) := by kernel_rfl!
  rw [seq_next (σ' := ⟨h1, lh⟩) (by
    have hs : callB (.bltn "sum") [.ref 3] ⟨[.cell none, .cell none, .junk, .list (ofInts cells)], lc⟩ = some (.int cells.sum, ⟨[.cell none, .cell none, .junk, .list (ofInts cells)], lc⟩) := by
      rw [b_sum]
      show (allInts (ofInts cells)).bind _ = _
      rw [allInts_of]
      exact if_pos (by simpa [ofInts] using hl)
    simp only [setl_ap, lst_ap, evl_cons, evl_nil, var_ap, lcc, lit_ap, Option.map_some, Option.bind_some, bino_ap, bcall_ap, hs, mul_int, mod_int, show (0 : Int) < 100003 from by decide, if_true, show (7 : Int).natAbs < 2 ^ 60 from by decide]
    rfl)]
  rw [seq_next (σ' := ⟨h2, lh⟩) (by
    rw [setc_ap, types_init, Option.bind_some, set_init]
    rfl)]
  rw [seq_next (σ' := ⟨h3, lt⟩) (by
    have q1 : var (S! "hand") ⟨h2, lh⟩ = some (.ref 4, ⟨h2, lh⟩) := by kernel_rfl!
    have q2 : celv 1 ⟨h2, lh⟩ = some (.ref 6, ⟨h2, lh⟩) := rfl
    have c3' : (run theQ (n + 27)).fn 23 [.ref 4, .ref 6] ⟨h2, lh⟩ = some (.ref tr, ⟨h3, lh⟩) := c3 lh
    rw [setl_ap, callf_ap, evl_cons, q1, Option.bind_some, evl_cons, q2, Option.bind_some, evl_nil, Option.bind_some, Option.bind_some, Option.bind_some, c3', Option.bind_some])]
  exact et
end Mine.L
end
section
open PySem PySem.W PyProof.Rows PySem.Calls
namespace Mine.S
theorem cps {P : Prop} (h : ∀ C : Prop, (P → C) → C) : P := h P id
theorem bnd {α β γ : Type} {x : Option (α × γ)} {f : α × γ → Option β} {b : β} {C : Prop} (h : x.bind f = some b) (k : ∀ a s, x = some (a, s) → f (a, s) = some b → C) : C := by
  cases e : x with
  | none => rw [e] at h; cases h
  | some p => rw [e] at h; exact k p.1 p.2 e h
theorem bnd1 {α β : Type} {x : Option α} {f : α → Option β} {b : β} {C : Prop} (h : x.bind f = some b) (k : ∀ a, x = some a → f a = some b → C) : C := by
  cases e : x with
  | none => rw [e] at h; cases h
  | some p => rw [e] at h; exact k p e h
theorem mpd {α β : Type} {x : Option α} {f : α → β} {b : β} {C : Prop} (h : x.map f = some b) (k : ∀ a, x = some a → f a = b → C) : C := by
  cases e : x with
  | none => rw [e] at h; cases h
  | some p => rw [e] at h; exact k p e (Option.some.inj h)
theorem ifd {β : Type} {p : Prop} [Decidable p] {x : Option β} {b : β} {C : Prop} (h : (if p then x else none) = some b) (k : p → x = some b → C) : C := by
  by_cases q : p
  · rw [if_pos q] at h; exact k q h
  · rw [if_neg q] at h; cases h
theorem ifn {β : Type} {p : Prop} [Decidable p] {x : Option β} {b : β} {C : Prop} (h : (if p then none else x) = some b) (k : ¬ p → x = some b → C) : C := by
  by_cases q : p
  · rw [if_pos q] at h; cases h
  · rw [if_neg q] at h; exact k q h
theorem no_some {α : Type} {x : α} {C : Prop} (h : none = some x) : C := nomatch h
theorem pr {α β : Type} {a c : α} {b d : β} {C : Prop} (h : some (a, b) = some (c, d)) (k : a = c → b = d → C) : C := by cases h; exact k rfl rfl
theorem list_of {h : List AO} {a : Nat} {xs : List AV} (e : listAt h a = some xs) : h[a]? = some (.list xs) := by
  unfold listAt at e
  generalize h[a]? = o at e ⊢
  cases o with
  | none => exact no_some e
  | some o => cases o with
    | list x => cases e; rfl
    | _ => exact no_some e
theorem tup_of {h : List AO} {a : Nat} {xs : List AV} (e : tupAt h a = some xs) : h[a]? = some (.tup xs) := by
  unfold tupAt at e
  generalize h[a]? = o at e ⊢
  cases o with
  | none => exact no_some e
  | some o => cases o with
    | tup x => cases e; rfl
    | _ => exact no_some e
theorem flds_of {h : List AO} {a : Nat} {xs : List (Str × AV)} (e : fldsAt h a = some xs) : h[a]? = some (.flds xs) := by
  unfold fldsAt at e
  generalize h[a]? = o at e ⊢
  cases o with
  | none => exact no_some e
  | some o => cases o with
    | flds x => cases e; rfl
    | _ => exact no_some e
theorem cell_of {h : List AO} {a : Nat} {v : Option AV} (e : cellAt h a = some v) : h[a]? = some (.cell v) := by
  unfold cellAt at e
  generalize h[a]? = o at e ⊢
  cases o with
  | none => exact no_some e
  | some o => cases o with
    | cell x => cases e; rfl
    | _ => exact no_some e
theorem held_of {h : List AO} {a : Nat} {es : List ((Str × Str) × Nat × AV)} (e : heldAt h a = some es) : h[a]? = some (.tdict es true) := by
  unfold heldAt at e
  generalize h[a]? = o at e ⊢
  cases o with
  | none => exact no_some e
  | some o => cases o with
    | tdict x b => exact ifd e fun hh e2 => by cases e2; rw [hh]
    | _ => exact no_some e
theorem td_of {h : List AO} {a : Nat} {es : List ((Str × Str) × Nat × AV)} (e : tdAt h a = some es) : ∃ b, h[a]? = some (.tdict es b) := by
  unfold tdAt at e
  generalize h[a]? = o at e ⊢
  cases o with
  | none => exact no_some e
  | some o => cases o with
    | tdict x b => cases e; exact ⟨_, rfl⟩
    | _ => exact no_some e
theorem rev_of {h : List AO} {v : AV} {j b n : Nat} (e : revAt h v = some (j, b, n)) : v = .ref j ∧ h[j]? = some (.rev b n) := by
  cases v with
  | ref i =>
    have e : (match h[i]? with | some (AO.rev b n) => some (i, b, n) | _ => none) = some (j, b, n) := e
    generalize q : h[i]? = o at e
    cases o with
    | none => exact no_some e
    | some o => cases o with
      | rev x y => cases e; exact ⟨rfl, q⟩
      | _ => exact no_some e
  | _ => exact no_some e
theorem pair_of {h : List AO} {v : AV} {q : Nat × AV × AV} (e : pairAt h v = some q) : v = .ref q.1 ∧ h[q.1]? = some (.tup [q.2.1, q.2.2]) := by
  cases v with
  | ref i =>
    refine bnd1 (show (tupAt h i).bind _ = _ from e) fun xs e1 e2 => ?_
    cases xs with
    | nil => exact no_some e2
    | cons x xs => cases xs with
      | nil => exact no_some e2
      | cons y xs => cases xs with
        | nil => cases e2; exact ⟨rfl, tup_of e1⟩
        | cons _ _ => exact no_some e2
  | _ => exact no_some e
theorem one_of {α : Type} {l : List α} {x : α} (e : one l = some x) : l = [x] := by
  cases l with
  | nil => exact no_some e
  | cons y l => cases l with
    | nil => cases e; rfl
    | cons _ _ => exact no_some e
theorem key_of {h : List AO} {a : Nat} {k : Str × Str} (e : keyT h a = some k) : h[a]? = some (.tup [.str k.1, .str k.2]) := by
  refine bnd1 (show (tupAt h a).bind _ = _ from e) fun xs e1 e2 => ?_
  cases xs with
  | nil => exact no_some e2
  | cons x xs => cases xs with
    | nil => exact no_some e2
    | cons y xs => cases xs with
      | nil => cases x with
        | str x => cases y with
          | str y => cases e2; exact tup_of e1
          | _ => exact no_some e2
        | _ => exact no_some e2
      | cons _ _ => exact no_some e2
noncomputable def LD (h : Heap) (a : Addr) (vs : Array Value) : Prop := ∃ o, h.get? a = some o ∧ o.cls = .type "list" ∧ o.dict = none ∧ ∃ n, o.data = .seq vs n
theorem LD.isList {h : Heap} {a : Addr} {vs : Array Value} : LD h a vs → h.IsList a vs := fun ⟨o, h1, h2, _, h3⟩ => ⟨o, h1, h2, h3⟩
theorem dict_mapSeq (o : Obj) (f : Array Value → Array Value) : (o.mapSeq f).dict = o.dict := by
  obtain ⟨c, d, t, sl⟩ := o
  cases t <;> rfl
theorem LD.upd {h : Heap} {a : Addr} {vs : Array Value} (x : LD h a vs) (f : Array Value → Array Value) : LD (h.update a (Obj.mapSeq f)) a (f vs) := by
  obtain ⟨o, ho, hc, hd, n, hs⟩ := x
  obtain ⟨n', hs'⟩ := Obj.data_mapSeq hs f
  exact ⟨_, Heap.get?_update_self _ ho (Obj.isFreed_of_seq hs'), (Obj.cls_mapSeq ..).trans hc, (dict_mapSeq ..).trans hd, n', hs'⟩
inductive L2 {α β : Type} (R : α → β → Prop) : List α → List β → Prop
  | nil : L2 R [] []
  | cons {a : α} {b : β} {l : List α} {m : List β} : R a b → L2 R l m → L2 R (a :: l) (b :: m)
section
variable {α β : Type} {R S : α → β → Prop}
theorem L2.length {l : List α} {m : List β} (x : L2 R l m) : l.length = m.length := by
  induction x with
  | nil => rfl
  | cons _ _ ih => exact congrArg Nat.succ ih
theorem L2.mono (k : ∀ a b, R a b → S a b) {l m} (x : L2 R l m) : L2 S l m := by
  induction x with
  | nil => exact .nil
  | cons h _ ih => exact .cons (k _ _ h) ih
theorem L2.append {l m l' m'} (x : L2 R l m) (y : L2 R l' m') : L2 R (l ++ l') (m ++ m') := by
  induction x with
  | nil => exact y
  | cons h _ ih => exact .cons h ih
theorem L2.get {l m} (x : L2 R l m) : ∀ {i : Nat} {a}, l[i]? = some a → ∃ b, m[i]? = some b ∧ R a b := by
  induction x with
  | nil => intro i a h; cases i <;> exact no_some h
  | cons h _ ih =>
    intro i a e
    cases i with
    | zero => cases e; exact ⟨_, rfl, h⟩
    | succ i => exact ih e
theorem L2.getR {l m} (x : L2 R l m) : ∀ {i : Nat} {b}, m[i]? = some b → ∃ a, l[i]? = some a ∧ R a b := by
  induction x with
  | nil => intro i a h; cases i <;> exact no_some h
  | cons h _ ih =>
    intro i a e
    cases i with
    | zero => cases e; exact ⟨_, rfl, h⟩
    | succ i => exact ih e
theorem L2.reverse {l m} (x : L2 R l m) : L2 R l.reverse m.reverse := by
  induction x with
  | nil => exact .nil
  | cons h _ ih => simp only [List.reverse_cons]; exact ih.append (.cons h .nil)
theorem L2.take {l m} (x : L2 R l m) : ∀ n, L2 R (l.take n) (m.take n) := by
  induction x with
  | nil => intro n; cases n <;> exact .nil
  | cons h _ ih =>
    intro n
    cases n with
    | zero => exact .nil
    | succ n => exact .cons h (ih n)
theorem L2.drop {l m} (x : L2 R l m) : ∀ n, L2 R (l.drop n) (m.drop n) := by
  induction x with
  | nil => intro n; cases n <;> exact .nil
  | cons h t ih =>
    intro n
    cases n with
    | zero => exact .cons h t
    | succ n => exact ih n
theorem L2.set {l m} (x : L2 R l m) : ∀ i {a b}, R a b → L2 R (l.set i a) (m.set i b) := by
  induction x with
  | nil => intro i a b _; exact .nil
  | cons h t ih =>
    intro i a b y
    cases i with
    | zero => exact .cons y t
    | succ i => exact .cons h (ih i y)
end
noncomputable abbrev Led := List (Addr × Obj)
noncomputable def adr (led : Led) (i : Nat) : Option Addr := (led[i]?).map (·.1)
structure Gl where
  prog : Program
  w : World
  K : Frag
  p : Program
  loose : List Str
  mean : ExcName → Option Value
  mg : Str → Option Value
  mb : Str → Option Value
  fa : Nat → Addr
  ca : Nat → Addr
noncomputable def VR (G : Gl) (led : Led) : AV → Value → Prop
  | .none, v => v = .none
  | .bool b, v => v = .bool b
  | .int i, v => ∃ t, v = .int i t
  | .str s, v => ∃ t, v = .str s t
  | .ref a, v => ∃ x, adr led a = some x ∧ v = .ref x
  | .typ n, v => v = .type n
  | .bltn id, v => v = .builtin id
  | .fn k, v => v = .ref (G.fa k)
  | .cls k, v => v = .ref (G.ca k)
noncomputable def frozen : AO → Bool
  | .tup _ => true
  | .tdict _ true => true
  | _ => false
noncomputable def IDO (w : World) (prog : Program) (kvs : List (Int × Value)) (o : Obj) : Prop :=
  o.ExactDict ∧ ∃ es ep, o.data = .dict es ep ∧ KeysOf (intKind prog w) es ∧ Pairs (intKind prog w) es.toList kvs ∧ (kvs.map (·.1)).Nodup
noncomputable def TDO (w : World) (prog : Program) (xs : List (List Str × Addr × Value)) (o : Obj) (ep : Nat) : Prop :=
  o.ExactDict ∧ ∃ es, o.data = .dict es ep ∧ es.toList = xs.map (entryOfKey (tupleKind (strKind prog w))) ∧ (xs.map (·.1)).Nodup
noncomputable def TR (G : Gl) (hp : List AO) (led : Led) (p : (Str × Str) × Nat × AV) (x : List Str × Addr × Value) : Prop :=
  x.1 = [p.1.1, p.1.2] ∧ keyT hp p.2.1 = some p.1 ∧ adr led p.2.1 = some x.2.1 ∧ VR G led p.2.2 x.2.2
noncomputable def OR (G : Gl) (hp : List AO) (led : Led) : AO → Obj → Prop
  | .list xs, o => o.cls = .type "list" ∧ o.dict = none ∧ ∃ vs n, o.data = .seq vs n ∧ L2 (VR G led) xs vs.toList
  | .tup xs, o => o.cls = .type "tuple" ∧ ∃ vs n, o.data = .seq vs n ∧ L2 (VR G led) xs vs.toList
  | .inst c d, o => ∃ dx, adr led d = some dx ∧ o = instObj (G.ca c) dx
  | .flds fs, o => ∃ es n, o = dictOf es n ∧ L2 (fun p e => (∃ t, e.key = .str p.1 t) ∧ VR G led p.2 e.val) fs es
  | .idict es, o => ∃ kvs, IDO G.w G.prog kvs o ∧ L2 (fun p q => p.1 = q.1 ∧ VR G led p.2 q.2) es kvs
  | .tdict es _, o => ∃ xs ep, TDO G.w G.prog xs o ep ∧ L2 (TR G hp led) es xs
  | .cell v, o => ∃ ov, o.data = .cell ov ∧ ∀ a, v = some a → ∃ x, ov = some x ∧ VR G led a x
  | .liter a i, o => ∃ x, adr led a = some x ∧ o.cls = .type "list_iterator" ∧ o.data = .fields #[.ref x, .int i 0]
  | .rng n, o => ∃ t u v, o = { cls := .type "range", dict := none, data := .fields #[.int 0 t, .int n u, .int 1 v], slots := #[] }
  | .riter x l, o => o = { cls := .type "range_iterator", dict := none, data := .fields #[rawInt x, rawInt l, rawInt 1], slots := #[] }
  | .diter d i n, o => ∃ x xs ep ob es, led[d]? = some (x, ob) ∧ hp[d]? = some (.tdict es true) ∧ TDO G.w G.prog xs ob ep ∧ o.cls = .type "dict_keyiterator" ∧ o.data = .fields #[.ref x, .int i 0, .int n 0, .int ep 0]
  | .rev a n, o => ∃ x, adr led a = some x ∧ o.cls = .type "list_reverseiterator" ∧ o.data = .fields #[.ref x, rawInt ((n : Int) - 1)]
  | .junk, _ => True
structure Ext (hp : List AO) (led : Led) (hp' : List AO) (led' : Led) : Prop where
  ad : ∀ (i : Nat) (x : Addr), adr led i = some x → adr led' i = some x
  fro : ∀ (i : Nat) (o : AO), hp[i]? = some o → frozen o = true → hp'[i]? = some o ∧ led'[i]? = led[i]?
theorem Ext.refl (hp : List AO) (led : Led) : Ext hp led hp led := ⟨fun _ _ e => e, fun _ _ e _ => ⟨e, rfl⟩⟩
theorem Ext.trans {a c e : List AO} {b d f : Led} (x : Ext a b c d) (y : Ext c d e f) : Ext a b e f :=
  ⟨fun i p h => y.ad i p (x.ad i p h), fun i o h hf => by
    obtain ⟨h1, h2⟩ := x.fro i o h hf
    obtain ⟨h3, h4⟩ := y.fro i o h1 hf
    exact ⟨h3, h4.trans h2⟩⟩
theorem VR.ext {G : Gl} {hp hp' : List AO} {led led' : Led} (x : Ext hp led hp' led') : ∀ {a v}, VR G led a v → VR G led' a v
  | .none, _, h => h
  | .bool _, _, h => h
  | .int _, _, h => h
  | .str _, _, h => h
  | .ref a, _, ⟨y, h1, h2⟩ => ⟨y, x.ad a y h1, h2⟩
  | .typ _, _, h => h
  | .bltn _, _, h => h
  | .fn _, _, h => h
  | .cls _, _, h => h
theorem keyT_ext {hp hp' : List AO} {led led' : Led} (x : Ext hp led hp' led') {a : Nat} {k : Str × Str} (h : keyT hp a = some k) : keyT hp' a = some k := by
  refine bnd1 (show (tupAt hp a).bind _ = _ from h) fun xs e1 e2 => ?_
  have e := (x.fro _ _ (tup_of e1) rfl).1
  show (tupAt hp' a).bind _ = _
  unfold tupAt; rw [e]; exact e2
theorem OR.ext {G : Gl} {hp hp' : List AO} {led led' : Led} (x : Ext hp led hp' led') {a : AO} {o : Obj} (h : OR G hp led a o) : OR G hp' led' a o := by
  cases a with
  | list _ => exact ⟨h.1, h.2.1, let ⟨vs, n, h2, h3⟩ := h.2.2; ⟨vs, n, h2, h3.mono fun _ _ => VR.ext x⟩⟩
  | tup _ => exact ⟨h.1, let ⟨vs, n, h2, h3⟩ := h.2; ⟨vs, n, h2, h3.mono fun _ _ => VR.ext x⟩⟩
  | inst _ _ => exact let ⟨dx, h1, h2⟩ := h; ⟨dx, x.ad _ _ h1, h2⟩
  | flds _ => exact let ⟨es, n, h1, h2⟩ := h; ⟨es, n, h1, h2.mono fun _ _ q => ⟨q.1, q.2.ext x⟩⟩
  | idict _ => exact let ⟨kvs, h1, h2⟩ := h; ⟨kvs, h1, h2.mono fun _ _ q => ⟨q.1, q.2.ext x⟩⟩
  | tdict _ _ => exact let ⟨xs, ep, h1, h2⟩ := h; ⟨xs, ep, h1, h2.mono fun _ _ q => ⟨q.1, keyT_ext x q.2.1, x.ad _ _ q.2.2.1, q.2.2.2.ext x⟩⟩
  | cell _ => exact let ⟨ov, h1, h2⟩ := h; ⟨ov, h1, fun a e => let ⟨y, q1, q2⟩ := h2 a e; ⟨y, q1, q2.ext x⟩⟩
  | liter _ _ => exact ⟨h.choose, x.ad _ _ h.choose_spec.1, h.choose_spec.2⟩
  | rng _ => exact h
  | riter _ _ => exact h
  | diter _ _ _ =>
    obtain ⟨y, xs, ep, ob, es, h1, h2, h3⟩ := h
    obtain ⟨q1, q2⟩ := x.fro _ _ h2 rfl
    exact ⟨y, xs, ep, ob, es, q2.trans h1, q1, h3⟩
  | rev _ _ => exact ⟨h.choose, x.ad _ _ h.choose_spec.1, h.choose_spec.2⟩
  | junk => exact h
structure CX where
  c : Cx
  A : Around
  h₀ : Heap
  L : Addr
  env : Env
structure Rep (G : Gl) (X : CX) (led : Led) (σ : St) (h : Heap) : Prop where
  fr : ∃ m, Fr X.h₀ X.L h m ∧ ∀ x v, σ.loc x = some v → ∃ rv, m x = some rv ∧ VR G led v rv
  news : News X.h₀ X.L h led
  nodup : (led.map (·.1)).Nodup
  len : σ.h.length = led.length
  objs : ∀ (i : Nat) (o : AO) (a : Addr) (ob : Obj), σ.h[i]? = some o → led[i]? = some (a, ob) → OR G σ.h led o ob
  low : ∀ p ∈ led, sysModules < p.1
  big : sysModules < X.h₀.objs.size
  cells : ∀ x i, X.c.kind x = some .cell → X.c.cells.lookup x = some i → ∃ a, X.env.cells.lookup x = some a ∧ adr led i = some a
section
variable {G : Gl} {X : CX} {led : Led} {σ : St} {h : Heap}
theorem Rep.at (R : Rep G X led σ h) {i : Nat} {o : AO} (e : σ.h[i]? = some o) : ∃ a ob, led[i]? = some (a, ob) ∧ adr led i = some a ∧ h.get? a = some ob ∧ OR G σ.h led o ob := by
  have hi : i < led.length := by rw [← R.len]; exact (List.getElem?_eq_some_iff.mp e).1
  have e2 : led[i]? = some led[i] := by simp [hi]
  refine ⟨led[i].1, led[i].2, e2, by unfold adr; rw [e2]; rfl, (R.news led[i] (List.getElem_mem hi)).1, R.objs i o _ _ e e2⟩
theorem adr_mem {i : Nat} {a : Addr} (e : adr led i = some a) : ∃ ob, led[i]? = some (a, ob) ∧ (a, ob) ∈ led := by
  unfold adr at e
  cases q : led[i]? with
  | none => rw [q] at e; cases e
  | some p => rw [q] at e; cases e; exact ⟨p.2, rfl, List.mem_of_getElem? q⟩
theorem adr_inj (nd : (led.map (·.1)).Nodup) {i j : Nat} {a : Addr} (e1 : adr led i = some a) (e2 : adr led j = some a) : i = j := by
  have h1 : (led.map (·.1))[i]? = some a := by rw [List.getElem?_map]; exact e1
  have h2 : (led.map (·.1))[j]? = some a := by rw [List.getElem?_map]; exact e2
  exact (List.getElem?_inj (List.getElem?_eq_some_iff.mp h1).1 nd).mp (h1.trans h2.symm)
theorem Rep.at' (R : Rep G X led σ h) {i : Nat} {o : AO} {p : Addr} {C : Prop} (e : σ.h[i]? = some o) (hp : adr led i = some p) (k : ∀ ob, led[i]? = some (p, ob) → h.get? p = some ob → OR G σ.h led o ob → C) : C := by
  obtain ⟨a, ob, h1, h2, h3, h4⟩ := R.at e
  cases h2.symm.trans hp
  exact k ob h1 h3 h4
theorem Rep.grow (R : Rep G X led σ h) {h' : Heap} (k : ∀ b o, h.get? b = some o → h'.get? b = some o) : Rep G X led σ h' := by
  obtain ⟨m, F, q⟩ := R.fr
  exact ⟨⟨m, F.keeps k, q⟩, R.news.grown k, R.nodup, R.len, R.objs, R.low, R.big, R.cells⟩
theorem Ext.app {hp : List AO} {led : Led} (l : hp.length = led.length) (ao : AO) (p : Addr × Obj) : Ext hp led (hp ++ [ao]) (led ++ [p]) := by
  refine ⟨fun i x e => ?_, fun i ob e _ => ?_⟩
  · obtain ⟨ob, e1, _⟩ := adr_mem e
    unfold adr
    rw [List.getElem?_append_left (List.getElem?_eq_some_iff.mp e1).1]
    exact e
  · have hi : i < hp.length := (List.getElem?_eq_some_iff.mp e).1
    exact ⟨by rw [List.getElem?_append_left hi]; exact e, List.getElem?_append_left (by rw [← l]; exact hi)⟩
theorem Rep.app (R : Rep G X led σ h) (ao : AO) (p : Addr × Obj) : Ext σ.h led (σ.h ++ [ao]) (led ++ [p]) := Ext.app R.len ao p
theorem Rep.alloc3 (R : Rep G X led σ h) {h' : Heap} {a : Addr} {o : Obj} {ao : AO} {m : Str → Option Value} (q : ∀ x v, σ.loc x = some v → ∃ rv, m x = some rv ∧ VR G led v rv)
    (F' : Fr X.h₀ X.L h' m) (N' : News X.h₀ X.L h' ((a, o) :: led)) (hf : ∀ p ∈ led, p.1 ≠ a) (hlow : sysModules < a) (ho : OR G (σ.h ++ [ao]) (led ++ [(a, o)]) ao o) :
    Ext σ.h led (σ.alloc ao).h (led ++ [(a, o)]) ∧ Rep G X (led ++ [(a, o)]) (σ.alloc ao) h' ∧ adr (led ++ [(a, o)]) σ.h.length = some a := by
  have E := R.app ao (a, o)
  refine ⟨E, ⟨⟨m, F', fun x v e => let ⟨rv, h1, h2⟩ := q x v e; ⟨rv, h1, h2.ext E⟩⟩, ?_, ?_, ?_, ?_, ?_, R.big, fun x i h1 h2 => let ⟨y, e1, e2⟩ := R.cells x i h1 h2; ⟨y, e1, E.ad _ _ e2⟩⟩, ?_⟩
  · intro p hp
    rcases List.mem_append.mp hp with hp | hp
    · exact N' p (.tail _ hp)
    · rw [List.mem_singleton.mp hp]; exact N' _ (.head _)
  · rw [List.map_append, List.nodup_append]
    refine ⟨R.nodup, by simp, fun x hx y hy => ?_⟩
    simp at hy
    subst hy
    obtain ⟨p, hp, rfl⟩ := List.mem_map.mp hx
    exact hf p hp
  · show (σ.h ++ [ao]).length = _
    simp [R.len]
  · intro i o' b ob e1 e2
    have e1' : (σ.h ++ [ao])[i]? = some o' := e1
    by_cases hi : i < σ.h.length
    · rw [List.getElem?_append_left hi] at e1'
      rw [List.getElem?_append_left (by rw [← R.len]; exact hi)] at e2
      exact (R.objs i o' b ob e1' e2).ext E
    · have hi' : i = σ.h.length := by
        have := (List.getElem?_eq_some_iff.mp e1').1
        simp at this; lia
      subst hi'
      rw [List.getElem?_append_right (Nat.le_refl _)] at e1'
      rw [R.len, List.getElem?_append_right (Nat.le_refl _)] at e2
      simp at e1' e2
      obtain ⟨rfl, rfl⟩ := e2
      subst e1'
      exact ho
  · intro p hp
    rcases List.mem_append.mp hp with hp | hp
    · exact R.low p hp
    · rw [List.mem_singleton.mp hp]; exact hlow
  · unfold adr
    rw [R.len, List.getElem?_append_right (Nat.le_refl _)]
    simp
theorem Rep.alloc2 (R : Rep G X led σ h) {h' : Heap} {a : Addr} {o : Obj} {ao : AO} {m : Str → Option Value} (q : ∀ x v, σ.loc x = some v → ∃ rv, m x = some rv ∧ VR G led v rv)
    (F' : Fr X.h₀ X.L h' m) (N' : News X.h₀ X.L h' ((a, o) :: led)) (hsz : h.objs.size ≤ a) (ho : OR G (σ.h ++ [ao]) (led ++ [(a, o)]) ao o) :
    Ext σ.h led (σ.alloc ao).h (led ++ [(a, o)]) ∧ Rep G X (led ++ [(a, o)]) (σ.alloc ao) h' ∧ adr (led ++ [(a, o)]) σ.h.length = some a := by
  refine R.alloc3 q F' N' (fun p hp => Nat.ne_of_lt (Nat.lt_of_lt_of_le (Heap.lt_size (R.news p hp).1) hsz)) ?_ ho
  obtain ⟨m₀, F₀, _⟩ := R.fr
  exact Nat.lt_of_lt_of_le R.big (Nat.le_trans F₀.above (Nat.le_trans (Nat.le_of_lt F₀.ns.lt) hsz))
theorem Rep.alloc (R : Rep G X led σ h) {h' : Heap} {a : Addr} {o : Obj} {ao : AO} (k : ∀ b o, h.get? b = some o → h'.get? b = some o) (hsz : h.objs.size ≤ a) (hn : h'.get? a = some o)
    (ho : OR G (σ.h ++ [ao]) (led ++ [(a, o)]) ao o) :
    Ext σ.h led (σ.alloc ao).h (led ++ [(a, o)]) ∧ Rep G X (led ++ [(a, o)]) (σ.alloc ao) h' ∧ adr (led ++ [(a, o)]) σ.h.length = some a := by
  obtain ⟨m, F, q⟩ := R.fr
  have hf : h.get? a = none := by
    cases z : h.get? a with
    | none => rfl
    | some o' => exact absurd (Heap.lt_size z) (Nat.not_lt.mpr hsz)
  refine R.alloc2 q (F.keeps k) (fun p hp => ?_) hsz ho
  rcases List.mem_cons.mp hp with rfl | hp
  · refine ⟨hn, ?_, ?_⟩
    · rintro rfl
      obtain ⟨_, _, _, hL, _⟩ := F.ns
      rw [hf] at hL; cases hL
    · cases z : X.h₀.get? a with
      | none => rfl
      | some o' => have z' := F.keep _ _ z; rw [hf] at z'; cases z'
  · exact R.news.grown k p hp
theorem Rep.new_ne (R : Rep G X led σ h) : ∀ p ∈ led, p.1 ≠ h.objs.size := fun p hp => Nat.ne_of_lt (Heap.lt_size (R.news p hp).1)
theorem Rep.put (R : Rep G X led σ h) {h' : Heap} {i : Nat} {a : Addr} {old : AO} {o : Obj} {ao : AO} (e : σ.h[i]? = some old) (ea : adr led i = some a) (hfz : frozen old = false)
    (k : Heap.ExtBut a h h') (hn : h'.get? a = some o) (ho : ∀ hp led', Ext σ.h led hp led' → hp = σ.h.set i ao → led' = led.set i (a, o) → OR G hp led' ao o) :
    Ext σ.h led (σ.put i ao).h (led.set i (a, o)) ∧ Rep G X (led.set i (a, o)) (σ.put i ao) h' := by
  obtain ⟨ob, e1, hm⟩ := adr_mem ea
  have hi : i < led.length := (List.getElem?_eq_some_iff.mp e1).1
  have hi' : i < σ.h.length := by rw [R.len]; exact hi
  have hadr : ∀ j, adr (led.set i (a, o)) j = adr led j := fun j => by
    unfold adr
    rw [List.getElem?_set]
    by_cases hj : i = j
    · subst hj; rw [if_pos rfl, if_pos hi, e1]; rfl
    · rw [if_neg hj]
  have E : Ext σ.h led (σ.h.set i ao) (led.set i (a, o)) := by
    refine ⟨fun j x q => (hadr j).trans q, fun j ob' q hf => ?_⟩
    have hj : i ≠ j := by
      rintro rfl
      rw [e] at q; cases q
      rw [hfz] at hf; cases hf
    exact ⟨by rw [List.getElem?_set, if_neg hj]; exact q, by rw [List.getElem?_set, if_neg hj]⟩
  obtain ⟨m, F, q⟩ := R.fr
  have P := R.news (a, ob) hm
  have F' : Fr X.h₀ X.L h' m := ⟨F.ns.extBut k (Ne.symm P.2.1), fun b ob' z => k b ob' (fun y => by rw [y, P.2.2] at z; cases z) (F.keep b ob' z), F.above⟩
  refine ⟨E, ⟨⟨m, F', fun x v z => let ⟨rv, h1, h2⟩ := q x v z; ⟨rv, h1, h2.ext E⟩⟩, ?_, ?_, ?_, ?_, ?_, R.big, fun x j h1 h2 => let ⟨y, z1, z2⟩ := R.cells x j h1 h2; ⟨y, z1, E.ad _ _ z2⟩⟩⟩
  · intro p hp
    obtain ⟨j, hj⟩ := List.mem_iff_getElem?.mp hp
    rw [List.getElem?_set] at hj
    by_cases hij : i = j
    · subst hij
      rw [if_pos rfl, if_pos hi] at hj
      cases hj
      exact ⟨hn, P.2⟩
    · rw [if_neg hij] at hj
      have hpm := List.mem_of_getElem? hj
      have hne : p.1 ≠ a := fun z => hij (adr_inj R.nodup ea (by unfold adr; rw [hj, ← z]; rfl))
      exact ⟨k _ _ hne (R.news p hpm).1, (R.news p hpm).2⟩
  · have : (led.set i (a, o)).map (·.1) = led.map (·.1) := by
      apply List.ext_getElem?
      intro j
      rw [List.getElem?_map, List.getElem?_map]
      exact hadr j
    rw [this]; exact R.nodup
  · show (σ.h.set i ao).length = _
    simp [R.len]
  · intro j o' b ob' z1 z2
    have z1' : (σ.h.set i ao)[j]? = some o' := z1
    rw [List.getElem?_set] at z1' z2
    by_cases hij : i = j
    · subst hij
      rw [if_pos rfl, if_pos hi'] at z1'
      rw [if_pos rfl, if_pos hi] at z2
      cases z1'; cases z2
      exact ho _ _ E rfl rfl
    · rw [if_neg hij] at z1' z2
      exact (R.objs j o' b ob' z1' z2).ext E
  · intro p hp
    obtain ⟨j, hj⟩ := List.mem_iff_getElem?.mp hp
    rw [List.getElem?_set] at hj
    by_cases hij : i = j
    · subst hij
      rw [if_pos rfl, if_pos hi] at hj
      cases hj
      exact R.low (a, ob) hm
    · rw [if_neg hij] at hj
      exact R.low p (List.mem_of_getElem? hj)
theorem Rep.put2 (R : Rep G X led σ h) {h' : Heap} {i : Nat} {a : Addr} {old : AO} {o : Obj} {ao : AO} {m : Str → Option Value} (q : ∀ x v, σ.loc x = some v → ∃ rv, m x = some rv ∧ VR G led v rv)
    (e : σ.h[i]? = some old) (ea : adr led i = some a) (hfz : frozen old = false)
    (F' : Fr X.h₀ X.L h' m) (N' : News X.h₀ X.L h' (led.set i (a, o))) (ho : ∀ hp led', Ext σ.h led hp led' → hp = σ.h.set i ao → led' = led.set i (a, o) → OR G hp led' ao o) :
    Ext σ.h led (σ.put i ao).h (led.set i (a, o)) ∧ Rep G X (led.set i (a, o)) (σ.put i ao) h' := by
  obtain ⟨ob, e1, hm⟩ := adr_mem ea
  have hi : i < led.length := (List.getElem?_eq_some_iff.mp e1).1
  have hi' : i < σ.h.length := by rw [R.len]; exact hi
  have hadr : ∀ j, adr (led.set i (a, o)) j = adr led j := fun j => by
    unfold adr
    rw [List.getElem?_set]
    by_cases hj : i = j
    · subst hj; rw [if_pos rfl, if_pos hi, e1]; rfl
    · rw [if_neg hj]
  have E : Ext σ.h led (σ.h.set i ao) (led.set i (a, o)) := by
    refine ⟨fun j x q => (hadr j).trans q, fun j ob' q hf => ?_⟩
    have hj : i ≠ j := by
      rintro rfl
      rw [e] at q; cases q
      rw [hfz] at hf; cases hf
    exact ⟨by rw [List.getElem?_set, if_neg hj]; exact q, by rw [List.getElem?_set, if_neg hj]⟩
  refine ⟨E, ⟨⟨m, F', fun x v z => let ⟨rv, h1, h2⟩ := q x v z; ⟨rv, h1, h2.ext E⟩⟩, N', ?_, ?_, ?_, ?_, R.big, fun x j h1 h2 => let ⟨y, z1, z2⟩ := R.cells x j h1 h2; ⟨y, z1, E.ad _ _ z2⟩⟩⟩
  · have : (led.set i (a, o)).map (·.1) = led.map (·.1) := by
      apply List.ext_getElem?
      intro j
      rw [List.getElem?_map, List.getElem?_map]
      exact hadr j
    rw [this]; exact R.nodup
  · show (σ.h.set i ao).length = _
    simp [R.len]
  · intro j o' b ob' z1 z2
    have z1' : (σ.h.set i ao)[j]? = some o' := z1
    rw [List.getElem?_set] at z1' z2
    by_cases hij : i = j
    · subst hij
      rw [if_pos rfl, if_pos hi'] at z1'
      rw [if_pos rfl, if_pos hi] at z2
      cases z1'; cases z2
      exact ho _ _ E rfl rfl
    · rw [if_neg hij] at z1' z2
      exact (R.objs j o' b ob' z1' z2).ext E
  · intro p hp
    obtain ⟨j, hj⟩ := List.mem_iff_getElem?.mp hp
    rw [List.getElem?_set] at hj
    by_cases hij : i = j
    · subst hij
      rw [if_pos rfl, if_pos hi] at hj
      cases hj
      exact R.low (a, ob) hm
    · rw [if_neg hij] at hj
      exact R.low p (List.mem_of_getElem? hj)
theorem upd_of {a : Addr} {o o' : Obj} : ∀ {led : Led} {i : Nat}, (led.map (·.1)).Nodup → led[i]? = some (a, o) → Upd a o o' led (led.set i (a, o'))
  | [], i, _, h => by simp at h
  | p :: r, 0, nd, h => by
    simp at h; subst h
    simp only [List.map_cons, List.nodup_cons] at nd
    exact .head fun q hq e => nd.1 (by rw [← e]; exact List.mem_map_of_mem hq)
  | p :: r, i + 1, nd, h => by
    simp at h
    simp only [List.map_cons, List.nodup_cons] at nd
    refine .tail (fun e => nd.1 ?_) (upd_of nd.2 h)
    rw [e]; exact List.mem_map_of_mem (List.mem_of_getElem? h)
theorem Rep.setLoc (R : Rep G X led σ h) {h' : Heap} {x : Str} {v : AV} {rv : Value} {m : Str → Option Value} (hm : ∀ y w, σ.loc y = some w → ∃ rw', m y = some rw' ∧ VR G led w rw')
    (F' : Fr X.h₀ X.L h' (fun y => if y = x then some rv else m y)) (N' : News X.h₀ X.L h' led) (hv : VR G led v rv) : Rep G X led { σ with loc := upd σ.loc x v } h' := by
  refine ⟨⟨_, F', fun y w e => ?_⟩, N', R.nodup, R.len, R.objs, R.low, R.big, R.cells⟩
  simp only [upd] at e
  by_cases hy : y = x
  · rw [if_pos hy] at e; cases e; exact ⟨rv, by simp [hy], hv⟩
  · rw [if_neg hy] at e
    obtain ⟨r1, h1, h2⟩ := hm y w e
    exact ⟨r1, by simp [hy, h1], h2⟩
end
structure Ok (G : Gl) (X : CX) (d : Nat) : Prop where
  hk : X.env.scope.kind = .function
  hl : X.env.locals = X.L
  hg : X.env.globals = mainGlobals
  hb : X.env.builtins = builtinsNs
  kind : ∀ x, X.c.kind x = X.env.kindOf x
  kin : G.K.In X.h₀
  top : Top G.p G.loose G.mean G.mg G.mb X.h₀
  hh : X.A.handled = none
  depth : X.A.depth + 3 * d < recursionLimit
  units : X.A.units + 10 * d + 100 < cLine
  stand : X.c.inComp = false → ∃ A₀ base outer, Below A₀ base outer X.h₀ ∧ X.A.frames = some (X.env :: outer) ∧ X.env.frame = some X.L
theorem Ok.le {G : Gl} {X : CX} {d e : Nat} (O : Ok G X d) (h : e ≤ d) : Ok G X e :=
  { O with depth := by have := O.depth; lia, units := by have := O.units; lia }
noncomputable def KT (G : Gl) (X : CX) {α β : Type} (T : Led → β → α → Prop) (led : Led) (σ σ' : St) (r : β) (s : Shared) (Q : α → Shared → Prop) : Prop :=
  ∀ v h' tk led', Ext σ.h led σ'.h led' → Rep G X led' σ' h' → T led' r v → Q v { s with heap := h', toks := tk }
noncomputable abbrev KV (G : Gl) (X : CX) (led : Led) (σ σ' : St) (r : AV) (s : Shared) (Q : Value → Shared → Prop) : Prop := KT G X (VR G) led σ σ' r s Q
noncomputable def KU (G : Gl) (X : CX) (led : Led) (σ σ' : St) (s : Shared) (Q : Unit → Shared → Prop) : Prop := ∀ h' tk led', Ext σ.h led σ'.h led' → Rep G X led' σ' h' → Q () { s with heap := h', toks := tk }
theorem KT.eq {G : Gl} {X : CX} {α β : Type} {T : Led → β → α → Prop} {led : Led} {σ σ' : St} {r : β} {s : Shared} {Q : α → Shared → Prop} (k : KT G X T led σ σ' r s Q) {x : β} {σ₁ : St} (h : some (x, σ₁) = some (r, σ')) : KT G X T led σ σ₁ x s Q := by cases h; exact k
theorem KT.eqp {G : Gl} {X : CX} {α β : Type} {T : Led → β → α → Prop} {led : Led} {σ σ' : St} {r : β} {s : Shared} {Q : α → Shared → Prop} (k : KT G X T led σ σ' r s Q) {x : β} {σ₁ : St} (h : (x, σ₁) = (r, σ')) : KT G X T led σ σ₁ x s Q := by cases h; exact k
theorem KU.eq {G : Gl} {X : CX} {led : Led} {σ σ' : St} {s : Shared} {Q : Unit → Shared → Prop} (k : KU G X led σ σ' s Q) {σ₁ : St} (h : some σ₁ = some σ') : KU G X led σ σ₁ s Q := by cases h; exact k
noncomputable def Snd {α β : Type} (G : Gl) (X : CX) (R : Led → β → α → Prop) (t : Sem α) (m : St → Option (β × St)) : Prop :=
  ∀ σ r σ', m σ = some (r, σ') → ∀ (s : Shared) led (Q : α → Shared → Prop) (E : Value → Shared → Prop), Rep G X led σ s.heap → KT G X R led σ σ' r s Q →
    wpAny (model G.prog G.w) X.A t Q E s
noncomputable def FlR (G : Gl) (led : Led) : Fl → Flow → Prop
  | .next, f => f = .next
  | .cont, f => f = .cont
  | .ret v, f => ∃ x, f = .ret x ∧ VR G led v x
end Mine.S
end
section
open PySem PySem.W PyProof.Rows PySem.Calls
namespace Mine.S
noncomputable def GlobOK (G : Gl) (x : Str) : AV → Prop
  | .fn k => nsIn G.K mainGlobals x = some (some (.ref (G.fa k)))
  | .cls k => nsIn G.K mainGlobals x = some (some (.ref (G.ca k)))
  | .bltn id => nsIn G.K mainGlobals x = some none ∧ bootBuiltins x = some (.builtin id) ∧ x ≠ "__name__"
  | .typ n => nsIn G.K mainGlobals x = some none ∧ bootBuiltins x = some (.type n) ∧ x ≠ "__name__"
  | _ => False
noncomputable def DfR : AV → Value → Prop
  | .none, v => v = .none
  | .bool b, v => v = .bool b
  | .int i, v => ∃ t, v = .int i t
  | .str s, v => ∃ t, v = .str s t
  | _, _ => False
noncomputable def fnData (d : FuncData) (body : List Stmt) : FuncData := fnOf d.name d.qualname d.params body d.scope d.defaults d.kwdefaults d.doc d.pyModule d.annotations d.code d.closureTuple
structure FnRc (G : Gl) (k : Nat) (f : Fn) (oc : Value) (od : Option Addr) (osl : Array (Option Value)) (d : FuncData) : Prop where
  ob : G.K.lookup (G.fa k) = some ⟨oc, od, .func (fnData d f.body), osl⟩
  code : codeIn G.K d.code d.qualname = true
  kind : d.scope.kind = .function
  coro : d.scope.isCoroutine = false
  gen : d.scope.isGenerator = false
  cell : ∀ x ∈ d.scope.names, x.2 ≠ .cell
  names : d.scope.names = f.names
  p1 : d.params.posonlyargs = []
  p2 : d.params.vararg = none
  p3 : d.params.kwonlyargs = []
  p4 : d.params.kwarg = none
  p5 : d.params.args.map (·.arg) = f.params
  df : (f.dflts = [] ∧ d.defaults = .none) ∨ ∃ T c dd items n sl, d.defaults = .ref T ∧ G.K.lookup T = some ⟨c, dd, .seq items n, sl⟩ ∧ L2 DfR f.dflts items.toList
structure FnOK (G : Gl) (k : Nat) (f : Fn) : Prop where
  rcd : ∃ oc od osl d, FnRc G k f oc od osl d
  loc : ∀ x ∈ f.params, f.names.lookup x = some .local
  nd : f.params.Nodup
structure ClsOK (G : Gl) (P : Prog) (k : Nat) (c : Cls) : Prop where
  makes : makesIn G.K (G.ca k) = true
  init : findIn G.K (.ref (G.ca k)) "__init__" = some (some (.ref (G.fa c.init)))
  isf : isFn G.K (.ref (G.fa c.init)) = true
  pget : ∀ x, plainGet G.K (G.ca k) x = true
  hasD : hasDictIn G.K (G.ca k) = true
  sett : findIn G.K (.ref (G.ca k)) "__setattr__" = some (some (.builtin "object.__setattr__"))
  over : plainOver G.K (G.ca k) = true
  attr : ∀ x, c.attrs.contains x = true → findIn G.K (.ref (G.ca k)) x = some none ∧ takerIn G.K (G.ca k) x = some none
  meth : ∀ x f, c.meths.lookup x = some f → findIn G.K (.ref (G.ca k)) x = some (some (.ref (G.fa f))) ∧ isFn G.K (.ref (G.fa f)) = true
structure ProgOK (G : Gl) (P : Prog) : Prop where
  glob : ∀ x v, P.glob x = some v → GlobOK G x v
  fn : ∀ k f, P.fn k = some f → FnOK G k f
  cls : ∀ k c, P.cls k = some c → ClsOK G P k c
  keepF : ∀ k, keepIn G.K (.ref (G.fa k)) = true
  keepC : ∀ k, keepIn G.K (.ref (G.ca k)) = true
section
variable {G : Gl} {X : CX} {P : Prog} {d : Nat} {led : Led} {σ : St} {s : Shared} {E : Value → Shared → Prop}
theorem name_ok {x : Str} {v : AV} {Q : Value → Shared → Prop} (O : Ok G X d) (PK : ProgOK G P) (h : nameV P X.c x σ = some v) (R : Rep G X led σ s.heap) (k : ∀ rv, VR G led v rv → Q rv s) :
    wpAny (model G.prog G.w) X.A (loadName X.env x) Q E s := by
  refine cps fun C kont => ?_
  unfold nameV at h
  refine ifn h fun _ h => ?_
  rw [O.kind] at h
  obtain ⟨m, F, q⟩ := R.fr
  cases hk : X.env.kindOf x with
  | none => rw [hk] at h; exact no_some h
  | some kd =>
    rw [hk] at h
    cases kd with
    | «local» =>
      obtain ⟨rv, h1, h2⟩ := q x v h
      exact kont (wpAny_loadName_local O.hk hk (by rw [O.hl]; exact F.ns) h1 (k rv h2))
    | cell =>
      refine bnd1 (show (X.c.cells.lookup x).bind _ = _ from h) fun i h1 h2 => bnd1 h2 fun v' hv h3 => ?_
      obtain ⟨a, e1, e2⟩ := R.cells x i (by rw [O.kind]; exact hk) h1
      refine Rep.at' R (cell_of hv) e2 fun ob e3 e5 hob => ?_
      have e6 := hob
      obtain ⟨ov, e7, e8⟩ := e6
      obtain ⟨rv, e9, e10⟩ := e8 v h3
      exact kont (wpAny_loadName_cell O.hk hk e1 ⟨ob, e5, e7.trans (by rw [e9])⟩ (k rv e10))
    | globalImplicit =>
      refine kont ?_
      have T := O.top
      have g := PK.glob x v h
      unfold loadName
      simp only [Env.blockKind, O.hk, ScopeKind.isAnnotationScope, Bool.false_and, Bool.false_eq_true, if_false, hk]
      have nsg : s.heap.Ns X.env.globals G.mg := by rw [O.hg]; exact T.g.keeps F.keep
      have nsb : s.heap.Ns X.env.builtins G.mb := by rw [O.hb]; exact T.b.keeps F.keep
      cases v with
      | fn n => exact loadGlobal_global nsg (mg_of O.kin T.g g) (k _ rfl)
      | cls n => exact loadGlobal_global nsg (mg_of O.kin T.g g) (k _ rfl)
      | bltn id => exact loadGlobal_builtin nsg (mg_none_of O.kin T.g g.1) nsb ((T.builtins x g.2.2).trans g.2.1) (k _ rfl)
      | typ n => exact loadGlobal_builtin nsg (mg_none_of O.kin T.g g.1) nsb ((T.builtins x g.2.2).trans g.2.1) (k _ rfl)
      | _ => exact g.elim
    | _ => exact no_some h
theorem store_ok {x : Str} {v : AV} {rv : Value} {σ' : St} {Q : Unit → Shared → Prop} (O : Ok G X d) (h : storeN X.c x v σ = some σ') (R : Rep G X led σ s.heap) (hv : VR G led v rv)
    (k : KU G X led σ σ' s Q) :
    wpAny (model G.prog G.w) X.A (storeName X.env x rv) Q E s := by
  refine cps fun C kont => ?_
  unfold storeN at h
  rw [O.kind] at h
  obtain ⟨m, F, q⟩ := R.fr
  cases hk : X.env.kindOf x with
  | none => rw [hk] at h; exact no_some h
  | some kd =>
    rw [hk] at h
    cases kd with
    | «local» =>
      have k := k.eq h
      refine kont (wpAny_storeName_local hk (by rw [O.hl]; exact F.ns) (fun h' hn hs => ?_) (by rw [O.hk]; rfl))
      rw [O.hl] at hn hs
      exact k h' _ led (Ext.refl _ _) (R.setLoc q (F.set hn hs) (R.news.set hs) hv)
    | cell =>
      refine bnd1 (show (X.c.cells.lookup x).bind _ = _ from h) fun i h1 h2 => mpd h2 fun v' hv' h3 => ?_
      obtain ⟨a, e1, e2⟩ := R.cells x i (by rw [O.kind]; exact hk) h1
      refine Rep.at' R (cell_of hv') e2 fun ob e3 e5 hob => ?_
      have e6 := hob
      obtain ⟨ov, e7, e8⟩ := e6
      refine kont (wpAny_storeName_cell O.hk hk e1 ⟨ob, e5, e7⟩ fun h' hc hs => ?_)
      obtain ⟨ob', g1, g2⟩ := hc
      obtain ⟨z1, z2⟩ := R.put (ao := .cell (some v)) (cell_of hv') e2 rfl hs.extBut g1 fun hp led' x _ _ => ⟨_, g2, fun b e => by cases e; exact ⟨rv, rfl, hv.ext x⟩⟩
      rw [← h3] at k
      exact k h' _ _ z1 z2
    | _ => exact no_some h
theorem noPy {x y : Int} (h : y.natAbs < 2 ^ 60) : Builtin.divisionGoesByPylong x y = false := by
  refine PyProof.noPylong_of_log2 ?_
  by_cases h0 : y.natAbs = 0
  · rw [h0]; decide +kernel
  · have := (Nat.log2_lt h0).mpr h
    lia
theorem ld_of {i : Nat} {xs : List AV} (R : Rep G X led σ s.heap) (e : σ.h[i]? = some (.list xs)) : ∃ a vs, adr led i = some a ∧ LD s.heap a vs ∧ L2 (VR G led) xs vs.toList := by
  obtain ⟨a, ob, i1, i2, i3, i4, i0, vs, n, i5, i6⟩ := R.at e
  exact ⟨a, vs, i2, ⟨ob, i3, i4, i0, n, i5⟩, i6⟩
theorem isList_of {i : Nat} {xs : List AV} (R : Rep G X led σ s.heap) (e : σ.h[i]? = some (.list xs)) : ∃ a vs, adr led i = some a ∧ s.heap.IsList a vs ∧ L2 (VR G led) xs vs.toList := by
  obtain ⟨a, vs, h1, h2, h3⟩ := ld_of R e
  exact ⟨a, vs, h1, h2.isList, h3⟩
theorem isTup_of {i : Nat} {xs : List AV} (R : Rep G X led σ s.heap) (e : σ.h[i]? = some (.tup xs)) : ∃ a vs, adr led i = some a ∧ s.heap.IsTuple a vs ∧ L2 (VR G led) xs vs.toList := by
  obtain ⟨a, ob, i1, i2, i3, i4, vs, n, i5, i6⟩ := R.at e
  exact ⟨a, vs, i2, ⟨ob, i3, i4, n, i5⟩, i6⟩
theorem list_vr {i : Nat} {xs : List AV} {v : Value} {C : Prop} (R : Rep G X led σ s.heap) (e : listAt σ.h i = some xs) (hv : VR G led (.ref i) v) (k : ∀ p vs, v = .ref p → adr led i = some p → LD s.heap p vs → L2 (VR G led) xs vs.toList → C) : C := by
  obtain ⟨a, vs, h1, h2, h3⟩ := ld_of R (list_of e)
  obtain ⟨p, hp, rfl⟩ := hv
  obtain rfl : a = p := Option.some.inj (h1.symm.trans hp)
  exact k a vs rfl h1 h2 h3
theorem tup_vr {i : Nat} {xs : List AV} {v : Value} {C : Prop} (R : Rep G X led σ s.heap) (e : tupAt σ.h i = some xs) (hv : VR G led (.ref i) v) (k : ∀ p vs, v = .ref p → adr led i = some p → s.heap.IsTuple p vs → L2 (VR G led) xs vs.toList → C) : C := by
  obtain ⟨a, vs, h1, h2, h3⟩ := isTup_of R (tup_of e)
  obtain ⟨p, hp, rfl⟩ := hv
  obtain rfl : a = p := Option.some.inj (h1.symm.trans hp)
  exact k a vs rfl h1 h2 h3
theorem int_vr {i : Int} {v : Value} {C : Prop} (hv : VR G led (.int i) v) (k : ∀ t, v = .int i t → C) : C := by obtain ⟨t, e⟩ := hv; exact k t e
theorem str_vr {x : Str} {v : Value} {C : Prop} (hv : VR G led (.str x) v) (k : ∀ t, v = .str x t → C) : C := by obtain ⟨t, e⟩ := hv; exact k t e
theorem binI_inv {f : Int → Int → Option Int} {a b r : AV} {σ' : St} {va vb : Value} {C : Prop} (h : binI f a b σ = some (r, σ')) (ha : VR G led a va) (hb : VR G led b vb) (k : ∀ x y z t u, va = .int x t → vb = .int y u → f x y = some z → r = .int z → σ' = σ → C) : C := by
  cases a with
  | int x => cases b with
    | int y => exact mpd (show (f x y).map _ = _ from h) fun z e q => int_vr ha fun t h1 => int_vr hb fun u h2 => pr (congrArg some q) fun q1 q2 => k x y z t u h1 h2 e q1.symm q2.symm
    | _ => exact no_some h
  | _ => exact no_some h
theorem iff_some {p : Prop} [Decidable p] {x z : Int} {C : Prop} (h : (if p then some x else none) = some z) (k : p → x = z → C) : C := ifd h fun q e => k q (Option.some.inj e)
theorem lists_ok {i j : Nat} {xs ys : List AV} {va vb : Value} {Q : Value → Shared → Prop} (e1 : listAt σ.h i = some xs) (e2 : listAt σ.h j = some ys) (hc : xs.length ≤ szMax ∧ ys.length ≤ szMax) (R : Rep G X led σ s.heap) (ha : VR G led (.ref i) va) (hb : VR G led (.ref j) vb)
    (k : KV G X led σ (σ.alloc (.list (xs ++ ys))) (.ref σ.h.length) s Q) :
    wpAny (model G.prog G.w) X.A (binaryOp .Add va vb) Q E s := by
  refine list_vr R e1 ha fun p vs q1 _ ⟨ob, i3, i4, _, n, i5⟩ i6 => list_vr R e2 hb fun p' ws q2 _ ⟨ob', j3, j4, _, n', j5⟩ j6 => ?_
  rw [q1, q2]
  obtain ⟨m, F, q⟩ := R.fr
  refine add_lists (vs := vs.toList) (ws := ws.toList) F R.news ⟨ob, i3, i4, n, by simpa using i5⟩ ⟨ob', j3, j4, n', by simpa using j5⟩ (fun h' F' N' => ?_) (by rw [← i6.length, ← j6.length, sizeLine_eq]; simp only [szMax] at hc; lia)
  have E := R.app (.list (xs ++ ys)) (s.heap.objs.size, { cls := .type "list", data := .seq (vs.toList ++ ws.toList).toArray })
  obtain ⟨z1, z2, z3⟩ := R.alloc2 (ao := .list (xs ++ ys)) q F' N' (Nat.le_refl _) ⟨rfl, rfl, _, 0, rfl, L2.append (i6.mono fun _ _ w => w.ext E) (j6.mono fun _ _ w => w.ext E)⟩
  exact k _ _ _ _ z1 z2 ⟨_, z3, rfl⟩
theorem addV_ok {a b r : AV} {va vb : Value} {σ' : St} {Q : Value → Shared → Prop} (h : addV a b σ = some (r, σ')) (R : Rep G X led σ s.heap) (ha : VR G led a va) (hb : VR G led b vb)
    (k : KV G X led σ σ' r s Q) :
    wpAny (model G.prog G.w) X.A (binaryOp .Add va vb) Q E s := by
  cases a with
  | int x => cases b with
    | int y =>
      have k := k.eq h; obtain ⟨t, rfl⟩ := ha; obtain ⟨u, rfl⟩ := hb
      exact P.add_int (k _ _ _ _ (Ext.refl _ _) R ⟨_, rfl⟩)
    | _ => exact no_some h
  | str x => cases b with
    | str y =>
      refine ifd (show (if x.length ≤ szMax ∧ y.length ≤ szMax then _ else none) = _ from h) fun hc h => ?_
      have k := k.eq h; obtain ⟨t, rfl⟩ := ha; obtain ⟨u, rfl⟩ := hb
      exact add_str (fun t' tk => k _ _ _ _ (Ext.refl _ _) R ⟨_, rfl⟩) (by rw [sizeLine_eq]; have := hc.1; have := hc.2; simp only [szMax] at *; lia)
    | _ => exact no_some h
  | ref i => cases b with
    | ref j =>
      refine bnd1 (show (listAt σ.h i).bind _ = _ from h) fun xs e1 h => bnd1 h fun ys e2 h => ifd h fun hc h => ?_
      have k := k.eq h
      exact lists_ok e1 e2 hc R ha hb k
    | _ => exact no_some h
  | _ => exact no_some h
theorem bin_ok {op : Operator} {a b r : AV} {va vb : Value} {σ' : St} {Q : Value → Shared → Prop} (h : bin op a b σ = some (r, σ')) (R : Rep G X led σ s.heap) (ha : VR G led a va) (hb : VR G led b vb)
    (k : KV G X led σ σ' r s Q) :
    wpAny (model G.prog G.w) X.A (binaryOp op va vb) Q E s := by
  have fin : ∀ {z t}, r = .int z → σ' = σ → ∀ tk, Q (.int z t) { s with toks := tk } := fun {z t} e1 e2 tk => by
    subst e1 e2; exact k _ _ _ _ (Ext.refl _ _) R ⟨t, rfl⟩
  cases op with
  | Add => exact addV_ok h R ha hb k
  | Sub =>
    refine binI_inv h ha hb fun x y z t u q1 q2 e q3 q4 => ?_
    rw [q1, q2]
    exact P.sub_int (Option.some.inj e ▸ fin q3 q4 _)
  | Mult =>
    refine binI_inv h ha hb fun x y z t u q1 q2 e q3 q4 => iff_some e fun hc e => ?_
    rw [q1, q2]
    exact P.mul_int (e ▸ fin q3 q4 _) (IntMulOk.of_right (intBits_le_64 (by lia) (by lia)))
  | FloorDiv =>
    refine binI_inv h ha hb fun x y z t u q1 q2 e q3 q4 => iff_some e fun hc e => ?_
    rw [q1, q2]
    exact floordiv_int (by lia) (e ▸ fin q3 q4 _) (.inl (noPy (by lia)))
  | Mod =>
    refine binI_inv h ha hb fun x y z t u q1 q2 e q3 q4 => iff_some e fun hc e => ?_
    rw [q1, q2]
    exact mod_int (by lia) (e ▸ fin q3 q4 _)
  | Pow =>
    refine binI_inv h ha hb fun x y z t u q1 q2 e q3 q4 => iff_some e fun hc e => ?_
    rw [q1, q2, hc.1]
    exact pow_int_small hc.2.1 (by lia) (by decide) (e ▸ fin q3 q4 _)
  | _ => exact no_some h
theorem eqS_inv {a b : AV} {r : Bool} {va vb : Value} {C : Prop} (h : eqS a b = some r) (ha : VR G led a va) (hb : VR G led b vb) (k1 : ∀ x y t u, va = .int x t → vb = .int y u → (x == y) = r → C) (k2 : ∀ x y t u, va = .str x t → vb = .str y u → (x == y) = r → C)
    (k3 : ∀ x y, va = .bool x → vb = .bool y → (x == y) = r → C) : C := by
  cases a with
  | int x => cases b with
    | int y => exact int_vr ha fun t q1 => int_vr hb fun u q2 => k1 x y t u q1 q2 (Option.some.inj h)
    | _ => exact no_some h
  | str x => cases b with
    | str y => exact str_vr ha fun t q1 => str_vr hb fun u q2 => k2 x y t u q1 q2 (Option.some.inj h)
    | _ => exact no_some h
  | bool x => cases b with
    | bool y => exact k3 x y ha hb (Option.some.inj h)
    | _ => exact no_some h
  | _ => exact no_some h
theorem eqS_at {a b : AV} {va vb : Value} {r : Bool} {A : Around} (h : eqS a b = some r) (ha : VR G led a va) (hb : VR G led b vb) : SeqAt.EqAt A s va vb r :=
  eqS_inv h ha hb (fun _ _ _ _ q1 q2 e => by rw [q1, q2, ← e]; exact SeqAt.EqAt.int_int _ _ _ _) (fun _ _ _ _ q1 q2 e => by rw [q1, q2, ← e]; exact SeqAt.EqAt.str_str _ _ _ _) (fun _ _ q1 q2 e => by rw [q1, q2, ← e]; exact SeqAt.EqAt.bool_bool _ _)
theorem eqS_rc {a b : AV} {va vb : Value} {r : Bool} {A : Around} (h : eqS a b = some r) (ha : VR G led a va) (hb : VR G led b vb) : SeqAt.RcAt A s va vb r :=
  eqS_inv h ha hb (fun _ _ _ _ q1 q2 e => by rw [q1, q2, ← e]; exact SeqAt.RcAt.int_int _ _ _ _) (fun _ _ _ _ q1 q2 e => by rw [q1, q2, ← e]; exact SeqAt.RcAt.str_str _ _ _ _) (fun _ _ q1 q2 e => by rw [q1, q2, ← e]; exact SeqAt.RcAt.bool_bool _ _)
theorem eqS_ne {a b : AV} {va vb : Value} {r : Bool} {A : Around} (h : eqS a b = some r) (ha : VR G led a va) (hb : VR G led b vb) : SeqAt.RcNeAt A s va vb (!r) :=
  eqS_inv h ha hb (fun _ _ _ _ q1 q2 e => by rw [q1, q2, ← e]; exact SeqAt.RcNeAt.int_int _ _ _ _) (fun _ _ _ _ q1 q2 e => by rw [q1, q2, ← e]; exact SeqAt.RcNeAt.str_str _ _ _ _) (fun _ _ q1 q2 e => by rw [q1, q2, ← e]; exact SeqAt.RcNeAt.bool_bool _ _)
theorem allInts_are {xs : List AV} {vs : List Value} : ∀ {ns : List Int}, L2 (VR G led) xs vs → allInts xs = some ns → IntsAre vs ns := by
  intro ns h
  induction h generalizing ns with
  | nil => intro e; cases e; exact .nil
  | cons h1 h2 ih =>
    intro e
    rename_i a b l m
    cases a <;> try (cases e)
    rename_i i
    obtain ⟨t, rfl⟩ := h1
    obtain ⟨ms, e1, rfl⟩ := Option.map_eq_some_iff.1 (show (allInts _).map (i :: ·) = some ns from e)
    exact .cons _ _ (ih e1)
noncomputable def sameV : Value → Value → Bool
  | .int a _, .int b _ => a == b
  | .str a _, .str b _ => a == b
  | .bool a, .bool b => a == b
  | _, _ => false
theorem eqS_same {a b : AV} {va vb : Value} {r : Bool} (h : eqS a b = some r) (ha : VR G led a va) (hb : VR G led b vb) : sameV va vb = r :=
  eqS_inv h ha hb (fun _ _ _ _ q1 q2 e => by rw [q1, q2]; exact e) (fun _ _ _ _ q1 q2 e => by rw [q1, q2]; exact e) (fun _ _ q1 q2 e => by rw [q1, q2]; exact e)
theorem inL_any {x : AV} {vx : Value} (A : Around) (hx : VR G led x vx) {xs : List AV} {vs : List Value} (h : L2 (VR G led) xs vs) : ∀ {r : Bool}, inL x xs = some r →
    (∀ y ∈ vs, SeqAt.EqAt A s y vx (sameV y vx)) ∧ (vs.any fun y => sameV y vx) = r := by
  induction h with
  | nil => intro r e; cases e; exact ⟨fun _ h => (nomatch h), rfl⟩
  | cons h1 h2 ih =>
    intro r e
    simp only [inL, Option.bind_eq_some_iff, Option.map_eq_some_iff] at e
    obtain ⟨b, e1, c, e2, rfl⟩ := e
    obtain ⟨i1, i2⟩ := ih e2
    refine ⟨fun y hy => ?_, ?_⟩
    · rcases List.mem_cons.mp hy with rfl | hy
      · rw [eqS_same e1 h1 hx]; exact eqS_at e1 h1 hx
      · exact i1 y hy
    · rw [List.any_cons, i2, eqS_same e1 h1 hx]
theorem findI_value {es : List (Int × AV)} {kvs : List (Int × Value)} {k : Int} (h : L2 (fun p q => p.1 = q.1 ∧ VR G led p.2 q.2) es kvs) : (findI k es).isSome = (valueAt kvs k).isSome := by
  induction h with
  | nil => rfl
  | cons h1 h2 ih =>
    rename_i a b l m
    simp -iota only [findI, valueAt, List.find?_cons] at ih ⊢
    rw [← h1.1]
    by_cases hk : a.1 = k
    · simp [hk]
    · simp only [hk, decide_false]; exact ih
theorem ne_lists {i j : Nat} {xs ys : List AV} {va vb : Value} {r : Bool} {Q : Value → Shared → Prop} (O : Ok G X d) (e1 : listAt σ.h i = some xs) (e2 : listAt σ.h j = some ys) (h : eqL xs ys = some r) (R : Rep G X led σ s.heap) (ha : VR G led (.ref i) va) (hb : VR G led (.ref j) vb)
    (k : Q (.bool !r) s) : wpAny (model G.prog G.w) X.A (compareOp .NotEq va vb) Q E s := by
  have hu : X.A.units + 64 < cLine := by have := O.units; lia
  have hu1 : X.A.units + 1 < cLine := Nat.lt_of_le_of_lt (Nat.add_le_add_left (by decide) _) hu
  refine list_vr R e1 ha fun p vs q1 _ i2 i3 => list_vr R e2 hb fun p' ws q2 _ j2 j3 => ?_
  rw [q1, q2]
  have i2 := i2.isList
  have j2 := j2.isList
  have li : xs.length = vs.size := i3.length.trans Array.length_toList
  have lj : ys.length = ws.size := j3.length.trans Array.length_toList
  unfold eqL at h
  by_cases hy : ys.isEmpty = true
  · rw [if_pos hy] at h
    have hw : ws.size = 0 := by rw [← lj]; rw [List.isEmpty_iff] at hy; rw [hy]; rfl
    cases xs with
    | nil =>
      have hv : vs.size = 0 := li.symm
      have := SeqAt.RcNeAt.lists (A := X.A) (e := fun _ => true) i2 j2 (hv.trans hw.symm) (by first | exact hu1 | lia) (fun j hj => absurd hj (by lia)) G.prog G.w E Q
      rw [hv] at this
      cases h
      exact this k
    | cons x xs =>
      have hv : vs.size ≠ 0 := by rw [← li]; exact Nat.succ_ne_zero _
      have := SeqAt.RcNeAt.lists_lengths (A := X.A) i2 j2 (by simp [hw]; exact fun z => hv (by simp [z])) (by first | exact hu1 | lia) G.prog G.w E Q
      cases h
      exact this k
  · rw [if_neg hy] at h
    refine bnd1 h fun ms z1 h => bnd1 h fun ns z2 h => ?_
    exact ke_ne_ints (xs := vs.toList) (ys := ws.toList) (by simpa using i2) (by simpa using j2) (allInts_are i3 z1) (allInts_are j3 z2) hu (Option.some.inj h ▸ k)
theorem eqB_ok {a b : AV} {va vb : Value} {r : Bool} {Q : Value → Shared → Prop} (O : Ok G X d) (h : eqB σ.h a b = some r) (R : Rep G X led σ s.heap) (ha : VR G led a va) (hb : VR G led b vb) (k : Q (.bool !r) s) : wpAny (model G.prog G.w) X.A (compareOp .NotEq va vb) Q E s := by
  cases a with
  | ref i => cases b with
    | ref j => exact bnd1 (show (listAt σ.h i).bind _ = _ from h) fun xs e1 h => bnd1 h fun ys e2 h => ne_lists O e1 e2 h R ha hb k
    | _ => exact no_some h
  | int x => exact eqS_ne (a := .int x) h ha hb G.prog G.w E Q k
  | str x => exact eqS_ne (a := .str x) h ha hb G.prog G.w E Q k
  | bool x => exact eqS_ne (a := .bool x) h ha hb G.prog G.w E Q k
  | _ => exact no_some h
theorem cmpI_inv {f : Int → Int → Bool} {a b : AV} {r : Bool} {va vb : Value} {C : Prop} (h : cmpI f a b = some r) (ha : VR G led a va) (hb : VR G led b vb) (k : ∀ x y t u, va = .int x t → vb = .int y u → f x y = r → C) : C := by
  cases a with
  | int x => cases b with
    | int y => exact int_vr ha fun t q1 => int_vr hb fun u q2 => k x y t u q1 q2 (Option.some.inj h)
    | _ => exact no_some h
  | _ => exact no_some h
theorem inB_inv {a b : AV} {r : Bool} {va vb : Value} {C : Prop} (h : inB σ.h a b = some r) (R : Rep G X led σ s.heap) (ha : VR G led a va) (hb : VR G led b vb)
    (k1 : ∀ p vs, vb = .ref p → s.heap.IsList p vs → (∀ y ∈ vs, SeqAt.EqAt X.A.in1 s y va (sameV y va)) → (vs.any fun y => sameV y va) = r → C)
    (k2 : ∀ p vs, vb = .ref p → s.heap.IsTuple p vs → (∀ y ∈ vs, SeqAt.EqAt X.A.in1 s y va (sameV y va)) → (vs.any fun y => sameV y va) = r → C)
    (k3 : ∀ p n t kvs, va = .int n t → vb = .ref p → Heap.DictOf (intKind G.prog G.w) s.heap p kvs → (p == sysModules) = false → (valueAt kvs n).isSome = r → C) : C := by
  cases b with
  | ref i =>
    cases e : σ.h[i]? with
    | none => unfold inB at h; simp only [e] at h; exact no_some h
    | some ao =>
      cases ao with
      | list xs =>
        have h : (if xs.length ≤ szMax then inL a xs else none) = some r := by unfold inB at h; simp only [e] at h; exact h
        refine ifd h fun _ h => list_vr R (show listAt σ.h i = some xs by unfold listAt; rw [e]) hb fun p vs q1 _ i2 i3 => ?_
        obtain ⟨z1, z2⟩ := inL_any (s := s) X.A.in1 ha i3 h
        exact k1 p vs q1 i2.isList (fun y hy => z1 y (by simpa using hy)) (by rw [← Array.any_toList]; exact z2)
      | tup xs =>
        have h : (if xs.length ≤ szMax then inL a xs else none) = some r := by unfold inB at h; simp only [e] at h; exact h
        refine ifd h fun _ h => tup_vr R (show tupAt σ.h i = some xs by unfold tupAt; rw [e]) hb fun p vs q1 _ i2 i3 => ?_
        obtain ⟨z1, z2⟩ := inL_any (s := s) X.A.in1 ha i3 h
        exact k2 p vs q1 i2 (fun y hy => z1 y (by simpa using hy)) (by rw [← Array.any_toList]; exact z2)
      | idict es =>
        cases a with
        | int n =>
          have h : some (findI n es).isSome = some r := by unfold inB at h; simp only [e] at h; exact h
          refine int_vr ha fun t q1 => ?_
          obtain ⟨p, hp, q2⟩ := hb
          refine Rep.at' R e hp fun ob i1 i3 hob => ?_
          obtain ⟨kvs, ⟨hx, es', ep, y1, y2, y3, y4⟩, i5⟩ := hob
          exact k3 p n t kvs q1 q2 ⟨ob, es', ep, i3, hx, y1, y2, y3, y4⟩ (beq_eq_false_iff_ne.mpr (Nat.ne_of_gt (R.low _ (List.mem_of_getElem? i1)))) (by rw [← findI_value i5]; exact Option.some.inj h)
        | _ => unfold inB at h; simp only [e] at h; exact no_some h
      | _ => unfold inB at h; simp only [e] at h; exact no_some h
  | _ => exact no_some h
theorem isN_inv {a b : AV} {r : Bool} {va vb : Value} {C : Prop} (h : isN a b = some r) (ha : VR G led a va) (hb : VR G led b vb) (k1 : va = .none → vb = .none → r = true → C) (k2 : ∀ p, va = .ref p → vb = .none → r = false → C) : C := by
  cases b with
  | none => cases a with
    | none => exact k1 ha hb (Option.some.inj h).symm
    | ref i => obtain ⟨p, hp, q⟩ := ha; exact k2 p q hb (Option.some.inj h).symm
    | _ => exact no_some h
  | _ => exact no_some h
theorem cmp_ok {op : CmpOp} {a b : AV} {va vb : Value} {r : Bool} {Q : Value → Shared → Prop} (O : Ok G X d) (h : cmp op a b σ = some r) (R : Rep G X led σ s.heap) (ha : VR G led a va) (hb : VR G led b vb)
    (k' : ∀ tk, Q (.bool r) { s with toks := tk }) : wpAny (model G.prog G.w) X.A (compareOp op va vb) Q E s := by
  have k := k' s.toks
  have k1 := k' (s.toks + 1)
  cases op with
  | Eq => exact eqS_rc h ha hb G.prog G.w E Q k
  | NotEq => exact mpd h fun q h1 e => eqB_ok O h1 R ha hb (e ▸ k)
  | Lt => refine cmpI_inv h ha hb fun x y t u q1 q2 e => ?_; rw [q1, q2]; exact P.lt_int (e ▸ k)
  | LtE => refine cmpI_inv h ha hb fun x y t u q1 q2 e => ?_; rw [q1, q2]; exact P.le_int (e ▸ k)
  | Gt => refine cmpI_inv h ha hb fun x y t u q1 q2 e => ?_; rw [q1, q2]; exact P.gt_int (e ▸ k)
  | GtE => refine cmpI_inv h ha hb fun x y t u q1 q2 e => ?_; rw [q1, q2]; exact P.ge_int (e ▸ k)
  | Is => exact isN_inv h ha hb (fun q1 q2 e => by rw [q1, q2]; subst e; exact is_none_gen k) fun p q1 q2 e => by rw [q1, q2]; subst e; exact is_none_gen k
  | IsNot => exact mpd h fun q h e0 => isN_inv h ha hb (fun q1 q2 e => by rw [q1, q2]; subst e; subst e0; exact isnot_none_gen k) fun p q1 q2 e => by rw [q1, q2]; subst e; subst e0; exact isnot_none_gen k
  | In =>
    refine inB_inv h R ha hb (fun p vs q i2 z1 z2 => ?_) (fun p vs q i2 z1 z2 => ?_) fun p n t kvs q1 q2 D nm e => ?_
    · rw [q]; exact SeqAt.in_listAt _ i2 z1 (by rw [z2]; exact k)
    · rw [q]; exact SeqAt.in_tupleAt _ i2 z1 (by rw [z2]; exact k)
    · rw [q1, q2]
      exact wpAny_in_of (knd := intKind G.prog G.w) (k := n) (by simp [intKind, Value.isInt]) nm D.mapOf (by rw [e]; exact k1)
  | NotIn =>
    refine mpd h fun q h e0 => inB_inv h R ha hb (fun p vs q i2 z1 z2 => ?_) (fun p vs q i2 z1 z2 => ?_) fun p n t kvs q1 q2 D nm e => ?_
    · rw [q]; exact SeqAt.notIn_listAt _ i2 z1 (by rw [z2, e0]; exact k)
    · rw [q]; exact SeqAt.notIn_tupleAt _ i2 z1 (by rw [z2, e0]; exact k)
    · rw [q1, q2]
      exact wpAny_notIn_of (knd := intKind G.prog G.w) (k := n) (by simp [intKind, Value.isInt]) nm D.mapOf (by rw [e, e0]; exact k1)
end
end Mine.S
end
section
open PySem PySem.W PyProof.Rows PySem.Calls
namespace Mine.S
section
variable {prog : Program} {w : World} {A : Around} {E : Value → Shared → Prop} {s : Shared}
theorem iadd_meets (l : Addr) (items : Array Value) (n : Nat) (dd : Option Addr) (sl : Array (Option Value)) (b : Addr) (items2 : Array Value) (n2 : Nat) (dd2 : Option Addr) (sl2 : Array (Option Value))
    (hs0 : ¬(!items.isEmpty && Builtin.List.listTooLong (items.size + items2.size)) = true) (hs1 : items.size ≤ sizeLine) (hs2 : items.size + items2.size ≤ sizeLine + 1) :
    Meets (Builtin.«list.__iadd__» ⟨[.ref l, .ref b], []⟩) (fun _ R s => s.heap.get? l = some { cls := .type "list", dict := dd, data := .seq items n, slots := sl } ∧ s.heap.get? b = some { cls := .type "list", dict := dd2, data := .seq items2 n2, slots := sl2 } ∧ R (.ok (.ret (Value.ref l))) { s with heap := s.heap.update l (Obj.mapSeq fun x => x ++ items2), toks := s.toks }) :=
  .of_wp fun prog w A R s h => by
    obtain ⟨hp, g, d, tk, os⟩ := s; obtain ⟨hl, hb, h⟩ := h; have f3 := AutoSeq1.sub_list_list
    have hz' : (items ++ items2).size ≤ sizeLine + 1 := by rw [Array.size_append]; exact hs2
    wp_walk using (wpAny_updateSeq hl rfl (hz := hs1) (_hz' := hz')), wpAny_loadPart' hl, wpAny_loadPart' hb
    exact ⟨_, rfl, h⟩
theorem setItem_list {l : Addr} {items : Array Value} {k : Int} {t : Tok} {v : Value} {Q : Unit → Shared → Prop} (hL : LD s.heap l items)
    (h0 : 0 ≤ k) (hfit : k < 2 ^ 63) (hn : k < items.size)
    (hQ : ∀ h', LD h' l (items.setIfInBounds k.toNat v) → Heap.SameBut l s.heap h' → Q () { s with heap := h' }) :
    wpAny (model prog w) A (PySem.setItem (.ref l) (.int k t) v) Q E s := by
  have hl := hL.isList
  obtain ⟨o, ho, hc, ne, hd⟩ := id hl
  unfold PySem.setItem
  try with_reducible refine wpAny_holding ?_
  first | refine wpAny_bind (wpAny_pure ?_) | skip
  refine wpAny_bind (wpAny_sequenceKey hl.typeIs (by decide) ?_)
  refine wpAny_bind (wpAny_callSpecial?_slot (name := Str.ofString "__setitem__") hl.typeIs slot_list_setitem
    (wpAny_call_entry slot_list_setitem hl.typeIs entry_list_setitem ?_ (args_list_setitem _ _ _)))
  show wpAny _ _ (Builtin.List.listSubscript? (.int k t) >>= _) _ _ s
  refine wpAny_bind (wpAny_listSubscript_int (fitsIndex_of h0 hfit) ?_)
  clear hfit
  obtain ⟨j, rfl⟩ := Int.eq_ofNat_of_zero_le h0
  have hj : j < items.size := by lia
  have hx' : items[j]? = some items[j] := Array.getElem?_eq_getElem hj
  show wpAny _ _ ((seqItemAt l j >>= fun r => pure (r.map (j, ·))) >>= _) _ _ s
  refine wpAny_bind (wpAny_bind (wpAny_seqItemAt ho hd (wpAny_pure ?_)))
  rw [hx']
  show wpAny _ _ (setSeqItemAt l j v >>= _) _ _ s
  have hfin := hL.upd (·.setIfInBounds j v)
  refine wpAny_bind (wpAny_setSeqItemAt ho hd ?_)
  first
    | exact wpAny_bind (wpAny_pure (wpAny_pure ⟨.none, rfl, wpAny_pure (hQ _ hfin (Heap.SameBut.update ..))⟩))
    | exact wpAny_pure ⟨.none, rfl, wpAny_pure (hQ _ hfin (Heap.SameBut.update ..))⟩
theorem iadd_list {l b : Addr} {items items2 : Array Value} {Q : Value → Shared → Prop} (hL : LD s.heap l items) (hb : s.heap.IsList b items2) (h1 : items.size ≤ 100000) (h2 : items2.size ≤ 100000)
    (hQ : ∀ h', LD h' l (items ++ items2) → Heap.SameBut l s.heap h' → Q (.ref l) { s with heap := h' }) : wpAny (model prog w) A (inplaceOp .Add (.ref l) (.ref b)) Q E s := by
  have hl := hL.isList
  have hQ' := hQ _ (hL.upd fun x => x ++ items2) (Heap.SameBut.update ..)
  obtain ⟨⟨cls, dd, data, sl⟩, ho, hc, n, hd⟩ := id hl
  obtain ⟨⟨cls2, dd2, data2, sl2⟩, ho2, hc2, n2, hd2⟩ := id hb
  simp only at hc hd hc2 hd2
  subst hc hd hc2 hd2
  have hs : isSeqSlot (some (.builtin "list.__iadd__")) = true := by decide +kernel
  unfold inplaceOp
  refine wpAny_holding ?_
  have hfi : fillsInplaceSlot (.type "list") "add" (Operator.Add == .Add) = pure false := by
    unfold fillsInplaceSlot
    show (typeLookup (.type "list") (dunderI "add") >>= fun fi => pure (fi.isSome && !isSeqSlot fi)) = pure false
    rw [F.slot_list_iadd.lookup, pure_bind, hs]; rfl
  refine wpAny_bind (wpAny_typeOf hl.typeIs (wpAny_bind (wpAny_of_eq hfi ?_)))
  show wpAny _ A (if false = true then _ else _) Q E s
  rw [if_neg Bool.false_ne_true]
  refine wpAny_bind (wpAny_binaryOp1_none (nm := "add") hl.typeIs hb.typeIs noFill_list_add ?_)
  refine wpAny_bind (wpAny_of_eq (PySem.seqSlot_of F.slot_list_iadd.lookup hs) ?_)
  refine wpAny_bind (wpAny_rule ?_)
  refine call_meets F.slot_list_iadd hl.typeIs F.entry_list_iadd (F.args_list_iadd_2 _ _) (iadd_meets l items n dd sl b items2 n2 dd2 sl2 ?_ (by rw [sizeLine_eq]; lia) (by rw [sizeLine_eq]; lia)) ⟨ho, ho2, ?_⟩
  · have : Builtin.List.listTooLong (items.size + items2.size) = false := by unfold Builtin.List.listTooLong; rw [sizeLine_eq]; simp; lia
    rw [this]; simp
  · exact hQ'
end
section
variable {G : Gl} {X : CX} {P : Prog} {d : Nat} {led : Led} {σ : St} {s : Shared} {E : Value → Shared → Prop}
theorem Rep.putList {h' : Heap} {i : Nat} {a : Addr} {xs ys : List AV} {vs : Array Value} (R : Rep G X led σ s.heap) (e : σ.h[i]? = some (.list xs)) (ea : adr led i = some a)
    (k : Heap.ExtBut a s.heap h') (hl : LD h' a vs) (hv : L2 (VR G led) ys vs.toList) :
    ∃ led', Ext σ.h led (σ.put i (.list ys)).h led' ∧ Rep G X led' (σ.put i (.list ys)) h' ∧ ∀ j, adr led' j = adr led j := by
  obtain ⟨o, ho, hc, h0, n, hd⟩ := hl
  obtain ⟨z1, z2⟩ := R.put (ao := .list ys) e ea rfl k ho fun hp led' x _ _ => ⟨hc, h0, vs, n, hd, hv.mono fun _ _ w => w.ext x⟩
  refine ⟨_, z1, z2, fun j => ?_⟩
  obtain ⟨ob, e1, hm⟩ := adr_mem ea
  unfold adr
  rw [List.getElem?_set]
  by_cases hj : i = j
  · subst hj; rw [if_pos rfl, if_pos (List.getElem?_eq_some_iff.mp e1).1, e1]; rfl
  · rw [if_neg hj]
theorem inpl_ok {op : Operator} {a b r : AV} {va vb : Value} {σ' : St} {Q : Value → Shared → Prop} (h : inpl op a b σ = some (r, σ')) (R : Rep G X led σ s.heap) (ha : VR G led a va) (hb : VR G led b vb)
    (k : KV G X led σ σ' r s Q) :
    wpAny (model G.prog G.w) X.A (inplaceOp op va vb) Q E s := by
  cases op with
  | Add => cases a with
    | int x => cases b with
      | int y =>
        have k := k.eq h; obtain ⟨t, rfl⟩ := ha; obtain ⟨u, rfl⟩ := hb
        exact P.iadd_int (k _ _ _ _ (Ext.refl _ _) R ⟨_, rfl⟩)
      | _ => exact no_some h
    | ref i => cases b with
      | ref j =>
        refine bnd1 (show (listAt σ.h i).bind _ = _ from h) fun xs e1 h => bnd1 h fun ys e2 h => ifd h fun hc h => ?_
        refine list_vr R e1 ha fun p vs q1 i1 i2 i3 => list_vr R e2 hb fun p' ws q2 _ j2 j3 => ?_
        rw [q1, q2]
        have k := k.eq h
        have n1 : vs.size ≤ 100000 := by have := i3.length.trans Array.length_toList; rw [← this]; exact hc.2.1
        have n2 : ws.size ≤ 100000 := by have := j3.length.trans Array.length_toList; rw [← this]; exact hc.2.2
        refine iadd_list i2 j2.isList n1 n2 fun h' hl hs => ?_
        obtain ⟨led', z1, z2, z3⟩ := R.putList (ys := xs ++ ys) (list_of e1) i1 hs.extBut hl (by rw [Array.toList_append]; exact i3.append j3)
        exact k _ _ s.toks _ z1 z2 ⟨_, (z3 _).trans i1, rfl⟩
      | _ => exact no_some h
    | _ => exact no_some h
  | _ => exact no_some h
theorem idx_seq {n : Nat} {k : Int} {j : Nat} (h : idx? n k = some j) : seqIndex? k n = some j ∧ j < n ∧ (0 ≤ k → j = k.toNat) ∧ (k < 0 → j = (k + n).toNat ∧ -(n : Int) ≤ k) := by
  unfold idx? at h
  unfold seqIndex?
  by_cases h0 : 0 ≤ k
  · rw [if_pos h0] at h
    refine ifd h fun h1 e => ?_
    cases e
    have h1 : ¬ k < 0 := by lia
    simp only [h1, if_false]
    exact ⟨if_pos (by simp; lia), by lia, fun _ => trivial, fun q => q.elim⟩
  · rw [if_neg h0] at h
    refine ifd h fun h1 e => ?_
    cases e
    have h1 : k < 0 := by lia
    simp only [h1, if_true]
    exact ⟨if_pos (by simp; lia), by lia, fun q => absurd q h0, fun _ => ⟨trivial, by lia⟩⟩
theorem sub_ops (slice : Expr) (o i : Value) : ∃ ops, subscripted slice false o i = operate ops (getItem o i) := by
  cases slice <;> try exact ⟨_, rfl⟩
  rename_i a b c p
  cases c <;> exact ⟨_, rfl⟩
theorem tail_ok {value slice : Expr} {o i : Value} {T id : String} {Q : Value → Shared → Prop} (hT : s.TypeIs o T) (hl : typeLookup (.type T) "__getitem__" = pure (some (.builtin id)))
    (h : wpAny (model G.prog G.w) X.A (getItem o i) Q E s) : wpAny (model G.prog G.w) X.A (subscriptTail value slice o i) Q E s := by
  obtain ⟨ops, e⟩ := sub_ops slice o i
  exact tail_any hT hl h e
theorem tupKey {b : Nat} {kk : Str × Str} {ab : Addr} (R : Rep G X led σ s.heap) (h : keyT σ.h b = some kk) (hb : adr led b = some ab) : IsTupleKey (strKind G.prog G.w) s.heap [kk.1, kk.2] ab := by
  refine Rep.at' R (key_of h) hb fun ob i1 i3 hob => ?_
  obtain ⟨i4, vs, n, i5, i6⟩ := hob
  refine ⟨ob, vs, n, i3, i4, i5, ?_⟩
  generalize vs.toList = l at i6
  cases i6 with
  | cons h1 t1 =>
    cases t1 with
    | cons h2 t2 =>
      cases t2
      obtain ⟨t, rfl⟩ := h1
      obtain ⟨u, rfl⟩ := h2
      exact .cons (by simp [PySem.strKind, Value.isStrOf, Value.isStr]) (.cons (by simp [PySem.strKind, Value.isStrOf, Value.isStr]) .nil)
theorem dictH {a : Addr} {ob : Obj} {es : List ((Str × Str) × Nat × AV)} {xs : List (List Str × Addr × Value)} {ep : Nat} (R : Rep G X led σ s.heap) (ho : s.heap.get? a = some ob) (D : TDO G.w G.prog xs ob ep) (l : L2 (TR G σ.h led) es xs) :
    Heap.DictOfH (tupleKind (strKind G.prog G.w)) s.heap a xs := by
  obtain ⟨hx, es', q1, q2, q3⟩ := D
  refine ⟨ob, es', ep, ho, hx, q1, q2, fun x hx => ?_, q3⟩
  obtain ⟨i, hi⟩ := List.mem_iff_getElem?.mp hx
  obtain ⟨p, h1, h2⟩ := l.getR hi
  rw [h2.1]
  exact tupKey R h2.2.1 h2.2.2.1
theorem findT_at {es : List ((Str × Str) × Nat × AV)} {xs : List (List Str × Addr × Value)} {kk : Str × Str} {v : AV} {hp : List AO} (l : L2 (TR G hp led) es xs) (h : findT kk es = some v) :
    ∃ z, atKey xs [kk.1, kk.2] = some z ∧ VR G led v z.2 := by
  induction l with
  | nil => cases h
  | cons h1 h2 ih =>
    rename_i a b l m
    simp only [findT, List.find?_cons] at h
    simp only [atKey, List.find?_cons] at ih ⊢
    rw [h1.1]
    by_cases hk : a.1 = kk
    · subst hk
      simp at h
      exact ⟨b.2, by simp, h ▸ h1.2.2.2⟩
    · have : ¬ ([a.1.1, a.1.2] = [kk.1, kk.2]) := fun z => hk (by simp at z; exact Prod.ext z.1 z.2)
      simp only [hk, decide_false, this] at h ⊢
      exact ih h
theorem itemI_inv {a : Nat} {kk : Int} {r : AV} {C : Prop} (h : itemI a kk σ = some r) (k1 : ∀ xs, listAt σ.h a = some xs → pickL xs kk = some r → C) (k2 : ∀ xs, tupAt σ.h a = some xs → pickL xs kk = some r → C) : C := by
  unfold itemI at h
  unfold listAt tupAt at *
  cases e : σ.h[a]? with
  | none => rw [e] at h; exact no_some h
  | some ao =>
    rw [e] at h k1 k2
    cases ao with
    | list xs => exact k1 xs rfl h
    | tup xs => exact k2 xs rfl h
    | _ => exact no_some h
theorem pick_inv {xs : List AV} {vs : Array Value} {kk : Int} {r : AV} {C : Prop} (h : pickL xs kk = some r) (l : L2 (VR G led) xs vs.toList)
    (k : ∀ j v, vs.size ≤ 100000 → vs[j]? = some v → VR G led r v → seqIndex? kk vs.size = some j → j < vs.size → (0 ≤ kk → j = kk.toNat) → (kk < 0 → j = (kk + vs.size).toNat ∧ -(vs.size : Int) ≤ kk) → C) : C := by
  unfold pickL at h
  have hn : xs.length = vs.size := l.length.trans Array.length_toList
  refine ifd h fun hsz h => bnd1 h fun j h1 h2 => ?_
  rw [hn] at h1 hsz
  obtain ⟨q1, q2, q3, q4⟩ := idx_seq h1
  obtain ⟨v, g1, g2⟩ := l.get h2
  rw [Array.getElem?_toList] at g1
  exact k j v hsz g1 g2 q1 q2 q3 q4
theorem item_ok {o i r : AV} {vo vi : Value} {value slice : Expr} {Q : Value → Shared → Prop} (O : Ok G X d) (h : item o i σ = some r) (R : Rep G X led σ s.heap) (ho : VR G led o vo) (hi : VR G led i vi)
    (k : ∀ v tk, VR G led r v → Q v { s with toks := tk }) : wpAny (model G.prog G.w) X.A (subscriptTail value slice vo vi) Q E s := by
  cases o with
  | ref a => cases i with
    | int kk =>
      refine itemI_inv h (fun xs e h => list_vr R e ho fun p vs q _ i2 i3 => pick_inv h i3 fun j v hsz g1 g2 q1 q2 q3 q4 => ?_) fun xs e h => tup_vr R e ho fun p vs q _ i2 i3 => pick_inv h i3 fun j v hsz g1 g2 q1 q2 q3 q4 => ?_
      · obtain ⟨t, rfl⟩ := hi
        rw [q]
        have i2 := i2.isList
        refine tail_ok i2.typeIs slot_list_getitem.lookup ?_
        by_cases hk : 0 ≤ kk
        · exact wpAny_getItem_list i2 hk (by have := q3 hk; lia) (by rw [← q3 hk]; exact g1) (k v s.toks g2)
        · have q5 := q4 (by lia)
          exact wpAny_getItem_list_neg i2 (by lia) q5.2 (by lia) (by rw [← q5.1]; exact g1) (k v s.toks g2)
      · obtain ⟨t, rfl⟩ := hi
        rw [q]
        have it : IsTup s.heap p vs := i2
        refine tail_ok it.typeIs slot_tuple_getitem.lookup ?_
        exact getItem_tuple it (by by_cases hk : 0 ≤ kk <;> lia) (by by_cases hk : 0 ≤ kk <;> lia) q1 g1 (k v s.toks g2)
    | ref b =>
      refine bnd1 (show (tdAt σ.h a).bind _ = _ from h) fun es e h => bnd1 h fun kk h1 h2 => ?_
      obtain ⟨hd, e⟩ := td_of e
      obtain ⟨p, hp, rfl⟩ := ho; obtain ⟨q, hq, rfl⟩ := hi
      refine Rep.at' R e hp fun ob i1 i3 hob => ?_
      obtain ⟨xs, ep, i4, i5⟩ := hob
      have D := dictH R i3 i4 i5
      obtain ⟨z, z1, z2⟩ := findT_at i5 h2
      exact tail_ok D.typeIs slot_dict_getitem.lookup (wpAny_getItem_heap (knd := tupleKind (strKind G.prog G.w)) (by show X.A.units + 1 < cLine; have := O.units; lia) (tupKey R h1 hq) D z1 (k _ _ z2))
    | _ => exact no_some h
  | str x => cases i with
    | int kk =>
      refine ifd (show (if 0 ≤ kk ∧ kk < x.length ∧ x.length ≤ szMax then _ else none) = _ from h) fun hc h => ?_
      cases h
      obtain ⟨t, rfl⟩ := ho; obtain ⟨u, rfl⟩ := hi
      simp only [szMax] at hc
      refine tail_ok (typeIs_str s x t) F.slot_str_getitem.lookup (getItem_str (c := x.cps.getD kk.toNat 0) ?_ ?_ (k _ _ ⟨_, rfl⟩))
      · simp; lia
      · unfold seqIndex?
        have h1 : ¬ kk < 0 := by lia
        simp only [h1, if_false]
        rw [if_pos (by simp; lia)]
        have : kk.toNat < x.cps.size := by have : (x.length : Int) = x.cps.size := rfl; lia
        simp [this]
    | _ => exact no_some h
  | _ => exact no_some h
theorem putI_stored {es : List (Int × AV)} {kvs : List (Int × Value)} {kk : Int} {v : AV} {vv : Value} (l : L2 (fun p q => p.1 = q.1 ∧ VR G led p.2 q.2) es kvs) (hv : VR G led v vv) :
    L2 (fun p q => p.1 = q.1 ∧ VR G led p.2 q.2) (putI kk v es) (stored kvs kk vv) := by
  have hany : es.any (fun p => p.1 = kk) = kvs.any (fun p => p.1 = kk) := by
    induction l with
    | nil => rfl
    | cons h1 h2 ih => simp only [List.any_cons, h1.1, ih]
  unfold putI stored
  rw [hany]
  split
  · rename_i hh
    clear hany hh
    induction l with
    | nil => exact .nil
    | cons h1 h2 ih =>
      refine .cons ?_ ih
      dsimp only
      rw [h1.1]
      split
      · exact ⟨rfl, hv⟩
      · exact h1
  · exact l.append (.cons ⟨rfl, hv⟩ .nil)
theorem putT_stored {hp : List AO} {es : List ((Str × Str) × Nat × AV)} {xs : List (List Str × Addr × Value)} {kk : Str × Str} {b : Nat} {ab : Addr} {v : AV} {vv : Value} (l : L2 (TR G hp led) es xs) (hk : keyT hp b = some kk)
    (hb : adr led b = some ab) (hv : VR G led v vv) : L2 (TR G hp led) (putT kk b v es) (storedH xs [kk.1, kk.2] ab vv) := by
  have hkey : ∀ {p x}, TR G hp led p x → (p.1 = kk ↔ x.1 = [kk.1, kk.2]) := fun {p x} h => by
    rw [h.1]
    constructor
    · intro e; rw [e]
    · intro e; simp at e; exact Prod.ext e.1 e.2
  have hany : es.any (fun p => p.1 = kk) = (atKey xs [kk.1, kk.2]).isSome := by
    clear hk hb hv
    induction l with
    | nil => rfl
    | cons h1 h2 ih =>
      rename_i a b l m
      simp only [List.any_cons, ih, atKey, List.find?_cons]
      by_cases hq : a.1 = kk
      · simp [hq, (hkey h1).mp hq]
      · have : ¬ b.1 = [kk.1, kk.2] := fun z => hq ((hkey h1).mpr z)
        simp [hq, this]
  unfold putT storedH
  rw [hany]
  split
  · rename_i hh
    clear hany hh
    induction l with
    | nil => exact .nil
    | cons h1 h2 ih =>
      rename_i a b l m
      refine .cons ?_ ih
      dsimp only [putAt]
      by_cases hq : a.1 = kk
      · rw [if_pos hq, if_pos ((hkey h1).mp hq)]
        exact ⟨h1.1, h1.2.1, h1.2.2.1, hv⟩
      · rw [if_neg hq, if_neg fun z => hq ((hkey h1).mpr z)]
        exact h1
  · exact l.append (.cons ⟨rfl, hk, hb, hv⟩ .nil)
theorem slice_pick {lo hi : AV} {vlo vhi : Value} {xs ys : List AV} {vs : Array Value} (h : sliceL lo hi xs = some ys) (hl : VR G led lo vlo) (hh : VR G led hi vhi) (hv : L2 (VR G led) xs vs.toList) :
    ∃ a b, IsPart vlo a ∧ IsPart vhi b ∧ L2 (VR G led) ys (slicePick vs a b none).toList := by
  cases lo with
  | none => cases hi with
    | int b =>
      refine ifd (show (if 0 ≤ b then _ else none) = _ from h) fun hb h => ?_
      cases h; cases hl; obtain ⟨t, rfl⟩ := hh
      refine ⟨none, some b, .none, .int b t, ?_⟩
      obtain ⟨n, rfl⟩ := Int.eq_ofNat_of_zero_le hb
      rw [slicePick_upto']
      exact hv.take _
    | _ => exact no_some h
  | int a => cases hi with
    | none =>
      refine ifd (show (if 0 ≤ a then _ else none) = _ from h) fun hb h => ?_
      cases h; cases hh; obtain ⟨t, rfl⟩ := hl
      refine ⟨some a, none, .int a t, .none, ?_⟩
      obtain ⟨n, rfl⟩ := Int.eq_ofNat_of_zero_le hb
      rw [slicePick_from']
      exact hv.drop _
    | int b =>
      refine ifd (show (if 0 ≤ a ∧ 0 ≤ b then _ else none) = _ from h) fun hb h => ?_
      cases h; obtain ⟨t, rfl⟩ := hl; obtain ⟨u, rfl⟩ := hh
      refine ⟨some a, some b, .int a t, .int b u, ?_⟩
      obtain ⟨n, rfl⟩ := Int.eq_ofNat_of_zero_le hb.1
      obtain ⟨m, rfl⟩ := Int.eq_ofNat_of_zero_le hb.2
      rw [slicePick_plain]
      simp only [Option.elim, clipAt_nat, Int.toNat_natCast]
      have := (hv.take m).drop n
      have e : (vs.toList.take m).drop n = (vs.toList.drop (min n vs.size)).take (min m vs.size - min n vs.size) := by
        rw [List.drop_take]
        rcases Nat.le_total n vs.size with q | q
        · rw [Nat.min_eq_left q]
          rcases Nat.le_total m vs.size with q' | q'
          · rw [Nat.min_eq_left q']
          · rw [Nat.min_eq_right q', List.take_of_length_le (i := m - n) (by simp; lia), List.take_of_length_le (by simp)]
        · rw [Nat.min_eq_right q, List.drop_of_length_le (by simpa using q), List.drop_of_length_le (by simp)]; simp
      rw [← e]; exact this
    | _ => exact no_some h
  | _ => exact no_some h
theorem sub_slice_tail {value : Expr} {lower upper : Option Expr} {p : Pos} {o i : Value} {Q : Value → Shared → Prop} (hT : s.TypeIs o "list") (h : wpAny (model G.prog G.w) X.A (getItem o i) Q E s) :
    wpAny (model G.prog G.w) X.A (subscriptTail value (.Slice lower upper none p) o i) Q E s := tail_any (ops := [i, o]) hT slot_list_getitem.lookup h rfl
theorem slice_ok {o lo hi r : AV} {vo vlo vhi : Value} {σ' : St} {value : Expr} {lower upper : Option Expr} {p : Pos} {Q : Value → Shared → Prop} (h : slice o lo hi σ = some (r, σ')) (R : Rep G X led σ s.heap)
    (ho : VR G led o vo) (hl : VR G led lo vlo) (hh : VR G led hi vhi)
    (k : KV G X led σ σ' r s Q) :
    wpAny (model G.prog G.w) X.A (subscriptTail value (.Slice lower upper none p) vo (.ref s.heap.objs.size)) Q E { s with heap := s.heap.push { cls := .type "slice", data := .fields #[vlo, vhi, .none] } } := by
  cases o with
  | ref a =>
    refine bnd1 (show (listAt σ.h a).bind _ = _ from h) fun xs e h => ifd h fun hsz h => mpd h fun ys h1 h2 => list_vr R e ho fun p' vs q _ i2 i3 => ?_
    have k := k.eqp h2
    rw [q]
    have i2 := i2.isList
    obtain ⟨la, lb, g1, g2, g3⟩ := slice_pick h1 hl hh i3
    have hs : vs.size ≤ sizeLine := by
      have : xs.length = vs.size := i3.length.trans Array.length_toList
      rw [sizeLine_eq, ← this]; exact Nat.le_trans hsz (Nat.le_of_ble_eq_true rfl)
    obtain ⟨x1, x2, x3⟩ := R.alloc (ao := .junk) (h' := s.heap.push { cls := .type "slice", data := .fields #[vlo, vhi, .none] }) (fun b o e => Heap.get?_push_of_some _ e) (Nat.le_refl _) (Heap.get?_push_size _ rfl) trivial
    refine sub_slice_tail (i2.push _).typeIs (wpAny_getItem_list_slice (i2.push _) (Heap.IsSliceOf.new ..) g1 g2 .none (by simp) ?_ hs)
    have E2 := x2.app (.list ys) ((s.heap.push { cls := .type "slice", data := .fields #[vlo, vhi, .none] }).objs.size, { cls := .type "list", data := .seq (slicePick vs la lb none) })
    obtain ⟨y1, y2, y3⟩ := x2.alloc (ao := .list ys) (h' := (s.heap.push { cls := .type "slice", data := .fields #[vlo, vhi, .none] }).push { cls := .type "list", data := .seq (slicePick vs la lb none) })
      (fun b o e => Heap.get?_push_of_some _ e) (Nat.le_refl _) (Heap.get?_push_size _ rfl) ⟨rfl, rfl, _, 0, rfl, g3.mono fun _ _ w => (w.ext x1).ext E2⟩
    refine k _ _ _ _ (x1.trans y1) y2 ⟨_, ?_, rfl⟩
    have : (σ.alloc .junk).h.length = σ.h.length + 1 := List.length_append
    rw [← this]; exact y3
  | _ => exact no_some h
theorem setL_ok {a : Nat} {kk : Int} {xs : List AV} {v : AV} {vo vv : Value} {t : Tok} {σ' : St} {Q : Unit → Shared → Prop} (e : listAt σ.h a = some xs) (h : (if xs.length ≤ szMax ∧ 0 ≤ kk ∧ kk < xs.length then some (σ.put a (.list (xs.set kk.toNat v))) else none) = some σ') (R : Rep G X led σ s.heap) (ho : VR G led (.ref a) vo) (hv : VR G led v vv)
    (k : KU G X led σ σ' s Q) :
    wpAny (model G.prog G.w) X.A (PySem.setItem vo (.int kk t) vv) Q E s := by
  refine ifd h fun hc h => list_vr R e ho fun p vs q i1 i2 i3 => ?_
  have k := k.eq h
  rw [q]
  simp only [szMax] at hc
  have hn : xs.length = vs.size := i3.length.trans Array.length_toList
  rw [hn] at hc
  refine setItem_list i2 hc.2.1 (by lia) hc.2.2 fun h' hl hs => ?_
  obtain ⟨led', z1, z2, z3⟩ := R.putList (ys := xs.set kk.toNat v) (list_of e) i1 hs.extBut hl (by rw [Array.toList_setIfInBounds]; exact i3.set _ hv)
  exact k _ _ _ z1 z2
theorem setD_ok {a : Nat} {kk : Int} {es : List (Int × AV)} {v : AV} {vo vv : Value} {t : Tok} {σ' : St} {Q : Unit → Shared → Prop} (e : σ.h[a]? = some (.idict es)) (h : (if es.length ≤ szMax then some (σ.put a (.idict (putI kk v es))) else none) = some σ') (R : Rep G X led σ s.heap) (ho : VR G led (.ref a) vo) (hv : VR G led v vv)
    (k : KU G X led σ σ' s Q) :
    wpAny (model G.prog G.w) X.A (PySem.setItem vo (.int kk t) vv) Q E s := by
  refine ifd h fun hc h => ?_
  have k := k.eq h
  obtain ⟨q, hq, rfl⟩ := ho
  refine Rep.at' R e hq fun ob i1 i3 hob => ?_
  obtain ⟨kvs, ⟨hx, es', ep, q1, q2, q3, q4⟩, i5⟩ := hob
  have D : Heap.DictOf (intKind G.prog G.w) s.heap q kvs := ⟨ob, es', ep, i3, hx, q1, q2, q3, q4⟩
  refine wpAny_setItem_pairs (knd := intKind G.prog G.w) (k := kk) (by simp [intKind, Value.isInt]) D (fun h' hD hs => ?_) (by rw [sizeLine_eq, ← i5.length]; exact Nat.le_trans hc (Nat.le_of_ble_eq_true rfl))
  obtain ⟨ob', es2, ep2, g1, g2, g3, g4, g5, g6⟩ := hD
  obtain ⟨z1, z2⟩ := R.put (ao := .idict (putI kk v es)) e hq rfl hs.extBut g1 fun hp led' x _ _ => ⟨_, ⟨g2, es2, ep2, g3, g4, g5, g6⟩, (putI_stored i5 hv).mono fun _ _ w => ⟨w.1, w.2.ext x⟩⟩
  exact k _ _ _ z1 z2
theorem setE_ok {a b : Nat} {kk : Str × Str} {es : List (Int × AV)} {v : AV} {vo vi vv : Value} {σ' : St} {Q : Unit → Shared → Prop} (O : Ok G X d) (e : σ.h[a]? = some (.idict es)) (hk : keyT σ.h b = some kk) (h : (if es.isEmpty = true then some (σ.put a (.tdict [(kk, b, v)] false)) else none) = some σ') (R : Rep G X led σ s.heap) (ho : VR G led (.ref a) vo) (hi : VR G led (.ref b) vi) (hv : VR G led v vv)
    (k : KU G X led σ σ' s Q) :
    wpAny (model G.prog G.w) X.A (PySem.setItem vo vi vv) Q E s := by
  refine ifd h fun hc h => ?_
  have k := k.eq h
  rw [List.isEmpty_iff] at hc
  subst hc
  obtain ⟨q, hq, rfl⟩ := ho; obtain ⟨qb, hqb, rfl⟩ := hi
  refine Rep.at' R e hq fun ob i1 i3 hob => ?_
  obtain ⟨kvs, ⟨hx, es', ep, q1, q2, q3, q4⟩, i5⟩ := hob
  cases i5
  have hz : es'.toList = [] := by generalize es'.toList = l at q3; cases q3; rfl
  have D : Heap.DictOfH (tupleKind (PySem.strKind G.prog G.w)) s.heap q [] := ⟨ob, es', ep, i3, hx, q1, hz, fun x hx => (nomatch hx), List.nodup_nil⟩
  refine wpAny_setItem_heap (knd := tupleKind (PySem.strKind G.prog G.w)) (k := [kk.1, kk.2]) (by show X.A.units + 1 < cLine; have := O.units; lia) (tupKey R hk hqb) D (fun h' hD hs => ?_) (by simp)
  obtain ⟨ob', es2, ep2, g1, g2, g3, g4, g5, g6⟩ := hD
  obtain ⟨z1, z2⟩ := R.put (ao := .tdict [(kk, b, v)] false) e hq rfl hs.extBut g1 fun hp led' x e1 e2 => ⟨_, ep2, ⟨g2, es2, g3, g4, g6⟩, .cons ⟨rfl, keyT_ext x hk, x.ad _ _ hqb, hv.ext x⟩ .nil⟩
  exact k _ _ _ z1 z2
theorem setT_ok {a b : Nat} {kk : Str × Str} {es : List ((Str × Str) × Nat × AV)} {held : Bool} {v : AV} {vo vi vv : Value} {σ' : St} {Q : Unit → Shared → Prop} (O : Ok G X d) (e : σ.h[a]? = some (.tdict es held)) (hk : keyT σ.h b = some kk) (h : (if held = false ∧ es.length ≤ szMax then some (σ.put a (.tdict (putT kk b v es) false)) else none) = some σ') (R : Rep G X led σ s.heap) (ho : VR G led (.ref a) vo) (hi : VR G led (.ref b) vi) (hv : VR G led v vv)
    (k : KU G X led σ σ' s Q) :
    wpAny (model G.prog G.w) X.A (PySem.setItem vo vi vv) Q E s := by
  refine ifd h fun hc h => ?_
  have k := k.eq h
  obtain ⟨hh, hc⟩ := hc
  subst hh
  obtain ⟨q, hq, rfl⟩ := ho; obtain ⟨qb, hqb, rfl⟩ := hi
  refine Rep.at' R e hq fun ob i1 i3 hob => ?_
  obtain ⟨xs, ep, i4, i5⟩ := hob
  have D := dictH R i3 i4 i5
  refine wpAny_setItem_heap (knd := tupleKind (PySem.strKind G.prog G.w)) (k := [kk.1, kk.2]) (by show X.A.units + 1 < cLine; have := O.units; lia) (tupKey R hk hqb) D (fun h' hD hs => ?_) (by rw [sizeLine_eq, ← i5.length]; exact Nat.le_trans hc (Nat.le_of_ble_eq_true rfl))
  obtain ⟨ob', es2, ep2, g1, g2, g3, g4, g5, g6⟩ := hD
  obtain ⟨z1, z2⟩ := R.put (ao := .tdict (putT kk b v es) false) e hq rfl hs.extBut g1 fun hp led' x e1 e2 => ⟨_, ep2, ⟨g2, es2, g3, g4, g6⟩, (putT_stored i5 hk hqb hv).mono fun _ _ w => ⟨w.1, keyT_ext x w.2.1, x.ad _ _ w.2.2.1, w.2.2.2.ext x⟩⟩
  exact k _ _ _ z1 z2
theorem setItem_ok {o i v : AV} {vo vi vv : Value} {σ' : St} {Q : Unit → Shared → Prop} (O : Ok G X d) (h : setItem o i v σ = some σ') (R : Rep G X led σ s.heap) (ho : VR G led o vo) (hi : VR G led i vi) (hv : VR G led v vv)
    (k : KU G X led σ σ' s Q) :
    wpAny (model G.prog G.w) X.A (PySem.setItem vo vi vv) Q E s := by
  cases o with
  | ref a => cases i with
    | int kk =>
      have h : setI a kk v σ = some σ' := h
      unfold setI at h
      obtain ⟨t, rfl⟩ := hi
      cases e : σ.h[a]? with
      | none => rw [e] at h; exact no_some h
      | some ao =>
        rw [e] at h
        cases ao with
        | list xs => exact setL_ok (show listAt σ.h a = some xs by unfold listAt; rw [e]) h R ho hv k
        | idict es => exact setD_ok e h R ho hv k
        | _ => exact no_some h
    | ref b =>
      refine bnd1 (show (keyT σ.h b).bind _ = _ from h) fun kk hk h => ?_
      unfold setT at h
      cases e : σ.h[a]? with
      | none => rw [e] at h; exact no_some h
      | some ao =>
        rw [e] at h
        cases ao with
        | idict es => exact setE_ok O e hk h R ho hi hv k
        | tdict es held => exact setT_ok O e hk h R ho hi hv k
        | _ => exact no_some h
    | _ => exact no_some h
  | _ => exact no_some h
end
end Mine.S
end
section
open PySem PySem.W PyProof.Rows PySem.Calls
namespace Mine.S
section
variable {G : Gl} {X : CX} {P : Prog} {d : Nat} {led : Led} {σ : St} {s : Shared} {E : Value → Shared → Prop}
theorem beqStr (a b : Str) : (a == b) = decide (a = b) := by rw [Bool.eq_iff_iff]; simp
theorem getF_getL {x : Str} {fs : List (Str × AV)} {es : List DictEntry} (l : L2 (fun p e => (∃ t, e.key = Value.str p.1 t) ∧ VR G led p.2 e.val) fs es) :
    (∀ v, getF x fs = some v → ∃ rv, getL x es = some (some rv) ∧ VR G led v rv) ∧ (getF x fs = none → getL x es = some none) ∧ (getL x es).isSome = true := by
  have nk : es.any (·.refKey) = false := by
    induction l with
    | nil => rfl
    | cons h1 h2 ih =>
      obtain ⟨⟨t, e⟩, _⟩ := h1
      rw [List.any_cons, ih]
      simp [DictEntry.refKey, e]
  have key : getL x es = some ((es.find? (·.key.isStr x)).map (·.val)) := by
    unfold getL
    cases es.find? (·.key.isStr x) with
    | none => rw [if_neg (by rw [nk]; decide)]; rfl
    | some e => rfl
  rw [key]
  refine ⟨fun v hv => ?_, fun hv => ?_, rfl⟩
  · clear key nk
    induction l with
    | nil => cases hv
    | cons h1 h2 ih =>
      rename_i p e l m
      obtain ⟨⟨t, he⟩, hr⟩ := h1
      simp only [List.find?_cons]
      have hs : e.key.isStr x = decide (p.1 = x) := by rw [he]; simp [Value.isStr, beqStr]
      rw [hs]
      unfold getF at hv
      by_cases hp : p.1 = x
      · rw [if_pos hp] at hv; cases hv
        simp [hp]; exact hr
      · rw [if_neg hp] at hv
        simp only [hp, decide_false]
        exact ih hv
  · clear key nk
    induction l with
    | nil => rfl
    | cons h1 h2 ih =>
      rename_i p e l m
      obtain ⟨⟨t, he⟩, hr⟩ := h1
      simp only [List.find?_cons]
      have hs : e.key.isStr x = decide (p.1 = x) := by rw [he]; simp [Value.isStr, beqStr]
      rw [hs]
      unfold getF at hv
      by_cases hp : p.1 = x
      · rw [if_pos hp] at hv; cases hv
      · rw [if_neg hp] at hv
        simp only [hp, decide_false]
        exact ih hv
theorem inst_of {a c dd : Nat} {fs : List (Str × AV)} (R : Rep G X led σ s.heap) (e : σ.h[a]? = some (.inst c dd)) (e2 : σ.h[dd]? = some (.flds fs)) :
    ∃ x dx es n, adr led a = some x ∧ adr led dd = some dx ∧ InstAt s.heap x (instObj (G.ca c) dx) (G.ca c) (some (dictOf es n)) ∧ s.heap.get? dx = some (dictOf es n) ∧ L2 (fun p e => (∃ t, e.key = Value.str p.1 t) ∧ VR G led p.2 e.val) fs es := by
  obtain ⟨x, ob, i1, i2, i3, dx, i4, rfl⟩ := R.at e
  refine Rep.at' R e2 i4 fun ob' j1 j3 hob => ?_
  obtain ⟨es, n, rfl, j4⟩ := hob
  exact ⟨x, dx, es, n, i2, i4, ⟨i3, rfl, rfl, j3⟩, j3, j4⟩
theorem inst_at_of {h : List AO} {o : AV} {q : Nat × Nat × Nat} (e : instAt h o = some q) : o = .ref q.1 ∧ h[q.1]? = some (.inst q.2.1 q.2.2) := by
  cases o with
  | ref a =>
    have e : (match h[a]? with | some (AO.inst c d) => some (a, c, d) | _ => none) = some q := e
    generalize z : h[a]? = ao at e
    cases ao with
    | none => exact no_some e
    | some ao =>
      cases ao with
      | inst c d => cases e; exact ⟨rfl, z⟩
      | _ => exact no_some e
  | _ => exact no_some e
theorem attr_ok {o r : AV} {x : Str} {vo : Value} {expr : Bool} {Q : Value → Shared → Prop} (O : Ok G X d) (PK : ProgOK G P) (h : attr P o x σ = some r) (R : Rep G X led σ s.heap) (ho : VR G led o vo)
    (k : ∀ v tk, VR G led r v → Q v { s with toks := tk }) : wpAny (model G.prog G.w) X.A (getAttr vo x expr) Q E s := by
  refine bnd1 (show (instAt σ.h o).bind _ = _ from h) fun q e h => bnd1 h fun kc e1 h => bnd1 h fun fs e2 h => ifd h fun hc h => bnd1 h fun w hg hn => ?_
  obtain ⟨a, c, dd⟩ := q
  obtain ⟨ho', e'⟩ := inst_at_of e
  rw [ho'] at ho
  have hw : w = r := by cases w <;> first | exact Option.some.inj hn | exact no_some hn
  subst hw
  obtain ⟨q, hq, rfl⟩ := ho
  obtain ⟨y, dx, es, n, g1, g2, g3, g4, g5⟩ := inst_of R e' (flds_of e2)
  obtain rfl : y = q := Option.some.inj (g1.symm.trans hq)
  obtain ⟨m, F, _⟩ := R.fr
  have C := PK.cls c kc e1
  obtain ⟨rv, w1, w2⟩ := (getF_getL (x := x) g5).1 w hg
  refine get_own F O.kin g3 (C.pget x) C.hasD (C.attr x hc).1 rfl w1 ?_ (k _ _ w2)
  cases w with
  | bltn id => exact no_some hn
  | none => cases w2; rfl
  | bool b => cases w2; rfl
  | int i => obtain ⟨t, rfl⟩ := w2; rfl
  | str i => obtain ⟨t, rfl⟩ := w2; rfl
  | ref i => obtain ⟨t, _, rfl⟩ := w2; rfl
  | typ n => cases w2; rfl
  | fn n => cases w2; rfl
  | cls n => cases w2; rfl
theorem putF_putL {x : Str} {v : AV} {rv key : Value} {hsh : Int} {t : Tok} {fs : List (Str × AV)} {es : List DictEntry} (l : L2 (fun p e => (∃ t, e.key = Value.str p.1 t) ∧ VR G led p.2 e.val) fs es) (hk : key = .str x t)
    (hv : VR G led v rv) : L2 (fun p e => (∃ t, e.key = Value.str p.1 t) ∧ VR G led p.2 e.val) (putF x v fs) (putL x hsh key rv es) := by
  induction l with
  | nil => exact .cons ⟨⟨t, hk⟩, hv⟩ .nil
  | cons h1 h2 ih =>
    rename_i p e l m
    obtain ⟨⟨t', he⟩, hr⟩ := h1
    have hs : e.key.isStr x = decide (p.1 = x) := by rw [he]; simp [Value.isStr, beqStr]
    simp only [putF, putL, hs, decide_eq_true_eq]
    by_cases hp : p.1 = x
    · rw [if_pos hp, if_pos hp]
      exact .cons ⟨⟨t', he⟩, hv⟩ h2
    · rw [if_neg hp, if_neg hp]
      exact .cons ⟨⟨t', he⟩, hr⟩ ih
theorem putF_len (x : Str) (v : AV) : ∀ fs : List (Str × AV), (putF x v fs).length ≤ fs.length + 1
  | [] => by simp [putF]
  | (y, w) :: r => by
    unfold putF
    split
    · simp
    · have := putF_len x v r; simp; lia
theorem setAttr_ok {o v : AV} {x : Str} {vo vv : Value} {σ' : St} {Q : Unit → Shared → Prop} (O : Ok G X d) (PK : ProgOK G P) (h : setAttr P o x v σ = some σ') (R : Rep G X led σ s.heap) (ho : VR G led o vo) (hv : VR G led v vv)
    (k : KU G X led σ σ' s Q) : wpAny (model G.prog G.w) X.A (PySem.setAttr vo x vv) Q E s := by
  refine bnd1 (show (instAt σ.h o).bind _ = _ from h) fun q e h => bnd1 h fun kc e1 h => bnd1 h fun fs e2 h => ifd h fun hc h => ?_
  obtain ⟨a, c, dd⟩ := q
  obtain ⟨ho', e'⟩ := inst_at_of e
  rw [ho'] at ho
  have k := k.eq h
  obtain ⟨q, hq, rfl⟩ := ho
  obtain ⟨y, dx, es, n, g1, g2, g3, g4, g5⟩ := inst_of R e' (flds_of e2)
  obtain rfl : y = q := Option.some.inj (g1.symm.trans hq)
  obtain ⟨m, F, q⟩ := R.fr
  have C := PK.cls c kc e1
  obtain ⟨ob', j1, jm⟩ := adr_mem g2
  have hob : ob' = dictOf es n := by have := (R.news _ jm).1; rw [g4] at this; exact (Option.some.inj this).symm
  subst hob
  have z := putF_putL (x := x) (v := v) (hsh := PyData.keyHash G.w.params x) (key := .str x (s.toks + 1)) g5 rfl hv
  refine PySem.W.set_dict F O.kin R.news g3 rfl C.sett C.over (C.attr x hc.1).2 C.hasD (getF_getL g5).2.2 rfl (upd_of R.nodup j1) (by rw [← z.length]; have := putF_len x v fs; lia) fun h' F' N' => ?_
  obtain ⟨z1, z2⟩ := R.put2 (ao := .flds (putF x v fs)) q (flds_of e2) g2 rfl F' N' fun hp led' x _ _ => ⟨_, _, rfl, z.mono fun _ _ w => ⟨w.1, w.2.ext x⟩⟩
  exact k _ _ _ z1 z2
end
end Mine.S
end
section
open PySem PySem.W PyProof.Rows PySem.Calls
namespace Mine.S
section
variable {prog : Program} {w : World} {A : Around} {E : Value → Shared → Prop} {s : Shared}
theorem pyIterD {d : Addr} {o : Obj} {es : Array DictEntry} {ep : Nat} {Q : Value → Shared → Prop} (hd : (d == sysModules) = false) (ho : s.heap.get? d = some o) (hx : o.ExactDict) (hdat : o.data = .dict es ep)
    (hQ : Q (.ref s.heap.objs.size) { s with heap := s.heap.push { cls := .type "dict_keyiterator", data := .fields #[.ref d, .int 0 0, .int es.size 0, .int ep 0] } }) :
    wpAny (model prog w) A (pyIter (.ref d)) Q E s := by
  have hT : s.TypeIs (.ref d) "dict" := ⟨o, ho, hx.1⟩
  refine wpAny_pyIter_slot hT F.slot_dict_iter (wpAny_call_entry F.slot_dict_iter hT F.entry_dict_iter ?_ (F.args_dict_iter_1 _))
  unfold Builtin.«dict.__iter__»
  refine wpAny_bind ?_
  unfold Builtin.Dict.dictSlotNone
  refine wpAny_bind (wpAny_notOrdered_dict hT ?_)
  show wpAny _ _ (pure (Value.ref d)) _ _ s
  refine wpAny_pure ?_
  show wpAny _ _ (Builtin.Dict.showsAll d >>= _) _ _ s
  unfold Builtin.Dict.showsAll
  rw [if_neg (by rw [hd]; exact Bool.false_ne_true)]
  refine wpAny_bind (wpAny_pure ?_)
  refine wpAny_bind (wpAny_dictEntries ho hdat ?_)
  refine wpAny_bind (wpAny_dictEpoch ho hdat ?_)
  refine wpAny_bind (wpAny_newObj_type (wpAny_pure ⟨_, rfl, "dict_keyiterator", _, ⟨_, Heap.get?_push_size _ rfl, rfl⟩, F.slot_dict_keyiterator_next.lookup, ?_⟩))
  simpa [rawInt] using hQ
theorem nextD_item {it d : Addr} {i ep : Nat} {o od : Obj} {es : Array DictEntry} {e : DictEntry} {Q : Option Value → Shared → Prop} (ho : s.heap.get? it = some o) (hc : o.cls = .type "dict_keyiterator")
    (hd : o.data = .fields #[.ref d, .int i 0, .int es.size 0, .int ep 0]) (hod : s.heap.get? d = some od) (hdd : od.data = .dict es ep) (hx : es[i]? = some e)
    (hQ : ∀ h' o', h'.get? it = some o' → o'.cls = .type "dict_keyiterator" → o'.data = .fields #[.ref d, .int (i + 1 : Nat) 0, .int es.size 0, .int ep 0] → Heap.SameBut it s.heap h' → Q (some e.key) { s with heap := h' }) :
    wpAny (model prog w) A (pyNext (.ref it)) Q E s := by
  have hT : s.TypeIs (.ref it) "dict_keyiterator" := ⟨o, ho, hc⟩
  unfold pyNext
  refine wpAny_bind (wpAny_attempt (wpAny_callSpecial?_slot (name := Str.ofString "__next__") hT F.slot_dict_keyiterator_next
    (wpAny_call_entry F.slot_dict_keyiterator_next hT F.entry_dict_keyiterator_next ?_ (F.args_dict_keyiterator_next_1 _))))
  refine wpAny_bind (wpAny_pure ?_)
  refine wpAny_bind ?_
  refine wpAny_bind ?_
  first | refine wpAny_bind (wpAny_typeNameOfWhole_keyiter hT (wpAny_pure ?_)) | refine wpAny_bind (wpAny_typeNameOf_keyiter hT (wpAny_pure ?_))
  refine wpAny_bind (wpAny_fieldsOf ho hd ?_)
  have hown : Builtin.Dict_items.ownsTuple "dict_keyiterator" = false := by decide
  simp -iota only [hown, Bool.false_eq_true, if_false]
  show wpAny _ _ (if (Value.ref d == Value.none) = true then _ else _) _ _ s
  rw [if_neg (show ¬ ((Value.ref d == Value.none) = true) from Bool.false_ne_true)]
  refine wpAny_bind (wpAny_pure ?_)
  refine wpAny_bind (wpAny_dictEntries hod hdd ?_)
  rw [if_neg (by simp)]
  refine wpAny_bind (wpAny_pure ?_)
  refine wpAny_bind (wpAny_dictEpoch hod hdd ?_)
  rw [if_neg (by simp)]
  refine wpAny_pure ?_
  simp only [show ¬ ((i : Int) < 0) from by lia, if_false, Int.toNat_natCast, hx]
  refine wpAny_bind ?_
  first | refine wpAny_bind (wpAny_typeNameOfWhole_keyiter hT (wpAny_pure ?_)) | refine wpAny_bind (wpAny_typeNameOf_keyiter hT (wpAny_pure ?_))
  refine wpAny_bind (wpAny_isOneOf_keyiter hT ?_)
  show wpAny _ _ (setField (.ref it) 1 (rawInt ((i : Int) + 1)) >>= _) _ _ s
  refine wpAny_bind (wpAny_setField ho hd (by simp) ?_)
  have hg := Heap.get?_update_self (Obj.mapFields (·.setIfInBounds 1 (rawInt ((i : Int) + 1)))) ho (Obj.isFreed_of_fields (Obj.data_mapFields hd _))
  have hcl : (Obj.mapFields (·.setIfInBounds 1 (rawInt ((i : Int) + 1))) o).cls = .type "dict_keyiterator" := (Obj.cls_mapFields ..).trans hc
  refine wpAny_bind (wpAny_holding ?_)
  refine wpAny_bind (wpAny_isOneOf_keyiter (s := { s with heap := s.heap.update it (Obj.mapFields (·.setIfInBounds 1 (rawInt ((i : Int) + 1)))) }) ⟨_, hg, hcl⟩ ?_)
  show wpAny _ _ (pure e.key) _ _ _
  exact wpAny_pure (wpAny_pure ⟨_, rfl, wpAny_pure (hQ _ _ hg hcl (by rw [Obj.data_mapFields hd]; simp [rawInt]) (Heap.SameBut.update ..))⟩)
theorem nextD_end {it d : Addr} {i ep : Nat} {o od : Obj} {es : Array DictEntry} {Q : Option Value → Shared → Prop} (hh : A.handled = none) (ho : s.heap.get? it = some o) (hc : o.cls = .type "dict_keyiterator")
    (hd : o.data = .fields #[.ref d, .int i 0, .int es.size 0, .int ep 0]) (hod : s.heap.get? d = some od) (hdd : od.data = .dict es ep) (hx : es[i]? = none)
    (hQ : ∀ h' o', h'.get? it = some o' → Heap.ExtBut it s.heap h' → Q none { s with heap := h' }) : wpAny (model prog w) A (pyNext (.ref it)) Q E s := by
  have hT : s.TypeIs (.ref it) "dict_keyiterator" := ⟨o, ho, hc⟩
  unfold pyNext
  refine wpAny_bind (wpAny_attempt (wpAny_callSpecial?_slot (name := Str.ofString "__next__") hT F.slot_dict_keyiterator_next
    (wpAny_call_entry F.slot_dict_keyiterator_next hT F.entry_dict_keyiterator_next ?_ (F.args_dict_keyiterator_next_1 _))))
  refine wpAny_bind (wpAny_pure ?_)
  refine wpAny_bind ?_
  refine wpAny_bind ?_
  first | refine wpAny_bind (wpAny_typeNameOfWhole_keyiter hT (wpAny_pure ?_)) | refine wpAny_bind (wpAny_typeNameOf_keyiter hT (wpAny_pure ?_))
  refine wpAny_bind (wpAny_fieldsOf ho hd ?_)
  have hown : Builtin.Dict_items.ownsTuple "dict_keyiterator" = false := by decide
  simp -iota only [hown, Bool.false_eq_true, if_false]
  show wpAny _ _ (if (Value.ref d == Value.none) = true then _ else _) _ _ s
  rw [if_neg (show ¬ ((Value.ref d == Value.none) = true) from Bool.false_ne_true)]
  refine wpAny_bind (wpAny_pure ?_)
  refine wpAny_bind (wpAny_dictEntries hod hdd ?_)
  rw [if_neg (by simp)]
  refine wpAny_bind (wpAny_pure ?_)
  refine wpAny_bind (wpAny_dictEpoch hod hdd ?_)
  rw [if_neg (by simp)]
  refine wpAny_pure ?_
  simp only [show ¬ ((i : Int) < 0) from by lia, if_false, Int.toNat_natCast, hx]
  refine wpAny_bind ?_
  first | refine wpAny_bind (wpAny_typeNameOfWhole_keyiter hT (wpAny_pure ?_)) | refine wpAny_bind (wpAny_typeNameOf_keyiter hT (wpAny_pure ?_))
  show wpAny _ _ (setField (.ref it) 0 .none >>= _) _ _ s
  refine wpAny_bind (wpAny_setField ho hd (by simp) ?_)
  show wpAny _ _ (newExc (.type "StopIteration") [] >>= _) _ _ _
  refine wpAny_bind ?_
  simp only [newExc, newTuple]
  refine wpAny_bind (wpAny_newObj_type ?_ (by size_fits))
  refine wpAny_bind (m := firstArgMember _ _) (wpAny_of_eq (a := Value.none) (by first | rfl | (simp only [firstArgMember]; rfl)) ?_)
  refine wpAny_newObj_type ?_ (by size_fits)
  simp -iota only [raiseNew]
  refine wpAny_bind (wpAny_handled ?_)
  rw [show A.in1.handled = none from hh]
  refine wpAny_bind (wpAny_pure (wpAny_throw ?_))
  refine wpAny_bind (wpAny_isInstance (T := "StopIteration") (b := true) ⟨_, Heap.get?_push_size _ rfl, rfl⟩ isSubtype_stop ?_)
  exact wpAny_pure (hQ _ _ (Heap.get?_push_of_some _ (Heap.get?_push_of_some _ (Heap.get?_update_self _ ho (Obj.isFreed_of_fields (Obj.data_mapFields hd _))))) (((Heap.SameBut.update ..).extBut.push _).push _))
theorem nextL_end {it l : Addr} {i : Nat} {items : Array Value} {Q : Option Value → Shared → Prop} (hh : A.handled = none)
    (hit : s.heap.IsListIter it l i) (hl : s.heap.IsList l items) (hx : items[i]? = none)
    (hQ : ∀ h' o', h'.get? it = some o' → Heap.ExtBut it s.heap h' → Q none { s with heap := h' }) : wpAny (model prog w) A (pyNext (.ref it)) Q E s := by
  obtain ⟨o, ho, hc, hd⟩ := id hit
  obtain ⟨ol, hol, _, nl, hdl⟩ := hl
  unfold pyNext
  refine wpAny_bind (wpAny_attempt (wpAny_callSpecial?_slot (name := Str.ofString "__next__") hit.typeIs slot_listiter_next
    (wpAny_call_entry slot_listiter_next hit.typeIs entry_listiter_next ?_ (args_listiter_next _))))
  show wpAny _ _ (field (.ref it) 0 >>= _) _ _ s
  refine wpAny_bind (wpAny_field ho hd (x := .ref l) rfl ?_)
  show wpAny _ _ (if (Value.ref l == Value.none) = true then _ else _) _ _ s
  rw [if_neg (show ¬ ((Value.ref l == Value.none) = true) from Bool.false_ne_true)]
  show wpAny _ _ (field (.ref it) 1 >>= _) _ _ s
  refine wpAny_bind (wpAny_field ho hd (x := .int i 0) rfl ?_)
  show wpAny _ _ (seqItems? (.ref l) >>= _) _ _ s
  refine wpAny_bind (wpAny_seqItems hol hdl ?_)
  simp only [Int.toNat_natCast, hx]
  refine wpAny_bind (wpAny_rule (wpAny_bind (wpAny_setField ho hd (by simp) ?_)))
  show wpAny _ _ (newExc (.type "StopIteration") [] >>= _) _ _ _
  refine wpAny_bind ?_
  simp only [newExc, newTuple]
  refine wpAny_bind (wpAny_newObj_type ?_ (by size_fits))
  refine wpAny_bind (m := firstArgMember _ _) (wpAny_of_eq (a := Value.none) (by first | rfl | (simp only [firstArgMember]; rfl)) ?_)
  refine wpAny_newObj_type ?_ (by size_fits)
  simp -iota only [raiseNew]
  refine wpAny_bind (wpAny_handled ?_)
  rw [show A.in1.handled = none from hh]
  refine wpAny_bind (wpAny_pure (wpAny_throw ?_))
  refine wpAny_bind (wpAny_isInstance (T := "StopIteration") (b := true) ⟨_, Heap.get?_push_size _ rfl, rfl⟩ isSubtype_stop ?_)
  exact wpAny_pure (hQ _ _ (Heap.get?_push_of_some _ (Heap.get?_push_of_some _ (Heap.get?_update_self _ ho (Obj.isFreed_of_fields (Obj.data_mapFields hd _))))) (((Heap.SameBut.update ..).extBut.push _).push _))
theorem nextR_end {it : Addr} {x left step : Int} {Q : Option Value → Shared → Prop} (hh : A.handled = none) (hit : IsRangeIter s.heap it x left step) (hleft : left ≤ 0)
    (hQ : ∀ h' o', h'.get? it = some o' → Heap.ExtBut it s.heap h' → Q none { s with heap := h' }) : wpAny (model prog w) A (pyNext (.ref it)) Q E s := by
  have hT : s.TypeIs (.ref it) "range_iterator" := ⟨_, hit, rfl⟩
  unfold pyNext
  refine wpAny_bind (wpAny_attempt (wpAny_callSpecial?_slot (name := Str.ofString "__next__") hT F.slot_range_iterator_next
    (wpAny_call_entry F.slot_range_iterator_next hT F.entry_range_iterator_next ?_ (F.args_range_iterator_next_1 _))))
  show wpAny _ _ (field (.ref it) 0 >>= _) _ _ s
  refine wpAny_bind (wpAny_field hit rfl (x := rawInt x) rfl ?_)
  show wpAny _ _ (field (.ref it) 1 >>= _) _ _ s
  refine wpAny_bind (wpAny_field hit rfl (x := rawInt left) rfl ?_)
  show wpAny _ _ (field (.ref it) 2 >>= _) _ _ s
  refine wpAny_bind (wpAny_field hit rfl (x := rawInt step) rfl ?_)
  show wpAny _ _ (if left ≤ 0 then _ else _) _ _ s
  rw [if_pos hleft]
  refine wpAny_bind (wpAny_rule ?_)
  refine wpAny_bind ?_
  show wpAny _ _ (newExc (.type "StopIteration") [] >>= _) _ _ _
  refine wpAny_bind ?_
  simp -iota only [newExc, newTuple]
  refine wpAny_bind (wpAny_newObj_type ?_ (by size_fits))
  refine wpAny_bind (m := firstArgMember _ _) (wpAny_of_eq (a := Value.none) (by first | rfl | (simp only [firstArgMember]; rfl)) ?_)
  refine wpAny_newObj_type ?_ (by size_fits)
  simp -iota only [raiseNew]
  refine wpAny_bind (wpAny_handled ?_)
  rw [show A.in1.handled = none from hh]
  refine wpAny_bind (wpAny_pure (wpAny_throw ?_))
  refine wpAny_bind (wpAny_isInstance (T := "StopIteration") (b := true) ⟨_, Heap.get?_push_size _ rfl, rfl⟩ isSubtype_stop ?_)
  exact wpAny_pure (hQ _ _ (Heap.get?_push_of_some _ (Heap.get?_push_of_some _ hit)) (((Heap.ExtBut.refl it s.heap).push _).push _))
end
section
variable {G : Gl} {X : CX} {P : Prog} {d : Nat} {led : Led} {σ : St} {s : Shared} {E : Value → Shared → Prop}
theorem small_range {n : Int} (h1 : -1000 ≤ n) (h2 : n ≤ 1000) : Builtin.Range.small 0 n 1 = true ∧ Builtin.Range.rangeSize 0 n 1 = if 0 < n then n else 0 := by
  have hz : Builtin.Range.rangeSize 0 n 1 = if 0 < n then n else 0 := by
    unfold Builtin.Range.rangeSize
    rw [if_pos (by decide)]
    split
    · rw [Int.ediv_one]; lia
    · rfl
  refine ⟨?_, hz⟩
  unfold Builtin.Range.small
  rw [hz]
  simp only [Builtin.Range.rangeFitsLong, Bool.and_eq_true, decide_eq_true_eq, Bool.or_eq_true, beq_iff_eq]
  split <;> simp <;> lia
theorem iterL_ok {a : Nat} {xs : List AV} {vo : Value} {Q : Value → Shared → Prop} (e : listAt σ.h a = some xs) (R : Rep G X led σ s.heap) (ho : VR G led (.ref a) vo)
    (k : KV G X led σ (σ.alloc (.liter a 0)) (.ref σ.h.length) s Q) :
    wpAny (model G.prog G.w) X.A (pyIter vo) Q E s := by
  refine list_vr R e ho fun p vs q i1 i2 i3 => ?_
  rw [q]
  refine wpAny_pyIter_list i2.isList ?_
  have E2 := R.app (.liter a 0) (s.heap.objs.size, { cls := .type "list_iterator", data := .fields #[.ref p, .int 0 0] })
  obtain ⟨z1, z2, z3⟩ := R.alloc (ao := .liter a 0) (h' := s.heap.push { cls := .type "list_iterator", data := .fields #[.ref p, .int 0 0] }) (fun b o e => Heap.get?_push_of_some _ e) (Nat.le_refl _) (Heap.get?_push_size _ rfl)
    ⟨p, E2.ad _ _ i1, rfl, rfl⟩
  exact k _ _ _ _ z1 z2 ⟨_, z3, rfl⟩
theorem iterR_ok {a : Nat} {n : Int} {vo : Value} {Q : Value → Shared → Prop} (e : σ.h[a]? = some (.rng n)) (hc : -1000 ≤ n ∧ n ≤ 1000) (R : Rep G X led σ s.heap) (ho : VR G led (.ref a) vo)
    (k : KV G X led σ (σ.alloc (.riter 0 (if 0 < n then n else 0))) (.ref σ.h.length) s Q) :
    wpAny (model G.prog G.w) X.A (pyIter vo) Q E s := by
  obtain ⟨q, hq, rfl⟩ := ho
  refine Rep.at' R e hq fun ob i1 i3 hob => ?_
  obtain ⟨t, u, v, rfl⟩ := hob
  obtain ⟨w1, w2⟩ := small_range hc.1 hc.2
  refine wpAny_pyIter_range i3 w1 ?_
  rw [w2]
  obtain ⟨z1, z2, z3⟩ := R.alloc (ao := .riter 0 (if 0 < n then n else 0)) (h' := s.heap.push { cls := .type "range_iterator", data := .fields #[rawInt 0, rawInt (if 0 < n then n else 0), rawInt 1] }) (fun b o e => Heap.get?_push_of_some _ e) (Nat.le_refl _) (Heap.get?_push_size _ rfl) rfl
  exact k _ _ _ _ z1 z2 ⟨_, z3, rfl⟩
theorem iterD_ok {a : Nat} {es : List ((Str × Str) × Nat × AV)} {vo : Value} {Q : Value → Shared → Prop} (e : σ.h[a]? = some (.tdict es false)) (R : Rep G X led σ s.heap) (ho : VR G led (.ref a) vo)
    (k : KV G X led σ ((σ.put a (.tdict es true)).alloc (.diter a 0 es.length)) (.ref (σ.put a (.tdict es true)).h.length) s Q) :
    wpAny (model G.prog G.w) X.A (pyIter vo) Q E s := by
  obtain ⟨q, hq, rfl⟩ := ho
  refine Rep.at' R e hq fun ob i1 i3 hob => ?_
  obtain ⟨xs, ep, i4, i5⟩ := hob
  obtain ⟨hx, es', g1, g2, g3⟩ := id i4
  have nm : (q == sysModules) = false := beq_eq_false_iff_ne.mpr (Nat.ne_of_gt (R.low _ (List.mem_of_getElem? i1)))
  have hsz : es'.size = es.length := by rw [← Array.length_toList, g2, List.length_map, i5.length]
  refine pyIterD nm i3 hx g1 ?_
  rw [hsz]
  obtain ⟨y1, y2⟩ := R.put (ao := .tdict es true) e hq rfl (Heap.ExtBut.refl _ _) i3 fun hp led' x _ _ => ⟨xs, ep, i4, i5.mono fun _ _ w => ⟨w.1, keyT_ext x w.2.1, x.ad _ _ w.2.2.1, w.2.2.2.ext x⟩⟩
  have q1 : (led.set a (q, ob))[a]? = some (q, ob) := List.getElem?_set_self (List.getElem?_eq_some_iff.mp i1).1
  have q2 : (σ.put a (.tdict es true)).h[a]? = some (.tdict es true) := List.getElem?_set_self (List.getElem?_eq_some_iff.mp e).1
  have E2 := y2.app (.diter a 0 es.length) (s.heap.objs.size, { cls := .type "dict_keyiterator", data := .fields #[.ref q, .int 0 0, .int es.length 0, .int ep 0] })
  obtain ⟨f1, f2⟩ := E2.fro a _ q2 rfl
  obtain ⟨z1, z2, z3⟩ := y2.alloc (ao := .diter a 0 es.length) (h' := s.heap.push { cls := .type "dict_keyiterator", data := .fields #[.ref q, .int 0 0, .int es.length 0, .int ep 0] }) (fun b o e => Heap.get?_push_of_some _ e) (Nat.le_refl _) (Heap.get?_push_size _ rfl)
    ⟨q, xs, ep, ob, es, f2.trans q1, f1, i4, rfl, rfl⟩
  exact k _ _ _ _ (y1.trans z1) z2 ⟨_, z3, rfl⟩
theorem iter_inv {a : Nat} {ao : AO} {σ₁ : St} {C : Prop} (h : iterAt a σ = some (ao, σ₁)) (k1 : ∀ xs, listAt σ.h a = some xs → ao = .liter a 0 → σ₁ = σ → C)
    (k2 : ∀ n, σ.h[a]? = some (.rng n) → -1000 ≤ n ∧ n ≤ 1000 → ao = .riter 0 (if 0 < n then n else 0) → σ₁ = σ → C) (k3 : ∀ es, σ.h[a]? = some (.tdict es false) → ao = .diter a 0 es.length → σ₁ = σ.put a (.tdict es true) → C) : C := by
  unfold iterAt at h
  cases e : σ.h[a]? with
  | none => rw [e] at h; exact no_some h
  | some o =>
    rw [e] at h
    cases o with
    | list xs => exact ifd h fun _ h => pr h fun q1 q2 => k1 xs (by unfold listAt; rw [e]) q1.symm q2.symm
    | rng n => exact ifd h fun hc h => pr h fun q1 q2 => k2 n e hc q1.symm q2.symm
    | tdict es held => exact ifd h fun hh h => pr h fun q1 q2 => k3 es (by rw [e, hh]) q1.symm q2.symm
    | _ => exact no_some h
theorem mkIter_ok {o r : AV} {vo : Value} {σ' : St} {Q : Value → Shared → Prop} (h : mkIter o σ = some (r, σ')) (R : Rep G X led σ s.heap) (ho : VR G led o vo)
    (k : KV G X led σ σ' r s Q) :
    wpAny (model G.prog G.w) X.A (pyIter vo) Q E s := by
  cases o with
  | ref a =>
    refine mpd (show (iterAt a σ).map _ = _ from h) fun q e h => ?_
    obtain ⟨ao, σ₁⟩ := q
    have k := k.eqp h
    refine iter_inv e (fun xs e2 q1 q2 => ?_) (fun n e2 hc q1 q2 => ?_) fun es e2 q1 q2 => ?_
    · subst q1 q2; exact iterL_ok e2 R ho k
    · subst q1 q2; exact iterR_ok e2 hc R ho k
    · subst q1 q2; exact iterD_ok e2 R ho k
  | _ => exact no_some h
noncomputable def NxR (G : Gl) (led : Led) : Option AV → Option Value → Prop
  | none, v => v = none
  | some a, v => ∃ x, v = some x ∧ VR G led a x
section
variable {r : Option AV} {j : Nat} {q : Addr} {σ' : St} {Q : Option Value → Shared → Prop} (O : Ok G X d) (R : Rep G X led σ s.heap) (ho : adr led j = some q)
    (k : ∀ v h' tk led', Ext σ.h led σ'.h led' → Rep G X led' σ' h' → NxR G led' r v → Q v { s with heap := h', toks := tk })
include O R ho k
theorem nextL_ok {a i : Nat} (e : σ.h[j]? = some (.liter a i)) (h : nextL j a i σ = some (r, σ')) : wpAny (model G.prog G.w) X.A (pyNext (.ref q)) Q E s := by
  refine Rep.at' R e ho fun ob i1 i3 hob => ?_
  obtain ⟨x, g1, g2, g3⟩ := hob
  refine bnd1 (show (listAt σ.h a).bind _ = _ from h) fun xs e2 h => ifd h fun hsz h => list_vr R e2 ⟨x, g1, rfl⟩ fun x' vs q0 _ l2 l3 => ?_
  cases q0
  have hit : s.heap.IsListIter q x i := ⟨ob, i3, g2, g3⟩
  cases hv : xs[i]? with
  | some v =>
    rw [hv] at h
    cases h
    obtain ⟨rv, w1, w2⟩ := l3.get hv
    rw [Array.getElem?_toList] at w1
    refine wpAny_pyNext_list_item hit l2.isList w1 fun h' hi hs => ?_
    obtain ⟨o', y1, y2, y3⟩ := hi
    obtain ⟨z1, z2⟩ := R.put (ao := .liter a (i + 1)) e ho rfl hs.extBut y1 fun hp led' y _ _ => ⟨x, y.ad _ _ g1, y2, y3⟩
    exact k _ _ s.toks _ z1 z2 ⟨_, rfl, w2.ext z1⟩
  | none =>
    rw [hv] at h
    cases h
    have w1 : vs[i]? = none := by
      rw [List.getElem?_eq_none_iff] at hv
      rw [Array.getElem?_eq_none_iff, ← l3.length.trans Array.length_toList]; exact hv
    refine nextL_end O.hh hit l2.isList w1 fun h' o' y1 hs => ?_
    obtain ⟨z1, z2⟩ := R.put (ao := .junk) e ho rfl hs y1 fun hp led' x _ _ => trivial
    exact k _ _ s.toks _ z1 z2 rfl
theorem nextR_ok {x l : Int} (e : σ.h[j]? = some (.riter x l)) (h : nextR j x l σ = some (r, σ')) : wpAny (model G.prog G.w) X.A (pyNext (.ref q)) Q E s := by
  refine Rep.at' R e ho fun ob i1 i3 hob => ?_
  obtain rfl := hob
  unfold nextR at h
  by_cases hl : 0 < l
  · rw [if_pos hl] at h
    cases h
    refine wpAny_pyNext_range_item i3 hl fun h' hi hs => ?_
    obtain ⟨z1, z2⟩ := R.put (ao := .riter (x + 1) (l - 1)) e ho rfl hs.extBut hi fun hp led' x _ _ => rfl
    exact k _ _ _ _ z1 z2 ⟨_, rfl, _, rfl⟩
  · rw [if_neg hl] at h
    cases h
    refine nextR_end O.hh i3 (Int.not_lt.mp hl) fun h' o' y1 hs => ?_
    obtain ⟨z1, z2⟩ := R.put (ao := .junk) e ho rfl hs y1 fun hp led' x _ _ => trivial
    exact k _ _ s.toks _ z1 z2 rfl
theorem nextD_ok {dd i n : Nat} (e : σ.h[j]? = some (.diter dd i n)) (h : nextD j dd i n σ = some (r, σ')) : wpAny (model G.prog G.w) X.A (pyNext (.ref q)) Q E s := by
  refine Rep.at' R e ho fun ob i1 i3 hob => ?_
  obtain ⟨x, xs, ep, od, es, g1, g2, ⟨hx, es', g3, g4, g5⟩, g6, g7⟩ := hob
  refine bnd1 (show (heldAt σ.h dd).bind _ = _ from h) fun es0 e2 h => ifd h fun hn h => ?_
  have e2 := held_of e2
  rw [g2] at e2
  cases e2
  obtain ⟨x', od', d1, d2, d3, xs', ep', d4, d5⟩ := R.at g2
  rw [g1] at d1; cases d1
  have hod := (R.news _ (List.mem_of_getElem? g1)).1
  obtain ⟨hx', es'', f1, f2, f3⟩ := d4
  rw [g3] at f1; cases f1
  have hsz : es'.size = n := by rw [← hn, d5.length, ← Array.length_toList, f2, List.length_map]
  cases hv : es[i]? with
  | some v =>
    rw [hv] at h
    cases h
    obtain ⟨y, y1, y2⟩ := d5.get hv
    have he : es'[i]? = some (entryOfKey (tupleKind (PySem.strKind G.prog G.w)) y) := by rw [← Array.getElem?_toList, f2, List.getElem?_map, y1]; rfl
    refine nextD_item i3 g6 (by rw [hsz]; exact g7) hod g3 he fun h' o' w1 w2 w3 hs => ?_
    have hf : ∀ hp led', Ext σ.h led hp led' → hp[dd]? = some (.tdict es true) ∧ led'[dd]? = some (x, od) := fun hp led' z => ⟨(z.fro _ _ g2 rfl).1, (z.fro _ _ g2 rfl).2.trans g1⟩
    obtain ⟨z1, z2⟩ := R.put (ao := .diter dd (i + 1) n) e ho rfl hs.extBut w1 fun hp led' z _ _ => ⟨x, xs, ep, od, es, (hf _ _ z).2, (hf _ _ z).1, ⟨hx, es', g3, g4, g5⟩, w2, by rw [w3, hsz]⟩
    exact k _ _ s.toks _ z1 z2 ⟨_, rfl, _, z1.ad _ _ y2.2.2.1, rfl⟩
  | none =>
    rw [hv] at h
    cases h
    have w1 : es'[i]? = none := by
      rw [List.getElem?_eq_none_iff] at hv
      rw [Array.getElem?_eq_none_iff, hsz, ← hn]; exact hv
    refine nextD_end O.hh i3 g6 (by rw [hsz]; exact g7) hod g3 w1 fun h' o' y1 hs => ?_
    obtain ⟨z1, z2⟩ := R.put (ao := .junk) e ho rfl hs y1 fun hp led' x _ _ => trivial
    exact k _ _ s.toks _ z1 z2 rfl
end
theorem next_ok {it : AV} {r : Option AV} {vit : Value} {σ' : St} {Q : Option Value → Shared → Prop} (O : Ok G X d) (h : next it σ = some (r, σ')) (R : Rep G X led σ s.heap) (ho : VR G led it vit)
    (k : ∀ v h' tk led', Ext σ.h led σ'.h led' → Rep G X led' σ' h' → NxR G led' r v → Q v { s with heap := h', toks := tk }) :
    wpAny (model G.prog G.w) X.A (pyNext vit) Q E s := by
  cases it with
  | ref j =>
    obtain ⟨q, hq, rfl⟩ := ho
    have h : nextAt j σ = some (r, σ') := h
    unfold nextAt at h
    cases e : σ.h[j]? with
    | none => rw [e] at h; exact no_some h
    | some o =>
      rw [e] at h
      cases o with
      | liter a i => exact nextL_ok O R hq k e h
      | riter x l => exact nextR_ok O R hq k e h
      | diter dd i n => exact nextD_ok O R hq k e h
      | _ => exact no_some h
  | _ => exact no_some h
end
end Mine.S
end
section
open PySem PySem.W PyProof.Rows PySem.Calls
namespace Mine.S
section
variable {prog : Program} {w : World} {A : Around} {E : Value → Shared → Prop} {s : Shared}
theorem call_entry_again {T : String} {name : Str} {id : String} {b : Builtin} {self : Value} {rest : List Value} {Q : Value → Shared → Prop} (h : Slot T name id) (hT : s.TypeIs self T)
    (hb : entryFor table id = some b) (ha : argsOk id ⟨self :: rest, []⟩)
    (hc : wpAny (model prog w) A.in1 (b ⟨self :: rest, []⟩) (fun fin s' => match fin with | .done f => callEnd Q E (.ok f) s' | .again c' => c'.quiet = true ∧ codeAny (model prog w) A c' (callEnd Q E) s') (fun e s' => callEnd Q E (.error e) s') s) :
    wpAny (model prog w) A (call (.builtin id) (self :: rest)) Q E s :=
  wpAny_call (codeAny_call_builtin h.plain hb (h.check _ _ _ _ _ _ _ _ hT ha hc))
theorem nextRev_end {it l : Addr} {Q : Option Value → Shared → Prop} (hh : A.handled = none) (hit : s.heap.IsRevIter it l (-1))
    (hQ : ∀ h' o', h'.get? it = some o' → Heap.ExtBut it s.heap h' → Q none { s with heap := h' }) : wpAny (model prog w) A (pyNext (.ref it)) Q E s := by
  obtain ⟨o, ho, hc, hd⟩ := id hit
  unfold pyNext
  refine wpAny_bind (wpAny_attempt (wpAny_callSpecial?_slot (name := Str.ofString "__next__") hit.typeIs F.slot_lri_next
    (wpAny_call_entry F.slot_lri_next hit.typeIs F.entry_lri_next ?_ (F.args_lri_next_1 _))))
  unfold Builtin.«list_reverseiterator.__next__»
  refine wpAny_bind (wpAny_of_eq (a := (Value.ref it, [])) rfl ?_)
  try dsimp only
  refine wpAny_bind (wpAny_field ho hd (x := rawInt (-1)) rfl ?_)
  show wpAny _ _ (if (-1 : Int) < 0 then _ else _) _ _ s
  rw [if_pos (by decide)]
  refine wpAny_bind (wpAny_rule ?_)
  first
  | show wpAny _ _ (newExc (.type "StopIteration") [] >>= _) _ _ _
  | (refine wpAny_bind ?_; show wpAny _ _ (newExc (.type "StopIteration") [] >>= _) _ _ _)
  refine wpAny_bind ?_
  simp -iota only [newExc, newTuple]
  refine wpAny_bind (wpAny_newObj_type ?_ (by size_fits))
  refine wpAny_bind (m := firstArgMember _ _) (wpAny_of_eq (a := Value.none) (by first | rfl | (simp -iota only [firstArgMember]; rfl)) ?_)
  refine wpAny_newObj_type ?_ (by size_fits)
  simp -iota only [raiseNew]
  refine wpAny_bind (wpAny_handled ?_)
  first | rw [show A.in1.handled = none from hh] | rw [hh]
  refine wpAny_bind (wpAny_pure (wpAny_throw ?_))
  refine wpAny_bind (wpAny_isInstance (T := "StopIteration") (b := true) ⟨_, Heap.get?_push_size _ rfl, rfl⟩ isSubtype_stop ?_)
  exact wpAny_pure (hQ _ _ (Heap.get?_push_of_some _ (Heap.get?_push_of_some _ ho)) (((Heap.ExtBut.refl _ _).push _).push _))
theorem pop_meets (l : Addr) (items : Array Value) (n : Nat) (dd : Option Addr) (sl : Array (Option Value)) (y : Value) (hy : items[items.size - 1]? = some y) (hs1 : items.size ≤ sizeLine) :
    Meets (Builtin.«list.pop» ⟨[.ref l], []⟩)
      (fun _ R s => s.heap.get? l = some { cls := .type "list", dict := dd, data := .seq items n, slots := sl } ∧ R (.ok (.ret y)) { s with heap := s.heap.update l (Obj.mapSeq fun xs => xs.eraseIdxIfInBounds (items.size - 1)) }) :=
  .of_wp fun prog w A R s h => by
    obtain ⟨hp, g, d, tk, os⟩ := s; obtain ⟨hl, h⟩ := h
    have hpos : 0 < items.size := by
      rcases Nat.eq_zero_or_pos items.size with h0 | h0
      · simp [h0] at hy
      · exact h0
    have hne : ¬ items.isEmpty = true := by
      intro he; have : items.size = 0 := by simpa using he
      lia
    have hk : seqIndex? (-1) items.size = some (items.size - 1) := by
      rw [seqIndex_neg (by lia) (by lia)]; congr 1; lia
    wp_walk using AutoSeq1.wpAny_loadPart' hl
    simp -iota only [hk, hy, Option.bind_some, Option.map_some]
    have hz' : (items.eraseIdxIfInBounds (items.size - 1)).size ≤ sizeLine + 1 := Nat.le_trans (MeetsSeq.size_erased items _) (Nat.le_succ_of_le hs1)
    wp_walk using (wpAny_updateSeq hl rfl (hz := hs1) (_hz' := hz')), AutoSeq1.wpAny_loadPart' hl
    exact ⟨_, rfl, h⟩
theorem insert_meets (l : Addr) (items : Array Value) (n : Nat) (dd : Option Addr) (sl : Array (Option Value)) (x : Int) (u : Tok) (y : Value) (hc0 : ¬(!Builtin.List.listFitsIndex x) = true) (hsz : items.size ≤ sizeLine) :
    Meets (Builtin.«list.insert» ⟨[.ref l, .int x u, y], []⟩) (fun _ R s => s.heap.get? l = some { cls := .type "list", dict := dd, data := .seq items n, slots := sl } ∧ R (.ok (.ret Value.none)) { s with heap := s.heap.update l (Obj.mapSeq fun xs => have k := if x < 0 then (x + ((xs.size : Nat) : Int)).toNat else min x.toNat xs.size; (xs.extract 0 k).push y ++ xs.extract k), toks := s.toks }) :=
  .of_wp fun prog w A R s h => by
    obtain ⟨hp, g, d, tk, os⟩ := s; obtain ⟨hl, h⟩ := h
    have hz' : ((fun xs : Array Value => have k := if x < 0 then (x + ((xs.size : Nat) : Int)).toNat else min x.toNat xs.size; (xs.extract 0 k).push y ++ xs.extract k) items).size ≤ sizeLine + 1 := Nat.le_trans (AutoSeq1.size_inserted items _ _) (Nat.add_le_add_right hsz 1)
    wp_walk using (wpAny_updateSeq hl rfl (hz := hsz) (_hz' := hz')); exact ⟨_, rfl, h⟩
theorem list_append {l : Addr} {items : Array Value} {x : Value} {Q : Value → Shared → Prop} (hL : LD s.heap l items)
    (hQ : ∀ h', LD h' l (items.push x) → Heap.SameBut l s.heap h' → Q .none { s with heap := h' }) (hsz : items.size ≤ 100000) :
    wpAny (model prog w) A (call (.builtin "list.append") [.ref l, x]) Q E s := by
  have hl := hL.isList
  obtain ⟨o, ho, hc, n, hd⟩ := id hl
  refine wpAny_call_entry slot_list_append hl.typeIs entry_list_append ?_ (args_list_append _ _)
  show wpAny _ _ (updateSeq l (·.push x) >>= fun _ => ret .none) _ _ s
  refine wpAny_bind ?_
  exact wpAny_updateSeq ho hd (wpAny_pure ⟨.none, rfl, hQ _ (hL.upd _) (Heap.SameBut.update ..)⟩) (by rw [sizeLine_eq]; lia) (by rw [sizeLine_eq, Array.size_push]; lia)
theorem list_pop {l : Addr} {items : Array Value} {y : Value} {Q : Value → Shared → Prop} (hL : LD s.heap l items) (hy : items[items.size - 1]? = some y) (h1 : items.size ≤ 100000)
    (hQ : ∀ h', LD h' l (items.eraseIdxIfInBounds (items.size - 1)) → Heap.SameBut l s.heap h' → Q y { s with heap := h' }) : wpAny (model prog w) A (call (.builtin "list.pop") [.ref l]) Q E s := by
  have hl := hL.isList
  have hq := hL.upd (fun xs => xs.eraseIdxIfInBounds (items.size - 1))
  obtain ⟨⟨cls, dd, data, sl⟩, ho, hc, n, hd⟩ := id hl
  simp -iota only at hc hd
  subst hc hd
  exact call_meets F.slot_list_pop hl.typeIs F.entry_list_pop (F.args_list_pop_1 _) (pop_meets l items n dd sl y hy (by rw [sizeLine_eq]; lia))
    ⟨ho, hQ _ hq (Heap.SameBut.update ..)⟩
theorem list_insert0 {l : Addr} {items : Array Value} {y : Value} {u : Tok} {Q : Value → Shared → Prop} (hL : LD s.heap l items) (h1 : items.size ≤ 100000)
    (hQ : ∀ h' vs, vs.toList = y :: items.toList → LD h' l vs → Heap.SameBut l s.heap h' → Q .none { s with heap := h' }) : wpAny (model prog w) A (call (.builtin "list.insert") [.ref l, .int 0 u, y]) Q E s := by
  have hl := hL.isList
  have hq := hL.upd (fun xs => have k := if (0 : Int) < 0 then ((0 : Int) + ((xs.size : Nat) : Int)).toNat else min (0 : Int).toNat xs.size; (xs.extract 0 k).push y ++ xs.extract k)
  obtain ⟨⟨cls, dd, data, sl⟩, ho, hc, n, hd⟩ := id hl
  simp -iota only at hc hd
  subst hc hd
  refine call_meets F.slot_list_insert hl.typeIs F.entry_list_insert (F.args_list_insert_3 _ _ _) (insert_meets l items n dd sl 0 u y (by decide) (by rw [sizeLine_eq]; lia))
    ⟨ho, hQ _ _ ?_ hq (Heap.SameBut.update ..)⟩
  simp
theorem rev_loop {S I b : Addr} {ys : Array Value} {res : Value} {R : Result → Shared → Prop} (hh : A.handled = none) (hSI : S ≠ I) (hSb : S ≠ b) (hIb : I ≠ b) :
    ∀ (i : Nat) (s : Shared) (acc : Array Value), i ≤ ys.size → s.heap.IsRevIter I b ((i : Int) - 1) → s.heap.IsList b ys → LD s.heap S acc → acc.size + i ≤ sizeLine →
    (∀ h' o vs, LD h' S vs → vs.toList = acc.toList ++ (ys.toList.take i).reverse → h'.get? I = some o → (∀ c o, c ≠ S → c ≠ I → s.heap.get? c = some o → h'.get? c = some o) → R (.ok (.ret res)) { s with heap := h' }) →
    codeAny (model prog w) A (.builtin "list.extend.loop" ⟨[.ref S, .ref I, res], []⟩) R s := by
  intro i
  induction i with
  | zero =>
    intro s acc _ hit hb hS hz hR
    refine codeAny_builtin F.entry_extend_loop ?_
    rw [Around.under_plainId F.plain_extend_loop _]
    show wpAny _ A.in1 (pyNext (.ref I) >>= _) _ _ s
    refine wpAny_bind (nextRev_end hh hit fun h' o' ho hk => wpAny_pure (hR h' o' acc ?_ ?_ ho fun c o _ hc e => hk c o hc e))
    · obtain ⟨o, g, z⟩ := hS
      exact ⟨o, hk S o hSI g, z⟩
    · simp
  | succ i ih =>
    intro s acc hi hit hb hS hz hR
    refine codeAny_builtin F.entry_extend_loop ?_
    rw [Around.under_plainId F.plain_extend_loop _]
    show wpAny _ A.in1 (pyNext (.ref I) >>= _) _ _ s
    have e0 : ((i + 1 : Nat) : Int) - 1 = (i : Int) := by lia
    rw [e0] at hit
    have hx : ys[i]? = some (ys[i]'(by lia)) := Array.getElem?_eq_getElem (by lia)
    refine wpAny_bind (wpAny_pyNext_rev_item hit hb hx fun h' hit' hk => ?_)
    obtain ⟨o, g, hc, h0, n, hd⟩ := id hS
    have g' : h'.get? S = some o := hk.extBut S o hSI g
    show wpAny _ A.in1 (updateSeq S (·.push ys[i]) >>= _) _ _ _
    refine wpAny_bind ?_
    refine wpAny_updateSeq g' hd (wpAny_pure ⟨plainId_quiet F.plain_extend_loop _, ih _ (acc.push ys[i]) (by lia) ?_ ?_ ?_ ?_ ?_⟩) (by lia) (by rw [Array.size_push]; lia)
    · obtain ⟨oI, q1, q2⟩ := hit'
      exact ⟨oI, (Heap.get?_update_other _ _ hSI).trans q1, q2⟩
    · obtain ⟨ob, q1, q2⟩ := hb
      exact ⟨ob, (Heap.get?_update_other _ _ hSb).trans (hk.extBut b ob (Ne.symm hIb) q1), q2⟩
    · exact LD.upd ⟨o, g', hc, h0, n, hd⟩ _
    · rw [Array.size_push]; lia
    · intro h2 o2 vs hl hv hI hkk
      refine hR h2 o2 vs hl ?_ hI fun c oc c1 c2 e => hkk c oc c1 c2 ((Heap.get?_update_other _ _ (Ne.symm c1)).trans (hk.extBut c oc c2 e))
      rw [hv, List.take_succ]
      simp [hx]
theorem slot_hint : typeLookup (.type "list_reverseiterator") "__len__" = pure none := by rw [typeLookup_type, builtinLookup_eq_fast]; kernel_rfl
theorem slot_hint2 : typeLookup (.type "list_reverseiterator") "__length_hint__" = pure (some (.builtin "list_reverseiterator.__length_hint__")) := by rw [typeLookup_type, builtinLookup_eq_fast]; kernel_rfl
theorem sub_lri : isSubtype (.type "list_reverseiterator") (.type "list_reverseiterator") = pure true := by rw [isSubtype_type]; kernel_rfl
theorem hint_rev {I b : Addr} {k : Int} {Q : Bool → Shared → Prop} (hit : s.heap.IsRevIter I b k) (h : Q false s) : wpAny (model prog w) A (Builtin.List.listLengthHint (.ref I)) Q E s := by
  unfold Builtin.List.listLengthHint
  refine wpAny_bind (wpAny_specialOf hit.typeIs slot_hint ?_)
  show wpAny _ A (specialOf (Value.ref I) (Str.ofString "__length_hint__") >>= _) _ _ _
  refine wpAny_bind (wpAny_specialOf hit.typeIs slot_hint2 ?_)
  wp_delta
  refine wpAny_bind (wpAny_isInstance (T := "list_reverseiterator") (b := true) hit.typeIs sub_lri ?_)
  exact wpAny_of_eq (a := false) (by kernel_rfl) h
theorem list_extend_rev {S I b : Addr} {xs ys : Array Value} {Q : Value → Shared → Prop} (hh : A.handled = none) (hSI : S ≠ I) (hSb : S ≠ b) (hIb : I ≠ b)
    (hit : s.heap.IsRevIter I b ((ys.size : Int) - 1)) (hb : s.heap.IsList b ys) (hS : LD s.heap S xs) (h1 : xs.size ≤ 100000) (h2 : ys.size ≤ 100000)
    (hQ : ∀ h' o vs, LD h' S vs → vs.toList = xs.toList ++ ys.toList.reverse → h'.get? I = some o → (∀ c o, c ≠ S → c ≠ I → s.heap.get? c = some o → h'.get? c = some o) → Q .none { s with heap := h' }) :
    wpAny (model prog w) A (call (.builtin "list.extend") [.ref S, .ref I]) Q E s := by
  refine call_entry_again F.slot_list_extend hS.isList.typeIs F.entry_list_extend (F.args_list_extend_2 _ _) ?_
  show wpAny _ A.in1 (Builtin.List.listExtendWith (.ref S) (.ref I) .none) _ _ s
  unfold Builtin.List.listExtendWith
  refine wpAny_bind (wpAny_typeOf hit.typeIs ?_)
  have e1 : Builtin.List.listSameRef (.ref S) (.ref I) = false := by simp [Builtin.List.listSameRef, hSI]
  have e2 : (Value.type "list_reverseiterator" == Value.type "list") = false := by decide
  have e3 : (Value.type "list_reverseiterator" == Value.type "tuple") = false := by decide
  simp -iota only [e1, e2, e3, Bool.or_false, Bool.false_eq_true, if_false]
  refine wpAny_bind (wpAny_pyIter_revIter hit ?_)
  refine wpAny_bind (wpAny_holding ?_)
  refine hint_rev hit ?_
  rw [if_neg (by decide)]
  refine wpAny_pure ⟨plainId_quiet F.plain_extend_loop _, rev_loop hh hSI hSb hIb ys.size s xs (Nat.le_refl _) hit hb hS (by rw [sizeLine_eq]; lia) fun h' o vs g1 g2 g3 g4 => ?_⟩
  exact hQ h' o vs g1 (by rw [g2, List.take_of_length_le (by simp)]) g3 g4
end
section
variable {G : Gl} {X : CX} {P : Prog} {d : Nat} {led : Led} {σ : St} {s : Shared} {E : Value → Shared → Prop}
theorem ints_of {l : List Int} : ∀ {vs : List Value}, IntsAre vs l → L2 (VR G led) (ofInts l) vs := by
  intro vs h
  induction h with
  | nil => exact .nil
  | cons n t _ ih => exact .cons ⟨t, rfl⟩ ih
theorem sort_uniq {a b : List Int} (p : a.Perm b) (ha : a.Pairwise (· ≤ ·)) : b.mergeSort (fun x y => decide (x ≤ y)) = a := by
  refine List.Perm.eq_of_pairwise (le := (· ≤ ·)) (fun x y _ _ h1 h2 => Int.le_antisymm h1 h2) ?_ ha ((List.mergeSort_perm _ _).trans p.symm)
  have := List.pairwise_mergeSort (le := fun x y : Int => decide (x ≤ y)) (by intro a b c; simp; lia) (by intro a b; simp; lia) b
  exact this.imp fun h => by simpa using h
section
variable {r : AV} {σ' : St} {Q : Value → Shared → Prop} (O : Ok G X d) (R : Rep G X led σ s.heap) {v : AV} {vv : Value} (hv : VR G led v vv)
    (k : KV G X led σ σ' r s Q)
include O R hv k
theorem lenV_ok (h : lenV v σ = some (r, σ')) : wpAny (model G.prog G.w) X.A (call (.builtin "len") [vv]) Q E s := by
  cases v with
  | str x =>
    refine ifd (show (if x.length ≤ szMax then _ else none) = _ from h) fun hz h => ?_
    have k := k.eq h
    obtain ⟨t, rfl⟩ := hv
    simp -iota only [szMax] at hz
    exact len_str (by lia) (k _ _ _ _ (Ext.refl _ _) R ⟨_, rfl⟩)
  | ref a =>
    refine bnd1 (show (listAt σ.h a).bind _ = _ from h) fun xs e h => ifd h fun hz h => list_vr R e hv fun p vs q _ i2 i3 => ?_
    have k := k.eq h
    rw [q]
    have hn : xs.length = vs.size := i3.length.trans Array.length_toList
    simp -iota only [szMax] at hz
    refine call_len_list i2.isList (by lia) ?_
    rw [← hn]
    exact k _ _ _ _ (Ext.refl _ _) R ⟨_, rfl⟩
  | _ => exact no_some h
theorem sumV_ok (h : sumV v σ = some (r, σ')) : wpAny (model G.prog G.w) X.A (call (.builtin "sum") [vv]) Q E s := by
  cases v with
  | ref a =>
    refine bnd1 (show (listAt σ.h a).bind _ = _ from h) fun xs e h => bnd1 h fun ns h1 h => ifd h fun hz h => list_vr R e hv fun p vs q _ i2 i3 => ?_
    have k := k.eq h
    rw [q]
    have hi := allInts_are i3 h1
    obtain ⟨ys, hy⟩ := hi.allInts.items
    have hy' : vs = intItems ys := by simpa using hy
    have hnum := hi.numsOf
    subst hy'
    rw [nums_intItems] at hnum
    refine sum_intListG O.hh i2.isList fun h' tk t' hk => ?_
    rw [preSum_eq, List.take_of_length_le (by simp), hnum]
    exact k _ _ _ _ (Ext.refl _ _) (R.grow hk) ⟨_, rfl⟩
  | _ => exact no_some h
theorem sortedV_ok (h : sortedV v σ = some (r, σ')) : wpAny (model G.prog G.w) X.A (call (.builtin "sorted") [vv]) Q E s := by
  cases v with
  | ref a =>
    refine bnd1 (show (listAt σ.h a).bind _ = _ from h) fun xs e h => bnd1 h fun ns h1 h => ifd h fun hz h => list_vr R e hv fun p vs q _ i2 i3 => ?_
    have k := k.eq h
    rw [q]
    have hi := allInts_are i3 h1
    obtain ⟨m, F, q⟩ := R.fr
    have hn := i3.length
    refine sorted_N (vs := vs.toList) F R.news (by simpa using i2.isList) hi (by rw [← hn]; exact Nat.lt_succ_of_le hz) fun h' vs' ns' ep F' N' hi' hp' hs' => ?_
    obtain ⟨z1, z2, z3⟩ := R.alloc2 (ao := .list (ofInts (ns.mergeSort fun x y => decide (x ≤ y)))) q F' N' (Nat.le_succ _) ⟨rfl, rfl, _, ep, rfl, by rw [sort_uniq hp' hs']; exact ints_of hi'⟩
    exact k _ _ s.toks _ z1 z2 ⟨_, z3, rfl⟩
  | _ => exact no_some h
theorem strV_ok (h : strV v σ = some (r, σ')) : wpAny (model G.prog G.w) X.A (call (.type "str") [vv]) Q E s := by
  cases v with
  | int i =>
    refine ifd (show (if 0 ≤ i ∧ i ≤ 1000 then _ else none) = _ from h) fun hz h => ?_
    have k := k.eq h
    obtain ⟨t, rfl⟩ := hv
    exact str_of_int_fit (N := 1001) (by split <;> lia) (by decide) fun _ => k _ _ _ _ (Ext.refl _ _) R ⟨_, rfl⟩
  | _ => exact no_some h
theorem tupleV_ok (h : tupleV v σ = some (r, σ')) : wpAny (model G.prog G.w) X.A (call (.type "tuple") [vv]) Q E s := by
  cases v with
  | ref a =>
    refine mpd (show (tupAt σ.h a).map _ = _ from h) fun xs e h => tup_vr R e hv fun p vs q hp i2 i3 => ?_
    have k := k.eqp h
    rw [q]
    exact call_tuple_same i2 (k _ _ s.toks _ (Ext.refl _ _) R ⟨_, hp, rfl⟩)
  | _ => exact no_some h
theorem rangeV_ok (h : rangeV v σ = some (r, σ')) : wpAny (model G.prog G.w) X.A (call (.type "range") [vv]) Q E s := by
  cases v with
  | int n =>
    refine ifd (show (if -1000 ≤ n ∧ n ≤ 1000 then _ else none) = _ from h) fun hz h => ?_
    have k := k.eq h
    obtain ⟨t, rfl⟩ := hv
    refine call_range_1 ?_
    obtain ⟨z1, z2, z3⟩ := R.alloc (ao := .rng n) (h' := s.heap.push { cls := .type "range", data := .fields #[.int 0 s.toks, .int n t, .int 1 (s.toks + 1)] }) (fun b o e => Heap.get?_push_of_some _ e) (Nat.le_refl _) (Heap.get?_push_size _ rfl) ⟨_, _, _, rfl⟩
    exact k _ _ _ _ z1 z2 ⟨_, z3, rfl⟩
  | _ => exact no_some h
theorem revV_ok (h : revV v σ = some (r, σ')) : wpAny (model G.prog G.w) X.A (call (.type "reversed") [vv]) Q E s := by
  cases v with
  | ref a =>
    refine bnd1 (show (listAt σ.h a).bind _ = _ from h) fun xs e h => ifd h fun hz h => list_vr R e hv fun p vs q hp i2 i3 => ?_
    have k := k.eq h
    rw [q]
    have hn : xs.length = vs.size := i3.length.trans Array.length_toList
    refine call_reversed_list i2.isList ?_
    rw [← hn]
    have E2 := R.app (.rev a xs.length) (s.heap.objs.size, revObj p ((xs.length : Int) - 1))
    obtain ⟨z1, z2, z3⟩ := R.alloc (ao := .rev a xs.length) (h' := s.heap.push (revObj p ((xs.length : Int) - 1))) (fun b o e => Heap.get?_push_of_some _ e) (Nat.le_refl _) (Heap.get?_push_size _ rfl) ⟨p, E2.ad _ _ hp, rfl, rfl⟩
    exact k _ _ s.toks _ z1 z2 ⟨_, z3, rfl⟩
  | _ => exact no_some h
theorem instV_ok {w : AV} {vw : Value} (hw : VR G led w vw) (h : instV v w σ = some (r, σ')) : wpAny (model G.prog G.w) X.A (call (.builtin "isinstance") [vv, vw]) Q E s := by
  cases w with
  | typ n =>
    cases hw
    refine ifd (show (if n = "str" then _ else none) = _ from h) fun hn h => ?_
    subst hn
    cases v with
    | str x =>
      have k := k.eq h
      obtain ⟨t, rfl⟩ := hv
      exact IsiPair.str_str (k _ _ s.toks _ (Ext.refl _ _) R rfl)
    | ref a =>
      refine mpd (show (listAt σ.h a).map _ = _ from h) fun xs e h => list_vr R e hv fun p vs q hp i2 i3 => ?_
      have k := k.eqp h
      rw [q]
      obtain ⟨o, ho, hc, _⟩ := i2
      exact IsiPair.list_str ho hc (k _ _ _ _ (Ext.refl _ _) R rfl)
    | _ => exact no_some h
  | _ => exact no_some h
theorem maxV_ok {w : AV} {vw : Value} (hw : VR G led w vw) (h : maxV v w σ = some (r, σ')) : wpAny (model G.prog G.w) X.A (call (.builtin "max") [vv, vw]) Q E s := by
  cases v with
  | int x => cases w with
    | int y =>
      have k := k.eq h
      obtain ⟨t, rfl⟩ := hv
      obtain ⟨u, rfl⟩ := hw
      obtain ⟨m, F, q⟩ := R.fr
      refine max_two_N O.hh F R.news fun h' tk F' N' => ?_
      exact k _ _ _ led (Ext.refl _ _) ⟨⟨m, F', q⟩, N', R.nodup, R.len, R.objs, R.low, R.big, R.cells⟩ ⟨_, rfl⟩
    | _ => exact no_some h
  | _ => exact no_some h
end
theorem elsed {β : Type} {p : Prop} [Decidable p] {x y : Option β} {b : β} {C : Prop} (h : (if p then x else y) = some b) (k : p → x = some b → C) (k2 : y = some b → C) : C := by
  by_cases q : p
  · rw [if_pos q] at h; exact k q h
  · rw [if_neg q] at h; exact k2 h
theorem callBl_ok {id : String} {r : AV} {args : List AV} {vs : List Value} {σ' : St} {Q : Value → Shared → Prop} (O : Ok G X d) (h : callBl id args σ = some (r, σ')) (R : Rep G X led σ s.heap) (ha : L2 (VR G led) args vs)
    (k : KV G X led σ σ' r s Q) :
    wpAny (model G.prog G.w) X.A (call (.builtin id) vs) Q E s := by
  cases ha with
  | nil => exact no_some h
  | cons hv t => cases t with
    | nil =>
      rename_i v vv
      refine elsed (show (if id = "len" then lenV v σ else if id = "sum" then sumV v σ else if id = "sorted" then sortedV v σ else none) = _ from h) (fun e h => ?_) fun h => elsed h (fun e h => ?_) fun h => ifd h fun e h => ?_
      · rw [e]; exact lenV_ok O R hv k h
      · rw [e]; exact sumV_ok O R hv k h
      · rw [e]; exact sortedV_ok O R hv k h
    | cons hw t => cases t with
      | nil =>
        rename_i v vv w vw
        refine elsed (show (if id = "max" then maxV v w σ else if id = "isinstance" then instV v w σ else none) = _ from h) (fun e h => ?_) fun h => ifd h fun e h => ?_
        · rw [e]; exact maxV_ok O R hv k hw h
        · rw [e]; exact instV_ok O R hv k hw h
      | cons _ _ => exact no_some h
theorem callTy_ok {id : String} {r : AV} {args : List AV} {vs : List Value} {σ' : St} {Q : Value → Shared → Prop} (O : Ok G X d) (h : callTy id args σ = some (r, σ')) (R : Rep G X led σ s.heap) (ha : L2 (VR G led) args vs)
    (k : KV G X led σ σ' r s Q) :
    wpAny (model G.prog G.w) X.A (call (.type id) vs) Q E s := by
  cases ha with
  | nil => exact no_some h
  | cons hv t => cases t with
    | nil =>
      rename_i v vv
      refine elsed (show (if id = "str" then strV v σ else if id = "tuple" then tupleV v σ else if id = "range" then rangeV v σ else if id = "reversed" then revV v σ else none) = _ from h) (fun e h => ?_) fun h => elsed h (fun e h => ?_) fun h => elsed h (fun e h => ?_) fun h => ifd h fun e h => ?_
      · rw [e]; exact strV_ok O R hv k h
      · rw [e]; exact tupleV_ok O R hv k h
      · rw [e]; exact rangeV_ok O R hv k h
      · rw [e]; exact revV_ok O R hv k h
    | cons _ _ => exact no_some h
theorem callB_ok {f r : AV} {args : List AV} {vf : Value} {vs : List Value} {σ' : St} {Q : Value → Shared → Prop} (O : Ok G X d) (h : callB f args σ = some (r, σ')) (R : Rep G X led σ s.heap) (hf : VR G led f vf) (ha : L2 (VR G led) args vs)
    (k : KV G X led σ σ' r s Q) :
    wpAny (model G.prog G.w) X.A (call vf vs) Q E s := by
  cases f with
  | bltn id => cases hf; exact callBl_ok O h R ha k
  | typ id => cases hf; exact callTy_ok O h R ha k
  | _ => exact no_some h
noncomputable def listId (x : Str) : Option String :=
  if x = "append" then some "list.append" else if x = "insert" then some "list.insert" else if x = "pop" then some "list.pop" else if x = "extend" then some "list.extend" else none
section
variable {a : Nat} {p : Addr} {r : AV} {xs args : List AV} {vs : List Value} {its : Array Value} {σ' : St} {Q : Value → Shared → Prop} (O : Ok G X d) (e : listAt σ.h a = some xs) (hz : xs.length ≤ szMax) (R : Rep G X led σ s.heap) (hp : adr led a = some p) (ha : L2 (VR G led) args vs)
    (i2 : LD s.heap p its) (i3 : L2 (VR G led) xs its.toList)
    (k : KV G X led σ σ' r s Q)
include O e hz R hp ha i2 i3 k
theorem appendL_ok (h : appendL a xs args σ = some (r, σ')) : wpAny (model G.prog G.w) X.A (call (.builtin "list.append") (.ref p :: vs)) Q E s := by
  have hn : xs.length = its.size := i3.length.trans Array.length_toList
  cases ha with
  | nil => exact no_some h
  | cons hv t => cases t with
    | nil =>
      have k := k.eq h
      refine list_append i2 (fun h' hl hs => ?_) (by rw [← hn]; exact hz)
      obtain ⟨led', z1, z2, z3⟩ := R.putList (ys := xs ++ _) (list_of e) hp hs.extBut hl (by rw [Array.toList_push]; exact i3.append (.cons hv .nil))
      exact k _ _ s.toks _ z1 z2 rfl
    | cons _ _ => exact no_some h
theorem insertL_ok (h : insertL a xs args σ = some (r, σ')) : wpAny (model G.prog G.w) X.A (call (.builtin "list.insert") (.ref p :: vs)) Q E s := by
  have hn : xs.length = its.size := i3.length.trans Array.length_toList
  cases ha with
  | nil => exact no_some h
  | cons hi t => cases t with
    | nil => exact no_some h
    | cons hv t => cases t with
      | nil =>
        rename_i i vi v vv
        cases i with
        | int n =>
          refine ifd (show (if n = 0 then _ else none) = _ from h) fun hn0 h => ?_
          subst hn0
          have k := k.eq h
          obtain ⟨t, rfl⟩ := hi
          refine list_insert0 i2 (by rw [← hn]; exact hz) fun h' vs' hvs hl hs => ?_
          obtain ⟨led', z1, z2, z3⟩ := R.putList (ys := v :: xs) (list_of e) hp hs.extBut hl (by rw [hvs]; exact .cons hv i3)
          exact k _ _ s.toks _ z1 z2 rfl
        | _ => exact no_some h
      | cons _ _ => exact no_some h
theorem popL_ok (h : popL a xs args σ = some (r, σ')) : wpAny (model G.prog G.w) X.A (call (.builtin "list.pop") (.ref p :: vs)) Q E s := by
  have hn : xs.length = its.size := i3.length.trans Array.length_toList
  cases ha with
  | nil =>
    unfold popL at h
    cases hr : xs.reverse with
    | nil => simp -iota only [hr] at h; exact no_some h
    | cons v rr =>
      simp -iota only [hr] at h
      cases h
      have hxs : xs = rr.reverse ++ [r] := by rw [← List.reverse_reverse xs, hr]; exact List.reverse_cons
      rw [hxs] at i3 hn
      have hl1 : its.size = rr.reverse.length + 1 := by rw [← hn]; exact List.length_append
      have q1 : (rr.reverse ++ [r])[its.size - 1]? = some r := by rw [hl1]; simp
      obtain ⟨y, y1, y2⟩ := i3.get q1
      refine list_pop i2 (y := y) (by rw [Array.getElem?_toList] at y1; exact y1) (by rw [← hn, ← hxs]; exact hz) fun h' hl hs => ?_
      obtain ⟨led', z1, z2, z3⟩ := R.putList (ys := rr.reverse) (list_of e) hp hs.extBut hl (by
        have := i3.take rr.reverse.length
        rw [List.take_left] at this
        have e2 : (its.eraseIdxIfInBounds (its.size - 1)).toList = its.toList.take rr.reverse.length := by
          have hl2 : its.size - 1 < its.size := by rw [hl1]; exact Nat.lt_succ_self _
          have : its.size - 1 = rr.reverse.length := by rw [hl1]; rfl
          rw [Array.eraseIdxIfInBounds, dif_pos hl2, Array.toList_eraseIdx, List.eraseIdx_eq_take_drop_succ, List.drop_of_length_le (by rw [Array.length_toList, this, hl1]; exact Nat.le_refl _), List.append_nil, this]
        rw [e2]
        exact this)
      exact k _ _ s.toks _ z1 z2 (y2.ext z1)
  | cons _ _ => exact no_some h
theorem extendL_ok (h : extendL a xs args σ = some (r, σ')) : wpAny (model G.prog G.w) X.A (call (.builtin "list.extend") (.ref p :: vs)) Q E s := by
  have hn : xs.length = its.size := i3.length.trans Array.length_toList
  cases ha with
  | nil => exact no_some h
  | cons hv t => cases t with
    | nil =>
      rename_i v vv
      refine bnd1 (show (revAt σ.h v).bind _ = _ from h) fun q e2 h => bnd1 h fun ys e3 h => ifd h fun hc h => ?_
      obtain ⟨j, b, n⟩ := q
      obtain ⟨hj, e2⟩ := rev_of e2
      rw [hj] at hv
      have k := k.eq h
      obtain ⟨I, hI, rfl⟩ := hv
      have e := list_of e
      have e3 := list_of e3
      simp -iota only at hc e3
      refine Rep.at' R e2 hI fun oI g1 g3 hob => ?_
      obtain ⟨bx, g4, g5, g6⟩ := hob
      obtain ⟨b', ws, j1, j2, j3⟩ := ld_of R e3
      obtain rfl : b' = bx := Option.some.inj (j1.symm.trans g4)
      have hm : ys.length = ws.size := j3.length.trans Array.length_toList
      have n1 : p ≠ I := by
        rintro rfl
        obtain rfl := adr_inj R.nodup hp hI
        rw [e] at e2; cases e2
      have n2 : p ≠ b' := by
        rintro rfl
        exact hc.1 (adr_inj R.nodup hp j1)
      have n3 : I ≠ b' := by
        rintro rfl
        obtain rfl := adr_inj R.nodup hI j1
        rw [e2] at e3; cases e3
      refine list_extend_rev O.hh n1 n2 n3 ⟨oI, g3, g5, by rw [g6, ← hm, hc.2.1]⟩ j2.isList i2 (by rw [← hn]; exact hz) (by rw [← hm, hc.2.1]; exact hc.2.2) fun h' o' vs' hl hvs ho' hk => ?_
      obtain ⟨oS, w1, w2, w3, w4, w5⟩ := id hl
      obtain ⟨o0, v1, v2, v3, v4, v5⟩ := id i2
      have u1 : (s.heap.update p fun _ => oS).get? p = some oS := Heap.get?_update_self _ v1 (Obj.isFreed_of_seq w5)
      have eu : (s.heap.update p fun _ => oS).get? p = h'.get? p := by rw [u1, w1]
      obtain ⟨led₁, z1, z2, z3⟩ := R.putList (ys := xs ++ ys.reverse) (h' := s.heap.update p fun _ => oS) e hp (Heap.SameBut.update ..).extBut ⟨oS, u1, w2, w3, w4, w5⟩ (by rw [hvs]; exact i3.append j3.reverse)
      have e4 : (σ.put a (.list (xs ++ ys.reverse))).h[j]? = some (.rev b n) := by
        show (σ.h.set a _)[j]? = _
        rw [List.getElem?_set, if_neg]
        · exact e2
        · rintro rfl; rw [e] at e2; cases e2
      obtain ⟨y1, y2⟩ := z2.put (ao := .junk) e4 ((z3 j).trans hI) rfl (h' := h') (o := o') (fun c oc hc' he => by
        by_cases hcp : c = p
        · rw [hcp] at he ⊢; rw [← eu]; exact he
        · rw [Heap.get?_update_other _ _ (Ne.symm hcp)] at he
          exact hk c oc hcp hc' he) ho' fun hp led' x _ _ => trivial
      exact k _ _ s.toks _ (z1.trans y1) y2 rfl
    | cons _ _ => exact no_some h
end
theorem listM_ok {x : Str} {a : Nat} {p : Addr} {r : AV} {args : List AV} {vs : List Value} {σ' : St} {Q : Value → Shared → Prop} (O : Ok G X d) (h : listM x a args σ = some (r, σ')) (R : Rep G X led σ s.heap) (hp : adr led a = some p) (ha : L2 (VR G led) args vs)
    (k : KV G X led σ σ' r s Q) :
    ∃ id, listId x = some id ∧ wpAny (model G.prog G.w) X.A (call (.builtin id) (.ref p :: vs)) Q E s := by
  refine bnd1 (show (listAt σ.h a).bind _ = _ from h) fun xs e h => ifn h fun hz h => list_vr R e ⟨p, hp, rfl⟩ fun p' its q i1 i2 i3 => ?_
  cases q
  have hz := Decidable.not_not.mp hz
  unfold listId
  by_cases x1 : x = "append"
  · rw [if_pos x1] at h ⊢; exact ⟨_, rfl, appendL_ok O e hz R hp ha i2 i3 k h⟩
  rw [if_neg x1] at h ⊢
  by_cases x2 : x = "insert"
  · rw [if_pos x2] at h ⊢; exact ⟨_, rfl, insertL_ok O e hz R hp ha i2 i3 k h⟩
  rw [if_neg x2] at h ⊢
  by_cases x3 : x = "pop"
  · rw [if_pos x3] at h ⊢; exact ⟨_, rfl, popL_ok O e hz R hp ha i2 i3 k h⟩
  rw [if_neg x3] at h ⊢
  refine ifd h fun x4 h => ?_
  rw [if_pos x4]; exact ⟨_, rfl, extendL_ok O e hz R hp ha i2 i3 k h⟩
end
end Mine.S
end
section
open PySem PySem.W PyProof.Rows PySem.Calls
namespace Mine.S
noncomputable def fillS (slots : List (Str × Value)) (l : List (Str × Value)) : List (Str × Value) := l.foldl (fun sl x => if (sl.lookup x.1).isNone then sl ++ [x] else sl) slots
theorem forIn_fill (l : List (Str × Value)) : ∀ sl : List (Str × Value),
    (forIn l sl fun x r => if (List.lookup x.1 r).isNone = true then (pure (ForInStep.yield (r ++ [(x.1, x.2)])) : Sem _) else pure (ForInStep.yield r)) = pure (fillS sl l) := by
  induction l with
  | nil => intro sl; rfl
  | cons x r ih =>
    intro sl
    rw [List.forIn_cons]
    have e : fillS sl (x :: r) = fillS (if (sl.lookup x.1).isNone then sl ++ [x] else sl) r := rfl
    rw [e]
    by_cases h : (List.lookup x.1 sl).isNone = true
    · rw [if_pos h, if_pos h, pure_bind]; exact ih _
    · rw [if_neg h, if_neg h, pure_bind]; exact ih _
theorem lookup_take {x : Str} {ps : List Str} : ∀ {vs : List Value} {n : Nat}, x ∈ ps.take n → n ≤ vs.length → ((ps.zip vs).lookup x).isSome = true := by
  induction ps with
  | nil => intro vs n h _; rw [List.take_nil] at h; cases h
  | cons p ps ih =>
    intro vs n h hl
    cases n with
    | zero => cases h
    | succ n => cases vs with
      | nil => cases hl
      | cons v vs =>
        rw [List.zip_cons_cons, List.lookup_cons]
        by_cases e : x = p
        · rw [e, BEq.rfl]; rfl
        · rw [beq_eq_false_iff_ne.mpr e]
          rcases List.mem_cons.mp h with h | h
          · exact absurd h e
          · exact ih h (Nat.le_of_succ_le_succ hl)
theorem lookup_app (l m : List (Str × Value)) (x : Str) : (l ++ m).lookup x = (l.lookup x).or (m.lookup x) := by
  induction l with
  | nil => rfl
  | cons a l ih =>
    obtain ⟨k, v⟩ := a
    rw [List.cons_append, List.lookup_cons, List.lookup_cons]
    cases x == k with
    | true => rfl
    | false => exact ih
theorem fill_cons {p : Str} {v : Value} {l : List (Str × Value)} : ∀ {sl : List (Str × Value)}, p ∉ l.map (·.1) → fillS ((p, v) :: sl) l = (p, v) :: fillS sl l := by
  induction l with
  | nil => intro sl _; rfl
  | cons x r ih =>
    intro sl h
    rw [List.map_cons, List.mem_cons, not_or] at h
    have e1 : ((p, v) :: sl).lookup x.1 = sl.lookup x.1 := by rw [List.lookup_cons, beq_eq_false_iff_ne.mpr (Ne.symm h.1)]
    show fillS (if (((p, v) :: sl).lookup x.1).isNone then ((p, v) :: sl) ++ [x] else (p, v) :: sl) r = (p, v) :: fillS (if (sl.lookup x.1).isNone then sl ++ [x] else sl) r
    rw [e1]
    cases (sl.lookup x.1).isNone with
    | true => rw [if_pos rfl, if_pos rfl]; exact ih h.2
    | false => rw [if_neg Bool.false_ne_true, if_neg Bool.false_ne_true]; exact ih h.2
theorem fill_same {p : Str} {v w : Value} {sl l : List (Str × Value)} : fillS ((p, v) :: sl) ((p, w) :: l) = fillS ((p, v) :: sl) l := by
  show fillS (if (((p, v) :: sl).lookup p).isNone then _ else (p, v) :: sl) l = _
  rw [List.lookup_cons, BEq.rfl]; rfl
theorem zip_keys {ps : List Str} : ∀ {vs : List Value} {x : Str}, x ∈ (ps.zip vs).map (·.1) → x ∈ ps := by
  induction ps with
  | nil => intro vs x h; cases h
  | cons p ps ih =>
    intro vs x h
    cases vs with
    | nil => cases h
    | cons v vs =>
      rcases List.mem_cons.mp h with h | h
      · rw [h]; exact .head _
      · exact .tail _ (ih h)
theorem fill_fresh {ps : List Str} : ∀ {ds : List Value} (sl : List (Str × Value)), ps.Nodup → ps.length = ds.length → (∀ x ∈ ps, sl.lookup x = none) → fillS sl (ps.zip ds) = sl ++ ps.zip ds := by
  induction ps with
  | nil => intro ds sl _ _ _; exact (List.append_nil _).symm
  | cons p ps ih =>
    intro ds sl nd hl h
    cases ds with
    | nil => cases hl
    | cons d ds =>
      have nd := List.nodup_cons.mp nd
      show fillS (if (sl.lookup p).isNone then sl ++ [(p, d)] else sl) (ps.zip ds) = _
      rw [h p (.head _), Option.isNone_none, if_pos rfl, ih (sl ++ [(p, d)]) nd.2 (Nat.succ.inj hl) fun x hx => ?_, List.append_assoc]
      · rfl
      · rw [lookup_app, h x (.tail _ hx), List.lookup_cons, beq_eq_false_iff_ne.mpr (fun e : x = p => nd.1 (e ▸ hx))]; rfl
theorem fill_args {vs : List Value} : ∀ {ps : List Str} {ds : List Value}, ps.Nodup → ds.length ≤ ps.length → vs.length ≤ ps.length → ps.length ≤ vs.length + ds.length →
    fillS (ps.zip vs) ((ps.drop (ps.length - ds.length)).zip ds) = ps.zip (vs ++ ds.drop (vs.length + ds.length - ps.length)) := by
  induction vs with
  | nil =>
    intro ps ds nd l1 _ l3
    have e : ps.length = ds.length := Nat.le_antisymm (by rw [List.length_nil, Nat.zero_add] at l3; exact l3) l1
    rw [e, Nat.sub_self, List.length_nil, Nat.zero_add, Nat.sub_self, List.zip_nil_right]
    exact fill_fresh [] nd e fun _ _ => rfl
  | cons v vs ih =>
    intro ps ds nd l1 l2 l3
    cases ps with
    | nil => cases l2
    | cons p ps =>
      have nd := List.nodup_cons.mp nd
      have l2 := Nat.le_of_succ_le_succ l2
      rw [List.length_cons, List.length_cons] at *
      by_cases q : ds.length ≤ ps.length
      · rw [Nat.succ_sub q, List.drop_succ_cons, List.zip_cons_cons, fill_cons (fun h => nd.1 (List.mem_of_mem_drop (zip_keys h))), ih nd.2 q l2 (by lia), List.cons_append, List.zip_cons_cons]
        have : vs.length + 1 + ds.length - (ps.length + 1) = vs.length + ds.length - ps.length := by lia
        rw [this]
      · cases ds with
        | nil => exact absurd (Nat.zero_le _) q
        | cons d ds =>
          rw [List.length_cons] at *
          have e : ps.length = ds.length := by lia
          have i := ih (ds := ds) nd.2 (Nat.le_of_eq e.symm) l2 (by lia)
          rw [e, Nat.sub_self, List.drop_zero] at i
          rw [e, Nat.sub_self, List.drop_zero, List.zip_cons_cons, List.zip_cons_cons, fill_same, fill_cons (fun h => nd.1 (zip_keys h)), i, List.cons_append, List.zip_cons_cons]
          have : vs.length + 1 + (ds.length + 1) - (ds.length + 1) = (vs.length + ds.length - ds.length) + 1 := by lia
          rw [this, List.drop_succ_cons]
theorem map_fst_zip {ps : List Str} : ∀ {vs : List Value}, (ps.zip vs).map (·.1) = ps.take vs.length := by
  induction ps with
  | nil => intro vs; rw [List.take_nil]; rfl
  | cons p ps ih => intro vs; cases vs with
    | nil => rfl
    | cons v vs => exact congrArg (List.cons p) ih
theorem zip_lookup_all : ∀ {ps : List Str} {ws : List Value}, ps.Nodup → ps.length = ws.length → (ps.filterMap fun n => ((ps.zip ws).lookup n).map (n, ·)) = ps.zip ws := by
  intro ps
  induction ps with
  | nil => intro ws _ _; simp
  | cons p ps ih =>
    intro ws nd hl
    cases ws with
    | nil => simp at hl
    | cons v ws =>
      simp only [List.nodup_cons] at nd
      rw [List.zip_cons_cons, List.filterMap_cons]
      simp only [List.lookup_cons, BEq.rfl, Option.map_some]
      have e : ∀ qs : List Str, (∀ x ∈ qs, x ≠ p) → (qs.filterMap fun n => (match n == p with | true => some v | false => List.lookup n (ps.zip ws)).map (n, ·)) = qs.filterMap fun n => ((ps.zip ws).lookup n).map (n, ·) := by
        intro qs
        induction qs with
        | nil => intro _; rfl
        | cons q qs ih2 =>
          intro hq
          have hqp : (q == p) = false := beq_eq_false_iff_ne.mpr (hq q (.head _))
          simp only [List.filterMap_cons, hqp]
          rw [ih2 fun x hx => hq x (.tail _ hx)]
      exact congrArg (List.cons (p, v)) ((e ps fun x hx e => nd.1 (e ▸ hx)).trans (ih nd.2 (by simpa using hl)))
theorem binds_to {s : Shared} {fd : FuncData} {vs ds : List Value} {ps : List Str} (h1 : fd.params.posonlyargs = []) (h2 : fd.params.vararg = none) (h3 : fd.params.kwonlyargs = []) (h4 : fd.params.kwarg = none) (h5 : fd.params.args.map (·.arg) = ps)
    (hd : (fd.defaults = .none ∧ ds = []) ∨ ∃ T o items n, fd.defaults = .ref T ∧ s.heap.get? T = some o ∧ o.data = .seq items n ∧ ds = items.toList)
    (l1 : ds.length ≤ ps.length) (l2 : vs.length ≤ ps.length) (l3 : ps.length ≤ vs.length + ds.length) (nd : ps.Nodup) :
    BindsTo s fd ⟨vs, []⟩ (ps.zip (vs ++ ds.drop (vs.length + ds.length - ps.length))) := by
  intro M A E Q hQ
  have hseq : wpAny M A (seqItems? fd.defaults) (fun r s' => (r.getD #[]).toList = ds ∧ s' = s) E s := by
    rcases hd with ⟨e1, rfl⟩ | ⟨T, o, items, n, e1, e2, e3, rfl⟩
    · rw [e1]
      exact wpAny_of_eq (a := none) rfl ⟨rfl, rfl⟩
    · rw [e1]
      exact wpAny_seqItems e2 e3 ⟨rfl, rfl⟩
  unfold bindArgs
  simp only [h1, h2, h3, h4, h5, List.map_nil, List.nil_append, List.append_nil, List.forIn_nil, pure_bind, List.length_nil]
  refine wpAny_bind (wpAny_mono hseq (fun r s' hr => ?_) fun _ _ x => x)
  obtain ⟨hr, rfl⟩ := hr
  simp only [hr]
  rw [if_neg (by simp; omega)]
  have z0 : ds.length - ps.length = 0 := by lia
  simp only [z0, List.drop_zero]
  have hmiss : (List.filter (fun n => (List.lookup n (ps.zip vs)).isNone) (List.take (ps.length - ds.length) ps)) = [] := by
    rw [List.filter_eq_nil_iff]
    intro x hx q
    have := lookup_take hx (vs := vs) (by lia)
    rw [Option.isNone_iff_eq_none.mp q] at this
    cases this
  rw [if_neg (by rw [hmiss]; decide)]
  rw [forIn_fill, pure_bind, if_neg (by simp)]
  refine wpAny_pure ?_
  rw [fill_args nd l1 l2 l3, zip_lookup_all nd (by simp; omega)]
  exact hQ
end Mine.S
end
section
open PySem PySem.W PyProof.Rows PySem.Calls
namespace Mine.S
structure SndR (G : Gl) (r : R) (d : Nat) : Prop where
  ev : ∀ X, Ok G X d → ∀ e, Snd G X (VR G) (eval e X.env) (r.ev X.c e)
  tr : ∀ X, Ok G X d → ∀ e, Snd G X (fun _ b v => v = b) (PySem.isTrue e X.env (eval e X.env)) (r.tr X.c e)
  ex : ∀ X, Ok G X d → ∀ st, Snd G X (FlR G) (exec st X.env) (r.ex X.c st)
  fn : ∀ X, Ok G X d → X.c.inComp = false → ∀ k args vs σ v σ', r.fn k args σ = some (v, σ') → ∀ s led RR, Rep G X led σ s.heap → L2 (VR G led) args vs →
    (∀ rv h' tk led', Ext σ.h led σ'.h led' → Rep G X led' σ' h' → VR G led' v rv → RR (.ok (.ret rv)) { s with heap := h', toks := tk }) →
    codeAny (model G.prog G.w) X.A (.call (.ref (G.fa k)) ⟨vs, []⟩) RR s
section
variable {G : Gl} {P : Prog} {r : R} {d : Nat}
theorem execs_ok (S : SndR G r d) (X : CX) (O : Ok G X d) : ∀ ss, Snd G X (FlR G) (execs ss X.env) (exs r X.c ss) := by
  intro ss
  induction ss with
  | nil =>
    intro σ f σ' h s led Q E R k
    cases h
    exact wpAny_pure (k _ _ s.toks _ (Ext.refl _ _) R rfl)
  | cons st ss ih =>
    intro σ f σ' h s led Q E R k
    refine bnd (show (r.ex X.c st σ).bind _ = _ from h) fun f₁ σ₁ h1 h2 => ?_
    rw [execs_cons]
    refine wpAny_bind (S.ex X O st _ _ _ h1 s led _ _ R fun v h' tk led' z1 z2 z3 => ?_)
    cases f₁ with
    | next =>
      cases z3
      exact ih _ _ _ h2 _ led' _ _ z2 fun v2 h2 tk2 led2 y1 y2 y3 => k v2 h2 tk2 led2 (z1.trans y1) y2 y3
    | cont =>
      cases z3; cases h2
      exact wpAny_pure (k _ _ _ _ z1 z2 rfl)
    | ret w =>
      obtain ⟨x, rfl, hx⟩ := z3
      cases h2
      exact wpAny_pure (k _ _ _ _ z1 z2 ⟨x, rfl, hx⟩)
theorem lookup_reverse (x : Str) : ∀ {l : List (Str × Value)}, (l.map (·.1)).Nodup → l.reverse.lookup x = l.lookup x := by
  intro l
  induction l with
  | nil => intro _; rfl
  | cons a l ih =>
    intro nd
    obtain ⟨k, v⟩ := a
    simp only [List.map_cons, List.nodup_cons] at nd
    rw [List.reverse_cons, lookup_app, ih nd.2, List.lookup_cons, List.lookup_cons]
    by_cases h : x = k
    · subst h
      have : l.lookup x = none := by
        cases q : l.lookup x with
        | none => rfl
        | some w =>
          have := List.mem_map_of_mem (f := (·.1)) (mem_of_lookup q)
          exact absurd this nd.1
      rw [this]; simp
    · rw [beq_eq_false_iff_ne.mpr h]
      cases l.lookup x <;> rfl
theorem zip_lookup_R {led : Led} {x : Str} : ∀ {ps : List Str} {as : List AV} {vs : List Value}, L2 (VR G led) as vs → ∀ {a}, (ps.zip as).lookup x = some a → ∃ v, (ps.zip vs).lookup x = some v ∧ VR G led a v
  | [], _, _, _, a, h => by simp at h
  | p :: ps, _, _, .nil, a, h => by simp at h
  | p :: ps, _, _, .cons (b := v) h1 h2, a, h => by
    rw [List.zip_cons_cons, List.lookup_cons] at h ⊢
    cases hq : x == p with
    | true => rw [hq] at h; cases h; exact ⟨v, rfl, h1⟩
    | false => rw [hq] at h; exact zip_lookup_R h2 h
theorem df_vr {led : Led} : ∀ {a v}, DfR a v → VR G led a v
  | .none, _, h => h
  | .bool _, _, h => h
  | .int _, _, h => h
  | .str _, _, h => h
  | .ref _, _, h => h.elim
  | .typ _, _, h => h.elim
  | .bltn _, _, h => h.elim
  | .fn _, _, h => h.elim
  | .cls _, _, h => h.elim
theorem kindOf_envOf {name : Str} {scope : Scope} {L a : Addr} {cd : Value} (x : Str) : (envOf name scope L a cd).kindOf x = scope.names.lookup x := rfl
theorem fn_ok (PK : ProgOK G P) (S : SndR G r d) (X : CX) (O : Ok G X (d + 1)) (hc : X.c.inComp = false) {k : Nat} {args : List AV} {vs : List Value} {σ σ' : St} {v : AV} (h : fnStep P r k args σ = some (v, σ'))
    {s : Shared} {led : Led} {RR : Result → Shared → Prop} (R : Rep G X led σ s.heap) (ha : L2 (VR G led) args vs)
    (kk : ∀ rv h' tk led', Ext σ.h led σ'.h led' → Rep G X led' σ' h' → VR G led' v rv → RR (.ok (.ret rv)) { s with heap := h', toks := tk }) :
    codeAny (model G.prog G.w) X.A (.call (.ref (G.fa k)) ⟨vs, []⟩) RR s := by
  refine bnd1 (show (P.fn k).bind _ = _ from h) fun f hf h => bnd1 h fun l hl h => bnd h fun fl σ₁ hb hv => ?_
  obtain ⟨⟨oc, od, osl, D, H⟩, hloc, nd⟩ := PK.fn k f hf
  unfold bindFn at hl
  refine ifd hl fun hlen hl => ?_
  · cases hl
    have hn := ha.length
    obtain ⟨m, F, q⟩ := R.fr
    obtain ⟨A₀, base, outer, B, hA, hfr⟩ := O.stand hc
    obtain ⟨ds, hds, hdR⟩ : ∃ ds : List Value, ((D.defaults = .none ∧ ds = []) ∨ ∃ T o items n, D.defaults = .ref T ∧ s.heap.get? T = some o ∧ o.data = .seq items n ∧ ds = items.toList) ∧ L2 DfR f.dflts ds := by
      rcases H.df with ⟨e1, e2⟩ | ⟨T, c, dd, items, n, sl, e1, e2, e3⟩
      · exact ⟨[], .inl ⟨e2, rfl⟩, by rw [e1]; exact .nil⟩
      · exact ⟨items.toList, .inr ⟨T, _, items, n, e1, F.keep _ _ (O.kin _ _ e2), rfl, rfl⟩, e3⟩
    have hd := hdR.length
    have hbind : BindsTo s (fnOf D.name D.qualname D.params f.body D.scope D.defaults D.kwdefaults D.doc D.pyModule D.annotations D.code D.closureTuple) ⟨vs, []⟩ (f.params.zip (vs ++ ds.drop (vs.length + ds.length - f.params.length))) :=
      binds_to H.p1 H.p2 H.p3 H.p4 H.p5 hds (by lia) (by lia) (by lia) nd
    refine code_def B F O.kin R.news O.top hA hfr O.hk H.ob H.code (by have := O.depth; lia) hbind (fun y hy => ?_) (fun g L' h₁ FG F₁ N₁ BG KG TG => ?_) H.coro H.gen H.kind H.cell
    · rw [H.names]; exact hloc _ (List.of_mem_zip hy).1
    · have hbig : sysModules < g.objs.size := Nat.lt_of_lt_of_le R.big (Nat.le_trans FG.above (Nat.le_of_lt FG.ns.lt))
      have O' : Ok G ⟨⟨kindsOf f.names, [], false⟩, X.A.deeper (envOf D.qualname D.scope L' (G.fa k) D.code), g, L', envOf D.qualname D.scope L' (G.fa k) D.code⟩ d :=
        { hk := H.kind, hl := rfl, hg := rfl, hb := rfl, kind := fun x => by rw [kindOf_envOf, H.names]; rfl, kin := KG, top := TG, hh := O.hh
          depth := by have := O.depth; show X.A.depth + 1 + 3 * d < _; lia
          units := by have := O.units; show X.A.units + 3 + 10 * d + 100 < _; lia
          stand := fun _ => ⟨X.A, base, X.env :: outer, BG, Around.frames_deeper hA, rfl⟩ }
      have hnd : ((f.params.zip (vs ++ ds.drop (vs.length + ds.length - f.params.length))).map (·.1)).Nodup := by
        rw [map_fst_zip]; exact nd.sublist (List.take_sublist _ _)
      have R' : Rep G ⟨⟨kindsOf f.names, [], false⟩, X.A.deeper (envOf D.qualname D.scope L' (G.fa k) D.code), g, L', envOf D.qualname D.scope L' (G.fa k) D.code⟩ led
          ⟨σ.h, fun x => (f.params.zip (args ++ f.dflts.drop (args.length + f.dflts.length - f.params.length))).lookup x⟩ h₁ := by
        refine ⟨⟨_, F₁, fun x a e => ?_⟩, N₁, R.nodup, R.len, R.objs, R.low, hbig, fun x i e _ => ?_⟩
        · rw [lookup_reverse x hnd]
          refine zip_lookup_R ?_ e
          rw [hn, hd]
          exact ha.append ((hdR.mono fun _ _ w => df_vr w).drop _)
        · exact absurd rfl (H.cell _ (mem_of_lookup (show D.scope.names.lookup x = some .cell by rw [H.names]; exact e)))
      refine execs_ok S _ O' f.body _ _ _ hb _ led _ _ R' fun flow h' tk led' z1 z2 z3 => ?_
      obtain ⟨m', F', q'⟩ := z2.fr
      refine ⟨L', m', led', F', z2.news, fun F2 N2 => ?_⟩
      have key : ∀ w, VR G led' v w → σ' = { σ₁ with loc := σ.loc } → RR (.ok (.ret w)) { s with heap := h', toks := tk } := fun w hw e => by
        subst e
        refine kk w h' tk led' z1 ⟨⟨m, F2, fun x a e => ?_⟩, N2, z2.nodup, z2.len, z2.objs, z2.low, R.big, fun x i e1 e2 => ?_⟩ hw
        · obtain ⟨rv, y1, y2⟩ := q x a e
          exact ⟨rv, y1, y2.ext z1⟩
        · obtain ⟨a, y1, y2⟩ := R.cells x i e1 e2
          exact ⟨a, y1, z1.ad _ _ y2⟩
      cases fl with
      | next => cases z3; cases hv; exact key _ rfl rfl
      | cont => cases hv
      | ret w => obtain ⟨x, rfl, hx⟩ := z3; cases hv; exact key _ hx rfl
theorem star_cons {e : Expr} {rest : List Expr} {env : Env} (h : isStar e = false) : starEach (e :: rest) env = (false, eval e env) :: starEach rest env := by
  cases e <;> first | rfl | cases h
theorem evs_plain {c : Cx} : ∀ {es : List Expr} {σ p}, evs r c es σ = some p → es.all (fun e => !isStar e) = true
  | [], _, _, _ => rfl
  | e :: es, σ, p, h => by
    refine ifn (show (if isStar e then none else _) = _ from h) fun hs h => bnd1 h fun q h1 h2 => bnd1 h2 fun z h3 _ => ?_
    rw [List.all_cons, evs_plain h3, Bool.not_eq_true _ |>.mp hs]; rfl
theorem back_plain {pos : Pos} {env : Env} : ∀ {es : List Expr}, es.all (fun e => !isStar e) = true → (backTo pos (starEach es env)).any (·.1) = false
  | [], _ => rfl
  | e :: es, h => by
    rw [List.all_cons, Bool.and_eq_true] at h
    rw [star_cons (by simpa using h.1)]
    show (false || (backTo pos (starEach es env)).any (·.1)) = false
    rw [back_plain h.2]; rfl
theorem evs_ok (S : SndR G r d) (X : CX) (O : Ok G X d) (pos : Pos) : ∀ es, Snd G X (fun led as vs => L2 (VR G led) as vs) (spliced (backTo pos (starEach es X.env))) (evs r X.c es) := by
  intro es
  induction es with
  | nil =>
    intro σ f σ' h s led Q E R k
    cases h
    exact wpAny_pure (k _ _ s.toks _ (Ext.refl _ _) R .nil)
  | cons e es ih =>
    intro σ f σ' h s led Q E R k
    refine ifn (show (if isStar e then none else _) = _ from h) fun hs h => bnd h fun a σ₁ h1 h2 => bnd h2 fun as σ₂ h3 h4 => ?_
    · cases h4
      rw [star_cons (Bool.not_eq_true _ |>.mp hs)]
      refine spliced_cons (S.ev X O e _ _ _ h1 s led _ _ R fun v h' tk led' z1 z2 z3 => ?_)
      exact ih _ _ _ h3 _ led' _ _ z2 fun vs h2 tk2 led2 y1 y2 y3 => k _ _ _ _ (z1.trans y1) y2 (.cons (z3.ext y1) y3)
theorem with_ok {X : CX} {pos : Pos} {vf : Value} {first : List Value} {es : List Expr} {Q E : Value → Shared → Prop} {s : Shared} (hpl : es.all (fun e => !isStar e) = true)
    (hk : keepIn G.K vf = true ∨ (∃ id, vf = .builtin id) ∨ ∃ T, vf = .type T)
    (h0 : es = [] → G.K.In s.heap ∧ wpAny (model G.prog G.w) X.A (call vf (first ++ [])) Q E s)
    (h : wpAny (model G.prog G.w) X.A (spliced (backTo pos (starEach es X.env))) (fun vs s₁ => G.K.In s₁.heap ∧ wpAny (model G.prog G.w) X.A (call vf (first ++ vs)) Q E s₁) E s) :
    wpAny (model G.prog G.w) X.A (callWith pos vf first (backTo pos (starEach es X.env)) []) Q E s := by
  cases es with
  | nil =>
    obtain ⟨g1, g2⟩ := h0 rfl
    rcases hk with hk | ⟨id, rfl⟩ | ⟨T, rfl⟩
    · exact callWith_K0 g1 hk g2
    · exact callWith_builtin rfl (evalArgs_nil3 g2)
    · exact PySem.callWith_type rfl (evalArgs_nil3 g2)
  | cons e es =>
    rw [List.all_cons, Bool.and_eq_true] at hpl
    have he := star_cons (rest := es) (env := X.env) (e := e) (by simpa using hpl.1)
    have hb := back_plain (pos := pos) (env := X.env) hpl.2
    rcases hk with hk | ⟨id, rfl⟩ | ⟨T, rfl⟩
    · rw [he] at h ⊢
      exact callWith_of (by show ((false || (backTo pos (starEach es X.env)).any (·.1)) || false) = false; rw [hb]; rfl) (keeps_K hk) (evalArgs_plain h)
    · rw [he] at h ⊢
      exact callWith_builtin (by show (false || (backTo pos (starEach es X.env)).any (·.1)) = false; rw [hb]; rfl) (evalArgs_plain (wpAny_mono h (fun _ _ x => x.2) fun _ _ x => x))
    · rw [he] at h ⊢
      exact PySem.callWith_type (by show (false || (backTo pos (starEach es X.env)).any (·.1)) = false; rw [hb]; rfl) (evalArgs_plain (wpAny_mono h (fun _ _ x => x.2) fun _ _ x => x))
theorem under_ok {X : CX} {c : Code} (O : Ok G X (d + 1)) (hw : c.weight = 1) (hu : c.cUnits = 1) (he : c.envs = []) (hc : X.c.inComp = false) : Ok G { X with A := X.A.under c } d :=
  { O with
    hh := O.hh
    depth := by have := O.depth; show X.A.depth + c.weight + 3 * d < _; lia
    units := by have := O.units; show X.A.units + c.cUnits + 10 * d + 100 < _; lia
    stand := fun _ => by
      obtain ⟨A₀, base, outer, h1, h2, h3⟩ := O.stand hc
      refine ⟨A₀, base, outer, h1, ?_, h3⟩
      show pushEnvs c.envs X.A.frames = _
      rw [he]; exact h2 }
theorem Rep.under {X : CX} {led : Led} {σ : St} {h : Heap} (R : Rep G X led σ h) (A : Around) : Rep G { X with A := A } led σ h :=
  ⟨R.fr, R.news, R.nodup, R.len, R.objs, R.low, R.big, R.cells⟩
theorem make_weight {C : Addr} {pos : List Value} {kw : List (Str × Value)} : (Code.builtin "type.__call__" ⟨.ref C :: pos, kw⟩).weight = 1 ∧ (Code.builtin "type.__call__" ⟨.ref C :: pos, kw⟩).cUnits = 1 ∧ (Code.builtin "type.__call__" ⟨.ref C :: pos, kw⟩).envs = [] := by
  refine ⟨?_, ?_, ?_⟩ <;> kernel_rfl
theorem callC_ok (PK : ProgOK G P) (S : SndR G r d) (X : CX) (O : Ok G X (d + 1)) (hcc : X.c.inComp = false) {kc : Nat} {C : Cls} (hC : P.cls kc = some C) {v : AV} {args : List AV} {vs : List Value} {σ σ' : St} (hne : σ.h ≠ []) (h : callC r kc C args σ = some (v, σ'))
    {s : Shared} {led : Led} {Q E : Value → Shared → Prop} (R : Rep G X led σ s.heap) (ha : L2 (VR G led) args vs)
    (k : KV G X led σ σ' v s Q) :
    wpAny (model G.prog G.w) X.A (call (.ref (G.ca kc)) vs) Q E s := by
  refine bnd (show (r.fn C.init _ _).bind _ = _ from h) fun v₁ σ₁ h1 h2 => ?_
  cases v₁ with
  | none =>
    have k := k.eq h2
    have CK := PK.cls kc C hC
    obtain ⟨m, F, q⟩ := R.fr
    refine call_cls F O.kin R.news CK.makes CK.init CK.isf fun x dx h' F' N' hlt hdx => ?_
    have hne : ∃ p, p ∈ led := by
      have hl := R.len
      cases led with
      | nil => exact absurd (List.length_eq_zero_iff.mp hl) hne
      | cons p _ => exact ⟨p, .head _⟩
    obtain ⟨p0, hp0⟩ := hne
    have hbig : sysModules < dx := Nat.lt_trans (R.low _ hp0) (hlt _ hp0)
    have N₁ : News X.h₀ X.L h' ((dx, dictOf [] 0) :: led) := fun p hp => N' p (.tail _ hp)
    obtain ⟨a1, a2, a3⟩ := R.alloc3 (ao := .flds []) q F' N₁ (fun p hp => Nat.ne_of_lt (hlt p hp)) hbig ⟨[], 0, rfl, .nil⟩
    obtain ⟨m2, F2, q2⟩ := a2.fr
    have N₂ : News X.h₀ X.L h' ((x, instObj (G.ca kc) dx) :: (led ++ [(dx, dictOf [] 0)])) := fun p hp => by
      rcases List.mem_cons.mp hp with rfl | hp
      · exact N' _ (.head _)
      · exact a2.news p hp
    have E2 := a2.app (.inst kc σ.h.length) (x, instObj (G.ca kc) dx)
    obtain ⟨b1, b2, b3⟩ := a2.alloc3 (ao := .inst kc σ.h.length) q2 F2 N₂ (fun p hp => by
      rcases List.mem_append.mp hp with hp | hp
      · exact Nat.ne_of_lt (Nat.lt_trans (hlt p hp) hdx)
      · rw [List.mem_singleton.mp hp]; exact Nat.ne_of_lt hdx) (Nat.lt_trans hbig hdx) ⟨dx, E2.ad _ _ a3, rfl⟩
    have hlen : (σ.alloc (.flds [])).h.length = σ.h.length + 1 := List.length_append
    rw [hlen] at b3
    obtain ⟨w1, w2, w3⟩ := make_weight (C := G.ca kc) (pos := vs) (kw := [])
    have O' := under_ok O w1 w2 w3 hcc
    refine S.fn { X with A := X.A.under _ } O' hcc C.init (.ref (σ.h.length + 1) :: args) (.ref x :: vs) _ _ _ h1 _ _ _ (b2.under _) (.cons ⟨x, b3, rfl⟩ (ha.mono fun _ _ w => (w.ext a1).ext b1)) fun rv h2 tk led2 y1 y2 y3 => ?_
    cases y3
    exact ⟨rfl, k _ _ _ _ (a1.trans (b1.trans y1)) (y2.under X.A) ⟨x, y1.ad _ _ b3, rfl⟩⟩
  | _ => exact no_some h2
theorem callV_ok (PK : ProgOK G P) (S : SndR G r d) (X : CX) (O : Ok G X (d + 1)) {f v : AV} {args : List AV} {vf : Value} {vs : List Value} {σ σ' : St} (h : callV P r X.c f args σ = some (v, σ'))
    {s : Shared} {led : Led} {Q E : Value → Shared → Prop} (R : Rep G X led σ s.heap) (hf : VR G led f vf) (ha : L2 (VR G led) args vs)
    (k : KV G X led σ σ' v s Q) :
    wpAny (model G.prog G.w) X.A (call vf vs) Q E s := by
  cases f with
  | fn kf =>
    refine ifn (show (if X.c.inComp = true then none else r.fn kf args σ) = _ from h) fun hc h => ?_
    cases hf
    exact wpAny_call (S.fn X (O.le (Nat.le_succ _)) (Bool.not_eq_true _ |>.mp hc) kf args vs σ v σ' h s led (callEnd Q E) R ha fun rv h' tk led' z1 z2 z3 => k rv h' tk led' z1 z2 z3)
  | cls kc =>
    refine ifn (show (if (X.c.inComp || σ.h.isEmpty) = true then none else (P.cls kc).bind fun K => callC r kc K args σ) = _ from h) fun hc h => bnd1 h fun C hC h => ?_
    cases hf
    have hc := Bool.or_eq_false_iff.mp (Bool.not_eq_true _ |>.mp hc)
    exact callC_ok PK S X O hc.1 hC (List.isEmpty_eq_false_iff.mp hc.2) h R ha k
  | bltn id => exact callB_ok (f := .bltn id) O h R hf ha k
  | typ id => exact callB_ok (f := .typ id) O h R hf ha k
  | _ => exact no_some h
end
end Mine.S
end
section
open PySem PySem.W PyProof.Rows PySem.Calls
namespace Mine.S
section
variable {G : Gl} {P : Prog} {r : R} {d : Nat}
theorem attr_he {o : Expr} {x : Str} {pos : Pos} {env : Env} (h : isCall o = false) : eval (.Attribute o x pos) env = (do
    let ov ← eval o env
    standAt pos.atName
    let r ← holding [ov] (getAttr ov x true)
    letTemporaryGo o ov r
    pure r) := by
  cases o <;> first | rfl | cases h
theorem meth_he {o : Expr} {x : Str} {ap pos : Pos} {args : List Expr} {env : Env} (h : isCall o = false) (hpl : args.all (fun e => !isStar e) = true) (hn : args.length ≤ 5) (hp : (ap.endLine == pos.line) = true) :
    eval (.Call (.Attribute o x ap) args [] pos) env = (do
    let ov ← eval o env
    standAt ap.atName
    let (f, first) ← holding [ov] (getMethod ov x (do return (← importBound o env).getD true))
    callWith pos f first (backTo pos (starEach args env)) (backToKw pos (keywordEach [] env))) := by
  have h1 : attributeBase o x env (eval o env) = eval o env := by cases o <;> first | rfl | cases h
  have hall : (backTo pos (starEach args env)).all (fun x => !x.1) = true := by
    have := back_plain (pos := pos) (env := env) hpl
    rw [List.any_eq_false] at this
    rw [List.all_eq_true]
    intro y hy
    have := this y hy
    simpa using this
  have hf : methodCallForm (args.length + ([] : List Keyword).length) (backTo pos (starEach args env)) (backToKw pos (keywordEach [] env)) = true := by
    unfold methodCallForm
    rw [hall]
    show (true && true && decide (args.length + 0 + 0 < 30)) = true
    simp; lia
  rw [arm_eval_Call, h1]
  unfold methodCall
  rw [hf]
  simp only [calleeOf, if_true, methodCallPos, hp, Bool.not_true, Bool.false_or, pure_bind]
theorem list_slot {x : Str} {id : String} (h : listId x = some id) : Slot "list" x id ∧ typeOf (.builtin id) = pure (.type "method_descriptor") := by
  unfold listId at h
  split at h
  · rename_i e; subst e; cases h; exact ⟨PySem.F.slot_list_append, PySem.F.type_list_append⟩
  split at h
  · rename_i e; subst e; cases h; exact ⟨PySem.F.slot_list_insert, PySem.F.type_list_insert⟩
  split at h
  · rename_i e; subst e; cases h; exact ⟨PySem.F.slot_list_pop, PySem.F.type_list_pop⟩
  split at h
  · rename_i e; subst e; cases h; exact ⟨PySem.F.slot_list_extend, PySem.F.type_list_extend⟩
  · cases h
theorem orAll_ok (S : SndR G r d) (X : CX) (O : Ok G X d) (op : BoolOp) (pos : Pos) : ∀ es, Snd G X (VR G) (eval (.BoolOp op es pos) X.env) (orAll r X.c op es) := by
  intro es
  induction es with
  | nil => intro σ f σ' h; cases h
  | cons e es ih =>
    cases es with
    | nil =>
      intro σ f σ' h s led Q E R k
      exact BoolOp_one (S.ev X O e _ _ _ h s led _ _ R k)
    | cons e2 es =>
      intro σ f σ' h s led Q E R k
      refine bnd (show (r.ev X.c e σ).bind _ = _ from h) fun a σ₁ h1 h2 => ?_
      cases a with
      | bool b =>
        have fin : ∀ (s : Shared) led, Rep G X led σ₁ s.heap → some (AV.bool b, σ₁) = some (f, σ') → (∀ v h' tk led', Ext σ₁.h led σ'.h led' → Rep G X led' σ' h' → VR G led' f v → Q v { s with heap := h', toks := tk }) → ∀ tk, Q (.bool b) { s with toks := tk } :=
          fun s led R e k tk => by cases e; exact k _ _ _ _ (Ext.refl _ _) R rfl
        cases op with
        | And =>
          refine BoolOp_and (S.ev X O e _ _ _ h1 s led _ _ R fun v h' tk led' z1 z2 z3 => ?_)
          cases z3
          refine wpAny_truthy_bool ?_
          cases b with
          | false =>
            rw [if_neg (by decide)]
            cases h2
            exact k _ _ _ _ z1 z2 rfl
          | true => exact ih _ _ _ h2 _ led' _ _ z2 fun v2 h2 tk2 led2 y1 y2 y3 => k v2 h2 tk2 led2 (z1.trans y1) y2 y3
        | Or =>
          refine BoolOp_or (S.ev X O e _ _ _ h1 s led _ _ R fun v h' tk led' z1 z2 z3 => ?_)
          cases z3
          refine wpAny_truthy_bool ?_
          cases b with
          | true =>
            rw [if_pos rfl]
            cases h2
            exact k _ _ _ _ z1 z2 rfl
          | false => exact ih _ _ _ h2 _ led' _ _ z2 fun v2 h2 tk2 led2 y1 y2 y3 => k v2 h2 tk2 led2 (z1.trans y1) y2 y3
      | _ => exact no_some h2
theorem trAll_ok (S : SndR G r d) (X : CX) (O : Ok G X d) (op : BoolOp) : ∀ es, Snd G X (fun _ b v => v = b) (allTrue op es X.env) (trAll r X.c op es) := by
  intro es
  induction es with
  | nil =>
    intro σ f σ' h s led Q E R k
    cases h
    cases op with
    | And => exact wpAny_allTrue_And_nil (k _ _ s.toks _ (Ext.refl _ _) R rfl)
    | Or => exact wpAny_allTrue_Or_nil (k _ _ s.toks _ (Ext.refl _ _) R rfl)
  | cons e es ih =>
    intro σ f σ' h s led Q E R k
    refine bnd (show (r.tr X.c e σ).bind _ = _ from h) fun b σ₁ h1 h2 => ?_
    cases op with
    | And =>
      refine wpAny_allTrue_And_cons (S.tr X O e _ _ _ h1 s led _ _ R fun v h' tk led' z1 z2 z3 => ?_)
      subst z3
      cases v with
      | false => cases h2; exact k _ _ _ _ z1 z2 rfl
      | true => exact ih _ _ _ h2 _ led' _ _ z2 fun v2 h2 tk2 led2 y1 y2 y3 => k v2 h2 tk2 led2 (z1.trans y1) y2 y3
    | Or =>
      refine wpAny_allTrue_Or_cons (S.tr X O e _ _ _ h1 s led _ _ R fun v h' tk led' z1 z2 z3 => ?_)
      subst z3
      cases v with
      | true => cases h2; exact k _ _ _ _ z1 z2 rfl
      | false => exact ih _ _ _ h2 _ led' _ _ z2 fun v2 h2 tk2 led2 y1 y2 y3 => k v2 h2 tk2 led2 (z1.trans y1) y2 y3
theorem set_marks {op : CmpOp} {e : Expr} (h : isSet e = false) : behindInMarks op e = false := by
  cases e <;> first | rfl | cases h
theorem set_fold {e : Expr} {env : Env} (h : isSet e = false) (x : Value) : foldedSetIterable e env x = pure x := by
  cases e <;> first | rfl | cases h
end
end Mine.S
end
section
open PySem PySem.W PyProof.Rows PySem.Calls
namespace Mine.S
section
variable {G : Gl} {P : Prog} {r : R} {d : Nat}
theorem forIn_false {env : Env} : ∀ ifs : List Expr, (forIn ifs false fun (c : Expr) (r : Bool) => if r = true then do
      let ok ← PySem.isTrue c env (eval c env)
      pure (ForInStep.yield ok)
    else (pure (ForInStep.yield r) : Sem _)) = pure false := by
  intro ifs
  induction ifs with
  | nil => rfl
  | cons c cs ih => rw [List.forIn_cons, if_neg (by decide), pure_bind]; exact ih
theorem trs_ok (S : SndR G r d) (X : CX) (O : Ok G X d) : ∀ ifs, Snd G X (fun _ b v => v = b) (forIn ifs true fun (c : Expr) (r : Bool) => if r = true then do
      let ok ← PySem.isTrue c X.env (eval c X.env)
      pure (ForInStep.yield ok)
    else pure (ForInStep.yield r)) (trs r X.c ifs) := by
  intro ifs
  induction ifs with
  | nil =>
    intro σ f σ' h s led Q E R k
    cases h
    exact wpAny_pure (k _ _ s.toks _ (Ext.refl _ _) R rfl)
  | cons c cs ih =>
    intro σ f σ' h s led Q E R k
    refine bnd (show (r.tr X.c c σ).bind _ = _ from h) fun b σ₁ h1 h2 => ?_
    rw [List.forIn_cons, if_pos rfl]
    refine wpAny_bind (wpAny_bind (S.tr X O c _ _ _ h1 s led _ _ R fun v h' tk led' z1 z2 z3 => wpAny_pure ?_))
    subst z3
    cases v with
    | true => exact ih _ _ _ h2 _ led' _ _ z2 fun v2 h2 tk2 led2 y1 y2 y3 => k v2 h2 tk2 led2 (z1.trans y1) y2 y3
    | false =>
      cases h2
      show wpAny _ _ (forIn cs false _) _ _ _
      rw [forIn_false]
      exact wpAny_pure (k _ _ _ _ z1 z2 rfl)
theorem storeLoc {X : CX} {x : Str} {v : AV} {σ : St} (hx : X.c.kind x = some .local) : storeN X.c x v σ = some { σ with loc := upd σ.loc x v } := by
  unfold storeN; rw [hx]
theorem compLoop_ok (S : SndR G r d) (X : CX) (O : Ok G X d) {x : Str} {xp pos : Pos} {iter elt : Expr} {ifs : List Expr} {scope : Scope} {it : AV} {acc : Nat} {vit : Value} {pacc : Addr} (hx : X.c.kind x = some .local)
    {n : Nat} {σ σf : St} (h : compN x it acc (trs r X.c ifs) (r.ev X.c elt) n σ = some σf) {s : Shared} {led : Led} (R : Rep G X led σ s.heap) (hit : VR G led it vit) (hacc : adr led acc = some pacc) {RR : Result → Shared → Prop}
    (k : ∀ h' tk led', Ext σ.h led σf.h led' → Rep G X led' σf h' → RR (.ok .next) { s with heap := h', toks := tk }) :
    codeAny (model G.prog G.w) X.A (.compLoop (.ListComp elt [⟨.Name x xp, iter, ifs, 0⟩] scope pos) 0 vit (.ref pacc) X.env) RR s := by
  refine codeAny_compLoop_tests (I := fun n s1 => ∃ led1 σ1 hh tk, s1 = { s with heap := hh, toks := tk } ∧ compN x it acc (trs r X.c ifs) (r.ev X.c elt) n σ1 = some σf ∧ Rep G X led1 σ1 hh ∧ Ext σ.h led σ1.h led1) ?_ n
    ⟨led, σ, s.heap, s.toks, rfl, h, R, Ext.refl _ _⟩
  rintro n s1 ⟨led1, σ1, hh, tk, rfl, h1, R1, E1⟩
  cases n with
  | zero => cases h1
  | succ n =>
    refine bnd (show (next it σ1).bind _ = _ from h1) fun o σ2 h2 h3 => ?_
    refine next_ok (s := { s with heap := hh, toks := tk }) O h2 R1 (hit.ext E1) fun v h' tk' led2 z1 z2 z3 => ?_
    cases o with
    | none =>
      cases z3
      cases h3
      exact k _ _ _ (E1.trans z1) z2
    | some a =>
      obtain ⟨v, rfl, z3⟩ := z3
      · refine wpAny_assign_Name (store_ok (s := { s with heap := h', toks := tk' }) O (storeLoc hx) z2 z3 fun h3' tk3 led3 w1 w2 => ?_)
        refine bnd h3 fun b σ3 h4 h5 => ?_
        refine trs_ok S X O ifs _ _ _ h4 { s with heap := h3', toks := tk3 } led3 _ _ w2 fun bv h4' tk4 led4 y1 y2 y3 => ?_
        subst y3
        have E2 := E1.trans (z1.trans (w1.trans y1))
        cases bv with
        | true =>
          rw [if_pos rfl] at h5 ⊢
          refine bnd h5 fun ea σ4 h6 h7 => bnd h7 fun _ σ5 h8 h9 => ?_
          refine S.ev X O elt _ _ _ h6 _ led4 _ _ y2 fun ve h5' tk5 led5 u1 u2 u3 => ?_
          have E3 := E2.trans u1
          obtain ⟨id, i1, i2⟩ := listM_ok (s := { s with heap := h5', toks := tk5 }) (vs := [ve]) (E := notedBy (model G.prog G.w) X.A X.env fun (e : Value) (s' : Shared) => RR (Except.error e) s')
            (Q := fun _ s5 => ∃ m, m < n + 1 ∧ ∃ led1 σ1 hh tk, s5 = { s with heap := hh, toks := tk } ∧ compN x it acc (trs r X.c ifs) (r.ev X.c elt) m σ1 = some σf ∧ Rep G X led1 σ1 hh ∧ Ext σ.h led σ1.h led1)
            O h8 u2 (E3.ad _ _ hacc) (.cons u3 .nil) fun _ h6' tk6 led6 x1 x2 _ => ⟨n, Nat.lt_succ_self n, led6, σ5, h6', tk6, rfl, h9, x2, E3.trans x1⟩
          have : id = "list.append" := by
            have : listId (Str.ofString "append") = some "list.append" := by decide
            exact Option.some.inj (i1.symm.trans this)
          subst this
          exact i2
        | false =>
          rw [if_neg Bool.false_ne_true] at h5 ⊢
          exact ⟨n, Nat.lt_succ_self n, led4, σ3, h4', tk4, rfl, h5, y2, E2⟩
theorem whileLoop_ok (S : SndR G r d) (X : CX) (O : Ok G X d) {test : Expr} {body : List Stmt}
    {n : Nat} {σ σf : St} {fl : Fl} (h : whileN (r.tr X.c test) (exs r X.c body) n σ = some (fl, σf)) {s : Shared} {led : Led} (R : Rep G X led σ s.heap) {RR : Result → Shared → Prop}
    (k : ∀ v h' tk led', Ext σ.h led σf.h led' → Rep G X led' σf h' → FlR G led' fl v → RR (.ok v) { s with heap := h', toks := tk }) :
    codeAny (model G.prog G.w) X.A (.whileLoop test body [] X.env) RR s := by
  refine codeAny_whileLoop (I := fun n s1 => ∃ led1 σ1 hh tk, s1 = { s with heap := hh, toks := tk } ∧ whileN (r.tr X.c test) (exs r X.c body) n σ1 = some (fl, σf) ∧ Rep G X led1 σ1 hh ∧ Ext σ.h led σ1.h led1) ?_ n
    ⟨led, σ, s.heap, s.toks, rfl, h, R, Ext.refl _ _⟩
  rintro n s1 ⟨led1, σ1, hh, tk, rfl, h1, R1, E1⟩
  cases n with
  | zero => cases h1
  | succ n =>
    refine bnd (show (r.tr X.c test σ1).bind _ = _ from h1) fun b σ2 h2 h3 => ?_
    refine S.tr X O test _ _ _ h2 { s with heap := hh, toks := tk } led1 _ _ R1 fun bv h' tk' led2 z1 z2 z3 => ?_
    subst z3
    cases bv with
    | false =>
      rw [if_neg Bool.false_ne_true] at h3 ⊢
      cases h3
      exact wpAny_execs_nil (k _ _ _ _ (E1.trans z1) z2 rfl)
    | true =>
      rw [if_pos rfl] at h3 ⊢
      refine bnd h3 fun f2 σ3 h4 h5 => ?_
      refine execs_ok S X O body _ _ _ h4 { s with heap := h', toks := tk' } led2 _ _ z2 fun fv h3' tk3 led3 w1 w2 w3 => ?_
      have E2 := E1.trans (z1.trans w1)
      cases f2 with
      | next => cases w3; exact ⟨n, Nat.lt_succ_self n, led3, σ3, h3', tk3, rfl, h5, w2, E2⟩
      | cont => cases w3; exact ⟨n, Nat.lt_succ_self n, led3, σ3, h3', tk3, rfl, h5, w2, E2⟩
      | ret w =>
        obtain ⟨y, rfl, hy⟩ := w3
        cases h5
        exact k _ _ _ _ E2 w2 ⟨y, rfl, hy⟩
theorem forLoop_ok (S : SndR G r d) (X : CX) (O : Ok G X d) {x : Str} {xp : Pos} {body : List Stmt} {it : AV} {vit : Value} (hx : X.c.kind x = some .local)
    {n : Nat} {σ σf : St} {fl : Fl} (h : forN x it (exs r X.c body) n σ = some (fl, σf)) {s : Shared} {led : Led} (R : Rep G X led σ s.heap) (hit : VR G led it vit) {RR : Result → Shared → Prop}
    (k : ∀ v h' tk led', Ext σ.h led σf.h led' → Rep G X led' σf h' → FlR G led' fl v → RR (.ok v) { s with heap := h', toks := tk }) :
    codeAny (model G.prog G.w) X.A (.forLoop (.Name x xp) vit body [] X.env) RR s := by
  refine codeAny_forLoop (I := fun n s1 => ∃ led1 σ1 hh tk, s1 = { s with heap := hh, toks := tk } ∧ forN x it (exs r X.c body) n σ1 = some (fl, σf) ∧ Rep G X led1 σ1 hh ∧ Ext σ.h led σ1.h led1) ?_ n
    ⟨led, σ, s.heap, s.toks, rfl, h, R, Ext.refl _ _⟩
  rintro n s1 ⟨led1, σ1, hh, tk, rfl, h1, R1, E1⟩
  cases n with
  | zero => cases h1
  | succ n =>
    refine bnd (show (next it σ1).bind _ = _ from h1) fun o σ2 h2 h3 => ?_
    refine next_ok (s := { s with heap := hh, toks := tk }) O h2 R1 (hit.ext E1) fun v h' tk' led2 z1 z2 z3 => ?_
    cases o with
    | none =>
      cases z3
      cases h3
      exact wpAny_execs_nil (k _ _ _ _ (E1.trans z1) z2 rfl)
    | some a =>
      obtain ⟨v, rfl, z3⟩ := z3
      · refine wpAny_assign_Name (store_ok (s := { s with heap := h', toks := tk' }) O (storeLoc hx) z2 z3 fun h3' tk3 led3 w1 w2 => ?_)
        refine bnd h3 fun f2 σ3 h4 h5 => ?_
        refine execs_ok S X O body _ _ _ h4 { s with heap := h3', toks := tk3 } led3 _ _ w2 fun fv h4' tk4 led4 y1 y2 y3 => ?_
        have E2 := E1.trans (z1.trans (w1.trans y1))
        cases f2 with
        | next => cases y3; exact ⟨n, Nat.lt_succ_self n, led4, σ3, h4', tk4, rfl, h5, y2, E2⟩
        | cont => cases y3; exact ⟨n, Nat.lt_succ_self n, led4, σ3, h4', tk4, rfl, h5, y2, E2⟩
        | ret w =>
          obtain ⟨y, rfl, hy⟩ := y3
          cases h5
          exact k _ _ _ _ E2 y2 ⟨y, rfl, hy⟩
end
end Mine.S
end
section
open PySem PySem.W PyProof.Rows PySem.Calls
namespace Mine.S
section
variable {G : Gl} {P : Prog} {r : R} {d : Nat}
noncomputable def closOf (env : Env) : List (Str × NameKind) → List (Str × Addr) → List (Str × Addr)
  | [], cs => cs
  | (n, k) :: r, cs => closOf env r (if k == .free then (n, (env.cells.lookup n).getD 0) :: cs else cs)
theorem clos_eq {env : Env} : ∀ (names : List (Str × NameKind)) (cs : List (Str × Addr)), (∀ p ∈ names, p.2 = .free → (env.cells.lookup p.1).isSome = true) →
    (forIn names cs fun x cs => if (x.2 == NameKind.free) = true then do
        let a ← cellOf env x.1
        pure (ForInStep.yield ((x.1, a) :: cs))
      else (pure (ForInStep.yield cs) : Sem _)) = pure (closOf env names cs)
  | [], cs, _ => rfl
  | (n, k) :: r, cs, h => by
    rw [List.forIn_cons]
    by_cases hk : k = .free
    · subst hk
      have h1 := h (n, .free) (.head _) rfl
      simp only at h1
      obtain ⟨a, ha⟩ := Option.isSome_iff_exists.mp h1
      have hc : cellOf env n = pure a := by unfold cellOf; rw [ha]
      simp only [BEq.rfl, if_true, hc, pure_bind]
      rw [clos_eq r _ fun p hp => h p (.tail _ hp)]
      simp [closOf, ha]
    · have : (k == NameKind.free) = false := by cases k <;> first | rfl | exact absurd rfl hk
      simp only [this, Bool.false_eq_true, if_false, pure_bind]
      rw [clos_eq r _ fun p hp => h p (.tail _ hp)]
      simp [closOf, this]
theorem clos_for {scope : Scope} {env : Env} (h : ∀ p ∈ scope.names, p.2 = .free → (env.cells.lookup p.1).isSome = true) : closureFor scope env = pure (closOf env scope.names []) := by
  have e := clos_eq scope.names [] h
  unfold closureFor
  simp only
  exact (congrArg (fun t => t >>= fun r => pure r) e).trans (pure_bind _ _)
theorem clos_lookup {env : Env} {x : Str} : ∀ (names : List (Str × NameKind)) (cs : List (Str × Addr)), (∀ p ∈ names, p.2 = .free → (env.cells.lookup p.1).isSome = true) →
    ((x, NameKind.free) ∈ names ∨ cs.lookup x = env.cells.lookup x ∧ (env.cells.lookup x).isSome = true) → (closOf env names cs).lookup x = env.cells.lookup x
  | [], cs, _, h => by
    rcases h with h | h
    · cases h
    · exact h.1
  | (n, k) :: r, cs, hh, h => by
    unfold closOf
    by_cases hk : k = .free
    · subst hk
      simp only [BEq.rfl, if_true]
      have h1 := hh (n, .free) (.head _) rfl
      simp only at h1
      obtain ⟨a, ha⟩ := Option.isSome_iff_exists.mp h1
      refine clos_lookup r _ (fun p hp => hh p (.tail _ hp)) ?_
      by_cases hx : x = n
      · subst hx
        right
        rw [List.lookup_cons]
        simp [ha]
      · rcases h with h | h
        · left
          rcases List.mem_cons.mp h with h | h
          · cases h; exact absurd rfl hx
          · exact h
        · right
          rw [List.lookup_cons, beq_eq_false_iff_ne.mpr hx]
          exact h
    · have : (k == NameKind.free) = false := by cases k <;> first | rfl | exact absurd rfl hk
      rw [if_neg (by rw [this]; decide)]
      refine clos_lookup r _ (fun p hp => hh p (.tail _ hp)) ?_
      rcases h with h | h
      · left
        rcases List.mem_cons.mp h with h | h
        · cases h; exact absurd rfl hk
        · exact h
      · exact .inr h
theorem relabel_kind {scope : Scope} {env : Env} {c : Cx} (hk : env.scope.kind = .function) (kind : ∀ x, c.kind x = env.kindOf x) (x : Str) : compKind c scope.names x = (relabel scope env).names.lookup x := by
  unfold compKind relabel
  simp only
  generalize scope.names = l
  induction l with
  | nil => rfl
  | cons p l ih =>
    obtain ⟨n, k⟩ := p
    rw [List.map_cons, List.lookup_cons]
    by_cases hx : x = n
    · subst hx
      simp only [BEq.rfl]
      rw [kind x, hk]
      cases k <;> simp
      split
      · rename_i h; simp [h]
      · rename_i h
        have : (env.kindOf x == some NameKind.cell) = false := by
          cases q : env.kindOf x with
          | none => rfl
          | some z => cases z <;> first | rfl | exact absurd q h
        simp [this]
    · rw [beq_eq_false_iff_ne.mpr hx]
      simp only
      rw [ih]
      have hx' : (x == n) = false := beq_eq_false_iff_ne.mpr hx
      split
      · simp only [List.lookup_cons, hx']
      · simp only [List.lookup_cons, hx']
theorem Rep.but {X : CX} {led : Led} {σ : St} {h h' : Heap} {C : Addr} (R : Rep G X led σ h) (k : Heap.ExtBut C h h') (h1 : C ≠ X.L) (h2 : ∀ p ∈ led, p.1 ≠ C) (h3 : X.h₀.get? C = none) : Rep G X led σ h' := by
  obtain ⟨m, F, q⟩ := R.fr
  refine ⟨⟨m, ⟨F.ns.at fun o e => k _ _ (Ne.symm h1) e, fun b o e => k b o (fun z => by rw [z, h3] at e; cases e) (F.keep b o e), F.above⟩, q⟩, fun p hp => ⟨k _ _ (h2 p hp) (R.news p hp).1, (R.news p hp).2⟩, R.nodup, R.len, R.objs, R.low, R.big, R.cells⟩
theorem iter_again {X : CX} {led : Led} {a it : AV} {vi : Value} {σ σ₂ : St} {s : Shared} {E : Value → Shared → Prop} {Q : Value → Shared → Prop} (h : mkIter a σ = some (it, σ₂)) (R : Rep G X led (σ₂.alloc (.list [])) s.heap) (hv : VR G led it vi) (hQ : Q vi s) :
    wpAny (model G.prog G.w) X.A (pyIter vi) Q E s := by
  cases a with
  | ref i =>
    refine mpd (show (iterAt i σ).map _ = _ from h) fun q e h => ?_
    obtain ⟨ao, σ₁⟩ := q
    cases h
    obtain ⟨p, hp, rfl⟩ := hv
    have e2 : ((σ₁.alloc ao).alloc (.list [])).h[σ₁.h.length]? = some ao := by
      show (σ₁.h ++ [ao] ++ [_])[_]? = _
      rw [List.append_assoc, List.getElem?_append_right (Nat.le_refl _), Nat.sub_self]; rfl
    refine Rep.at' R e2 hp fun ob i1 i3 hob => ?_
    have hob := hob
    refine iter_inv e (fun xs _ q _ => ?_) (fun n _ _ q _ => ?_) fun es _ q _ => ?_
    · rw [q] at hob; obtain ⟨x, g1, g2, g3⟩ := hob; exact wpAny_pyIter_listiter ⟨ob, i3, g2, g3⟩ hQ
    · rw [q] at hob; have hob : ob = _ := hob; rw [hob] at i3; exact wpAny_pyIter_rangeiter i3 hQ
    · rw [q] at hob; obtain ⟨x, xs, ep, od, es, g1, g2, g3, g6, g7⟩ := hob; exact wpAny_pyIter_keyiter ⟨ob, i3, g6, g7⟩ hQ
  | _ => exact no_some h
theorem comp_core (S : SndR G r d) (X : CX) (O : Ok G X d) {x : Str} {xp pos p2 : Pos} {iter elt : Expr} {ifs : List Expr} {scope : Scope} {v : AV} {σ σ' : St} (h : compE r X.c elt x iter ifs scope σ = some (v, σ'))
    {s : Shared} {led : Led} (R : Rep G X led σ s.heap) {use : Option (Value → Sem Unit)} {Q E : Value → Shared → Prop}
    (k : ∀ va h' tk led' C, Ext σ.h led σ'.h led' → Rep G X led' σ' h' → VR G led' v va → (∃ m, h'.Ns C m) → C ≠ X.L → (∀ p ∈ led', p.1 ≠ C) → X.h₀.get? C = none →
      compPost (model G.prog G.w) X.A E use Q va C (.ok .next) { s with heap := h', toks := tk }) :
    wpAny (model G.prog G.w) X.A (comprehension (.ListComp elt [⟨.Name x xp, iter, ifs, 0⟩] scope pos) scope X.env p2 (newList []) false (eval iter X.env) use) Q E s := by
  refine ifn (show (if _ then none else _) = _ from h) fun hg h => ?_
  · simp only [Bool.or_eq_true, not_or, Bool.not_eq_true, Bool.not_eq_false'] at hg
    obtain ⟨⟨⟨hcmp, hset⟩, hkind⟩, hok⟩ := hg
    have hkind : scope.kind = .function := by simpa using hkind
    simp only [compOk, Bool.and_eq_true, List.all_eq_true] at hok
    obtain ⟨hxl, hall⟩ := hok
    have hxl : scope.names.lookup x = some .local := by simpa using hxl
    have hfree : ∀ p ∈ scope.names, p.2 = .free → X.c.kind p.1 = some .cell ∧ (X.c.cells.lookup p.1).isSome = true := fun p hp e => by
      have := hall p hp
      rw [e] at this
      simpa using this
    have hloc : ∀ p ∈ scope.names, p.2 = .local → scope.names.lookup p.1 = some .local := fun p hp e => by
      have := hall p hp
      rw [e] at this
      simpa using this
    have hnc : ∀ p ∈ scope.names, p.2 ≠ .cell := fun p hp e => by
      have := hall p hp
      rw [e] at this
      simp at this
    refine bnd h fun a σ₁ e1 h2 => bnd h2 fun it σ₂ e2 h3 => bnd1 h3 fun σ₃ e3 h4 => ?_
    cases h4
    have hcell : ∀ p ∈ scope.names, p.2 = .free → (X.env.cells.lookup p.1).isSome = true := fun p hp e => by
      obtain ⟨g1, g2⟩ := hfree p hp e
      obtain ⟨i, hi⟩ := Option.isSome_iff_exists.mp g2
      obtain ⟨b, hb, _⟩ := R.cells p.1 i g1 hi
      rw [hb]; rfl
    refine wpAny_comprehension_free (cl := closOf X.env scope.names []) rfl (set_fold hset) (clos_for hcell) hkind hloc ?_
    refine S.ev X O iter _ _ _ e1 s led _ _ R fun va h1 tk1 led1 z1 z2 z3 => ?_
    refine mkIter_ok (s := { s with heap := h1, toks := tk1 }) e2 z2 z3 fun vi h2' tk2 led2 y1 y2 y3 => ?_
    refine wpAny_newList ?_ (by simp)
    obtain ⟨w1, w2, w3⟩ := y2.alloc (ao := .list []) (h' := h2'.push { cls := .type "list", data := .seq ([] : List Value).toArray }) (fun b o e => Heap.get?_push_of_some _ e) (Nat.le_refl _) (Heap.get?_push_size _ rfl) ⟨rfl, rfl, _, 0, rfl, .nil⟩
    generalize hH : h2'.push { cls := .type "list", data := .seq ([] : List Value).toArray } = H at *
    generalize hled : led2 ++ [(h2'.objs.size, ({ cls := .type "list", data := .seq ([] : List Value).toArray } : Obj))] = led3 at *
    refine wpAny_newFunctionEnv hnc (fun y hy => by cases hy) (fun h4 hns hsb => ?_) hkind
    simp only at hns hsb ⊢
    obtain ⟨m3, F3, q3⟩ := w2.fr
    have hCL : H.objs.size ≠ X.L := Nat.ne_of_gt F3.ns.lt
    have hC0 : X.h₀.get? H.objs.size = none := by
      cases q : X.h₀.get? H.objs.size with
      | none => rfl
      | some o => exact absurd (Heap.lt_size (F3.keep _ _ q)) (Nat.lt_irrefl _)
    have hkeep : ∀ b o, H.get? b = some o → h4.get? b = some o := fun b o e =>
      hsb.extBut b o (Nat.ne_of_lt (Heap.lt_size e)) (Heap.get?_push_of_some _ e)
    have nm : ∀ b o, X.h₀.get? b = some o → b ∉ led3.map (·.1) := fun b o e q => by
      obtain ⟨p, hp, rfl⟩ := List.mem_map.mp q
      rw [(w2.news p hp).2.2] at e; cases e
    have st : ∀ b o, X.h₀.get? b = some o → (hideAll H (led3.map (·.1))).get? b = some o := fun b o e => hideAll_get _ (F3.keep b o e) (nm b o e)
    have nL : X.L ∉ led3.map (·.1) := fun q => by
      obtain ⟨p, hp, e⟩ := List.mem_map.mp q
      exact (w2.news p hp).2.1 e
    have FG : Fr X.h₀ X.L (hideAll H (led3.map (·.1))) m3 := ⟨F3.ns.at fun o e => hideAll_get _ e nL, st, F3.above⟩
    have gC : (hideAll H (led3.map (·.1))).get? H.objs.size = none := by
      cases q : (hideAll H (led3.map (·.1))).get? H.objs.size with
      | none => rfl
      | some o => exact absurd (Heap.lt_size (of_hideAll _ q)) (Nat.lt_irrefl _)
    let env' : Env := { newEnv scope H.objs.size X.env.globals (closOf X.env scope.names []) X.env.qual none Value.none (some X.env) builtinsNs with scope := relabel scope X.env }
    let X' : CX := ⟨compCx X.c scope.names, X.A, hideAll H (led3.map (·.1)), H.objs.size, env'⟩
    have hkd : ∀ y, X'.c.kind y = X'.env.kindOf y := fun y => relabel_kind O.hk O.kind y
    have O' : Ok G X' d :=
      { hk := hkind, hl := rfl, hg := O.hg, hb := O.hb, kind := hkd, kin := O.kin.keeps st, top := O.top.keeps st, hh := O.hh, depth := O.depth, units := O.units, stand := fun e => by cases e }
    have R' : Rep G X' led3 { (σ₂.alloc (.list [])) with loc := fun _ => none } h4 := by
      refine ⟨⟨_, ⟨hns, fun b o e => hkeep b o (of_hideAll _ e), Nat.le_of_eq (hideAll_size _ _)⟩, fun y w e => by cases e⟩, fun p hp => ⟨hkeep _ _ (w2.news p hp).1, Nat.ne_of_lt (Heap.lt_size (w2.news p hp).1), hideAll_none _ (List.mem_map_of_mem hp)⟩, w2.nodup, w2.len, w2.objs, w2.low, ?_, fun y i g1 g2 => ?_⟩
      · show sysModules < (hideAll H (led3.map (·.1))).objs.size
        rw [hideAll_size]
        exact Nat.lt_of_lt_of_le R.big (Nat.le_trans F3.above (Nat.le_of_lt F3.ns.lt))
      · have g1' : compKind X.c scope.names y = some .cell := g1
        have hyf : scope.names.lookup y = some .free := by
          unfold compKind at g1'
          split at g1'
          · rename_i e; exact e
          · exact absurd rfl (hnc _ (mem_of_lookup g1'))
        have hym := mem_of_lookup hyf
        obtain ⟨b, b1, b2⟩ := w2.cells y i (hfree _ hym rfl).1 g2
        refine ⟨b, ?_, b2⟩
        show (closOf X.env scope.names []).lookup y = some b
        rw [clos_lookup scope.names [] hcell (.inl hym)]
        exact b1
    have back : ∀ h5 led5, Ext (σ₂.alloc (.list [])).h led3 σ₃.h led5 → Rep G X' led5 σ₃ h5 → Rep G X led5 { σ₃ with loc := σ₂.loc } h5 := fun h5 led5 x1 x2 => by
      obtain ⟨m5, F5, _⟩ := x2.fr
      refine ⟨⟨m3, FG.keeps F5.keep, fun y w e => let ⟨rv, g1, g2⟩ := q3 y w e; ⟨rv, g1, g2.ext x1⟩⟩, fun p hp => ⟨(x2.news p hp).1, fun e => ?_, ?_⟩, x2.nodup, x2.len, x2.objs, x2.low, R.big, fun y i g1 g2 => let ⟨b, b1, b2⟩ := w2.cells y i g1 g2; ⟨b, b1, x1.ad _ _ b2⟩⟩
      · obtain ⟨_, _, _, hL, _⟩ := FG.ns
        have := (x2.news p hp).2.2
        rw [e] at this
        rw [this] at hL; cases hL
      · cases q : X.h₀.get? p.1 with
        | none => rfl
        | some o => have := (x2.news p hp).2.2; rw [st _ _ q] at this; cases this
    have back4 : ∀ h5, Rep G X' led3 { (σ₂.alloc (.list [])) with loc := fun _ => none } h5 → Rep G X led3 (σ₂.alloc (.list [])) h5 := fun h5 x2 => by
      obtain ⟨m5, F5, _⟩ := x2.fr
      exact ⟨⟨m3, FG.keeps F5.keep, q3⟩, fun p hp => ⟨(x2.news p hp).1, (w2.news p hp).2⟩, x2.nodup, x2.len, x2.objs, x2.low, R.big, w2.cells⟩
    have hitR : Heap.SameBut H.objs.size (H.push { cls := .type "dict", data := .dict #[] }) h4 := hsb
    have loop : codeAny (model G.prog G.w) X.A (.compLoop (.ListComp elt [⟨.Name x xp, iter, ifs, 0⟩] scope pos) 0 vi (.ref h2'.objs.size) env') (compPost (model G.prog G.w) X.A E use Q (.ref h2'.objs.size) H.objs.size) { s with heap := h4, toks := tk2 } := by
      refine compLoop_ok S X' O' (it := it) (acc := σ₂.h.length) (by show compKind X.c scope.names x = _; unfold compKind; rw [hxl]) e3 R' (y3.ext w1) w3 fun h5 tk5 led5 x1 x2 => ?_
      obtain ⟨m5, F5, _⟩ := x2.fr
      refine k _ h5 tk5 led5 H.objs.size ((z1.trans y1).trans (w1.trans x1)) (back h5 led5 x1 x2) ⟨_, x1.ad _ _ w3, rfl⟩ ⟨m5, F5.ns⟩ hCL (fun p hp => (x2.news p hp).2.1) hC0
    refine codeAny_compStart_list loop ?_
    have R4 : Rep G X led3 (σ₂.alloc (.list [])) h4 :=
      back4 h4 R'
    exact iter_again e2 R4 (y3.ext w1) loop
end
end Mine.S
end
section
open PySem PySem.W PyProof.Rows PySem.Calls
namespace Mine.S
section
variable {G : Gl} {P : Prog} {r : R} {d : Nat}
theorem assign_ok (PK : ProgOK G P) (S : SndR G r d) (X : CX) (O : Ok G X d) {t : Expr} {v : AV} {vv : Value} {σ σ' : St} (h : Mine.assign P r X.c t v σ = some σ') {s : Shared} {led : Led} {Q : Unit → Shared → Prop} {E : Value → Shared → Prop}
    (R : Rep G X led σ s.heap) (hv : VR G led v vv) (k : KU G X led σ σ' s Q) :
    wpAny (model G.prog G.w) X.A (PySem.assign t X.env vv) Q E s := by
  cases t with
  | Name x p => exact wpAny_assign_Name (store_ok O h R hv k)
  | Attribute o x p =>
    refine ifn (show (if isCall o = true then none else _) = _ from h) fun _ h => bnd h fun a σ₁ h1 h2 => ?_
    rw [arm_assign_Attribute]
    refine wpAny_bind (wpAny_holding (S.ev X O _ _ _ _ h1 s led _ _ R fun va h' tk led1 z1 z2 z3 => ?_))
    refine wpAny_bind (wpAny_standAt (wpAny_bind (wpAny_holding (setAttr_ok (s := { s with heap := h', toks := tk }) O PK h2 z2 z3 (hv.ext z1) fun h2' tk2 led2 y1 y2 => ?_))))
    exact wpAny_release (k _ _ _ (z1.trans y1) y2)
  | Subscript o i p =>
    refine bnd (show (r.ev X.c o σ).bind _ = _ from h) fun a σ₁ h1 h2 => bnd h2 fun b σ₂ h3 h4 => ?_
    rw [arm_assign_Subscript]
    refine wpAny_bind (wpAny_holding (S.ev X O _ _ _ _ h1 s led _ _ R fun va h' tk led1 z1 z2 z3 => ?_))
    refine wpAny_bind (wpAny_holding (S.ev X O _ _ _ _ h3 { s with heap := h', toks := tk } led1 _ _ z2 fun vb h2' tk2 led2 y1 y2 y3 => ?_))
    refine wpAny_bind (wpAny_standAt (wpAny_bind (wpAny_holding (setItem_ok (s := { s with heap := h2', toks := tk2 }) O h4 y2 (z3.ext y1) y3 (hv.ext (z1.trans y1)) fun h3' tk3 led3 x1 x2 => ?_))))
    exact wpAny_release (k _ _ _ (z1.trans (y1.trans x1)) x2)
  | _ => exact no_some h
theorem evs_len {c : Cx} : ∀ {es : List Expr} {σ p}, evs r c es σ = some p → p.1.length = es.length
  | [], _, _, h => by cases h; rfl
  | e :: es, σ, p, h => by
    refine ifn (show (if isStar e then none else _) = _ from h) fun _ h => bnd1 h fun q h1 h2 => bnd1 h2 fun z h3 h4 => ?_
    cases h4
    exact congrArg Nat.succ (evs_len h3)
theorem aConst {X : CX} {k : Const} {n : Nat} {p : Pos} : Snd G X (VR G) (eval (.Constant k n p) X.env) (fun σ => (constV k).map fun v => (v, σ)) := by
  intro σ v σ' h s led Q E R kk
  refine mpd h fun w h1 h2 => ?_
  cases h2
  cases k with
  | none => cases h1; exact wpAny_Constant_none (kk _ _ s.toks _ (Ext.refl _ _) R rfl)
  | bool b => cases h1; exact wpAny_Constant_bool (kk _ _ s.toks _ (Ext.refl _ _) R rfl)
  | int i => cases h1; exact wpAny_Constant_int (kk _ _ _ _ (Ext.refl _ _) R ⟨_, rfl⟩)
  | str x => cases h1; exact wpAny_Constant_str (kk _ _ _ _ (Ext.refl _ _) R ⟨_, rfl⟩)
  | _ => exact no_some h1
theorem aName (PK : ProgOK G P) {X : CX} (O : Ok G X d) {x : Str} {p : Pos} : Snd G X (VR G) (eval (.Name x p) X.env) (fun σ => (nameV P X.c x σ).map fun v => (v, σ)) := by
  intro σ v σ' h s led Q E R k
  refine mpd h fun w h1 h2 => ?_
  have k := k.eqp h2
  refine wpAny_Name (name_ok O PK h1 R fun rv hr => k _ _ s.toks _ (Ext.refl _ _) R hr) ?_
  unfold nameV at h1
  exact ifn h1 fun hne _ => beq_eq_false_iff_ne.mpr hne
section
variable (S : SndR G r d) (X : CX) (O : Ok G X d)
include S O
theorem aBin {a b : Expr} {op : Operator} {p : Pos} : Snd G X (VR G) (eval (.BinOp a op b p) X.env) (evBin r X.c a op b) := by
  intro σ v σ' h s led Q E R k
  refine bnd h fun a σ₁ h1 h2 => bnd h2 fun b σ₂ h3 h4 => ?_
  refine wpAny_BinOp (S.ev X O _ _ _ _ h1 s led _ _ R fun va h' tk led1 z1 z2 z3 => ?_)
  refine S.ev X O _ _ _ _ h3 { s with heap := h', toks := tk } led1 _ _ z2 fun vb h2' tk2 led2 y1 y2 y3 => ?_
  exact bin_ok (s := { s with heap := h2', toks := tk2 }) h4 y2 (z3.ext y1) y3 fun v h3' tk3 led3 x1 x2 x3 => k _ _ _ _ (z1.trans (y1.trans x1)) x2 x3
theorem aUn {a : Expr} {op : UnaryOp} {p : Pos} : Snd G X (VR G) (eval (.UnaryOp op a p) X.env) (evUn r X.c op a) := by
  intro σ v σ' h s led Q E R k
  cases op with
  | USub =>
    refine bnd (show (r.ev X.c a σ).bind _ = _ from h) fun a σ₁ h1 h2 => ?_
    cases a with
    | int i =>
      have k := k.eq h2
      refine wpAny_UnaryOp (S.ev X O _ _ _ _ h1 s led _ _ R fun va h' tk led1 z1 z2 z3 => ?_)
      obtain ⟨t, rfl⟩ := z3
      exact PySem.P.neg_int (k _ _ _ _ z1 z2 ⟨_, rfl⟩)
    | _ => exact no_some h2
  | Not =>
    refine bnd (show (r.ev X.c a σ).bind _ = _ from h) fun a σ₁ h1 h2 => ?_
    cases a with
    | bool b =>
      have k := k.eq h2
      refine wpAny_UnaryOp (S.ev X O _ _ _ _ h1 s led _ _ R fun va h' tk led1 z1 z2 z3 => ?_)
      cases z3
      exact not_value (wpAny_truthy_bool (k _ _ _ _ z1 z2 rfl))
    | _ => exact no_some h2
  | _ => exact no_some h
theorem aIf {t a b : Expr} {p : Pos} : Snd G X (VR G) (eval (.IfExp t a b p) X.env) (evIf r X.c t a b) := by
  intro σ v σ' h s led Q E R k
  refine bnd h fun b σ₁ h1 h2 => ?_
  refine wpAny_IfExp (S.tr X O _ _ _ _ h1 s led _ _ R fun bv h' tk led1 z1 z2 z3 => ?_)
  subst z3
  cases bv with
  | true => rw [if_pos rfl]; exact S.ev X O _ _ _ _ h2 { s with heap := h', toks := tk } led1 _ _ z2 fun v2 h2 tk2 led2 y1 y2 y3 => k v2 h2 tk2 led2 (z1.trans y1) y2 y3
  | false => rw [if_neg Bool.false_ne_true]; exact S.ev X O _ _ _ _ h2 { s with heap := h', toks := tk } led1 _ _ z2 fun v2 h2 tk2 led2 y1 y2 y3 => k v2 h2 tk2 led2 (z1.trans y1) y2 y3
theorem aCmp {a : Expr} {ops : List CmpOp} {bs : List Expr} {p : Pos} : Snd G X (VR G) (eval (.Compare a ops bs p) X.env) (evCmp r X.c a ops bs) := by
  intro σ v σ' h s led Q E R k
  refine bnd1 h fun op q1 h => bnd1 h fun b q2 h => ifn h fun hs h => bnd h fun a σ₁ h1 h2 => bnd h2 fun b σ₂ h3 h4 => mpd h4 fun rr h5 h6 => ?_
  rw [one_of q1, one_of q2]
  have k := k.eqp h6
  refine wpAny_Compare1 (S.ev X O _ _ _ _ h1 s led _ _ R fun va h' tk led1 z1 z2 z3 => ?_) (set_marks (Bool.not_eq_true _ |>.mp hs))
  refine S.ev X O _ _ _ _ h3 { s with heap := h', toks := tk } led1 _ _ z2 fun vb h2' tk2 led2 y1 y2 y3 => ?_
  exact cmp_ok (s := { s with heap := h2', toks := tk2 }) O h5 y2 (z3.ext y1) y3 fun tk3 => k _ _ _ _ (z1.trans y1) y2 rfl
omit S in
theorem kin_of' {led : Led} {σ : St} {hh : Heap} (R : Rep G X led σ hh) : G.K.In hh := by
  obtain ⟨m3, F3, _⟩ := R.fr
  exact O.kin.keeps F3.keep
theorem args_ok {pos : Pos} {args : List Expr} {as : List AV} {σ₁ σ₂ : St} {vf : Value} {first : List Value} {s : Shared} {led1 : Led} {Q E : Value → Shared → Prop} (h5 : evs r X.c args σ₁ = some (as, σ₂)) (R : Rep G X led1 σ₁ s.heap)
    (hk : keepIn G.K vf = true ∨ (∃ id, vf = .builtin id) ∨ ∃ T, vf = .type T)
    (call' : ∀ hh tk led3 vs, Rep G X led3 σ₂ hh → Ext σ₁.h led1 σ₂.h led3 → L2 (VR G led3) as vs → wpAny (model G.prog G.w) X.A (call vf (first ++ vs)) Q E { s with heap := hh, toks := tk }) :
    wpAny (model G.prog G.w) X.A (callWith pos vf first (backTo pos (starEach args X.env)) []) Q E s := by
  refine with_ok (evs_plain h5) hk (fun hnil => ?_) ?_
  · subst hnil
    cases h5
    exact ⟨kin_of' X O R, call' s.heap s.toks led1 [] R (Ext.refl _ _) .nil⟩
  · exact evs_ok S X O pos args _ _ _ h5 s led1 _ _ R fun vs h3' tk3 led3 y1 y2 y3 => ⟨kin_of' X O y2, call' h3' tk3 led3 vs y2 y1 y3⟩
theorem aMethI (PK : ProgOK G P) {o : Expr} {x : Str} {ap pos : Pos} {args : List Expr} {ai kc dd f : Nat} {K : Cls} {fs : List (Str × AV)} {as : List AV} {v : AV} {σ σ₁ σ₂ σ' : St} {s : Shared} {led : Led} {Q E : Value → Shared → Prop} (hn : args.length ≤ 5) (hc : isCall o = false) (hp : (ap.endLine == pos.line) = true) (hcc : X.c.inComp = false)
    (h1 : r.ev X.c o σ = some (.ref ai, σ₁)) (hob : σ₁.h[ai]? = some (.inst kc dd)) (hK : P.cls kc = some K) (hfs : σ₁.h[dd]? = some (.flds fs)) (hnone : getF x fs = none) (h3 : K.meths.lookup x = some f) (h5 : evs r X.c args σ₁ = some (as, σ₂)) (h6 : r.fn f (.ref ai :: as) σ₂ = some (v, σ')) (R : Rep G X led σ s.heap)
    (k : KV G X led σ σ' v s Q) : wpAny (model G.prog G.w) X.A (eval (.Call (.Attribute o x ap) args [] pos) X.env) Q E s := by
  refine methodCall_KW (pl := do return (← importBound o X.env).getD true) (S.ev X O _ _ _ _ h1 s led _ _ R fun va h' tk led1 z1 z2 z3 => ?_) (meth_he hc (evs_plain h5) hn hp)
  obtain ⟨px, hpx, rfl⟩ := z3
  obtain ⟨y, dx, es, n, g1, g2, g3, g4, g5⟩ := inst_of (s := { s with heap := h', toks := tk }) z2 hob hfs
  obtain rfl : y = px := Option.some.inj (g1.symm.trans hpx)
  obtain ⟨m, F, q⟩ := z2.fr
  have CK := PK.cls kc K hK
  obtain ⟨m1, m2⟩ := CK.meth x f h3
  refine method_inst F O.kin g3 (CK.pget x) m1 m2 ((getF_getL (x := x) g5).2.1 hnone) ?_
  refine args_ok S X O (s := { s with heap := h', toks := tk }) h5 z2 (.inl (PK.keepF f)) fun hh tt led3 vs R3 E3 L3 => ?_
  exact wpAny_call (S.fn X O hcc f (.ref ai :: as) (.ref y :: vs) σ₂ v σ' h6 _ led3 (callEnd Q E) R3 (.cons ⟨y, E3.ad _ _ hpx, rfl⟩ L3) fun rv h4' tk4 led4 x1 x2 x3 => k rv h4' tk4 led4 (z1.trans (E3.trans x1)) x2 x3)
omit S O in
theorem listId_of {x : Str} {a : Nat} {as : List AV} {σ : St} {q : AV × St} (h : listM x a as σ = some q) : ∃ id, listId x = some id := by
  refine bnd1 (show (listAt σ.h a).bind _ = _ from h) fun xs e h => ifn h fun _ h => ?_
  unfold listId
  refine elsed h (fun e _ => ⟨_, by rw [if_pos e]⟩) fun h => ?_
  by_cases x1 : x = "append"
  · exact ⟨_, by rw [if_pos x1]⟩
  rw [if_neg x1]
  refine elsed h (fun e _ => ⟨_, by rw [if_pos e]⟩) fun h => ?_
  by_cases x2 : x = "insert"
  · exact ⟨_, by rw [if_pos x2]⟩
  rw [if_neg x2]
  refine elsed h (fun e _ => ⟨_, by rw [if_pos e]⟩) fun h => ?_
  by_cases x3 : x = "pop"
  · exact ⟨_, by rw [if_pos x3]⟩
  rw [if_neg x3]
  exact ifd h fun e _ => ⟨_, by rw [if_pos e]⟩
theorem aMethL {o : Expr} {x : Str} {ap pos : Pos} {args : List Expr} {ai : Nat} {xs as : List AV} {v : AV} {σ σ₁ σ₂ σ' : St} {s : Shared} {led : Led} {Q E : Value → Shared → Prop} (hn : args.length ≤ 5) (hc : isCall o = false) (hp : (ap.endLine == pos.line) = true)
    (h1 : r.ev X.c o σ = some (.ref ai, σ₁)) (hob : σ₁.h[ai]? = some (.list xs)) (h5 : evs r X.c args σ₁ = some (as, σ₂)) (h6 : listM x ai as σ₂ = some (v, σ')) (R : Rep G X led σ s.heap)
    (k : KV G X led σ σ' v s Q) : wpAny (model G.prog G.w) X.A (eval (.Call (.Attribute o x ap) args [] pos) X.env) Q E s := by
  refine methodCall_KW (pl := do return (← importBound o X.env).getD true) (S.ev X O _ _ _ _ h1 s led _ _ R fun va h' tk led1 z1 z2 z3 => ?_) (meth_he hc (evs_plain h5) hn hp)
  obtain ⟨px, hpx, rfl⟩ := z3
  obtain ⟨y, its, g1, g2, g3⟩ := ld_of (s := { s with heap := h', toks := tk }) z2 hob
  obtain rfl : y = px := Option.some.inj (g1.symm.trans hpx)
  obtain ⟨id, hid⟩ := listId_of h6
  obtain ⟨sl1, sl2⟩ := list_slot hid
  refine getMethod_builtin (T := "list") (id := id) g2.isList.typeIs PySem.F.plainAttrs_list sl1 sl2 (fun b e => ?_) ?_
  · cases e
    obtain ⟨o2, o3, o4, o5, o6⟩ := g2
    exact ⟨o2, o3, o5⟩
  · refine args_ok S X O (s := { s with heap := h', toks := tk }) h5 z2 (.inr (.inl ⟨id, rfl⟩)) fun hh tt led3 vs R3 E3 L3 => ?_
    obtain ⟨id2, i1, i2⟩ := listM_ok (s := { s with heap := hh, toks := tt }) (E := E) (Q := Q) O h6 R3 (E3.ad _ _ hpx) L3 fun rv h4' tk4 led4 x1 x2 x3 => k rv h4' tk4 led4 (z1.trans (E3.trans x1)) x2 x3
    obtain rfl : id = id2 := Option.some.inj (hid.symm.trans i1)
    exact i2
theorem aMeth (PK : ProgOK G P) {o : Expr} {x : Str} {ap pos : Pos} {args : List Expr} : Snd G X (VR G) (eval (.Call (.Attribute o x ap) args [] pos) X.env) (evMeth P r X.c o x ap args pos) := by
  intro σ v σ' h s led Q E R k
  refine ifn (show (if _ then none else _) = _ from h) fun hg h => bnd h fun a σ₁ h1 h2 => ?_
  have hg := Bool.or_eq_false_iff.mp (Bool.not_eq_true _ |>.mp hg)
  have hg1 := Bool.or_eq_false_iff.mp hg.1
  have hn : args.length ≤ 5 := Nat.not_lt.mp (of_decide_eq_false hg1.1)
  have hp : (ap.endLine == pos.line) = true := Bool.not_eq_false' _ |>.mp hg.2
  cases a with
  | ref ai =>
    unfold methV at h2
    dsimp only at h2
    cases hob : σ₁.h[ai]? with
    | none => rw [hob] at h2; exact no_some h2
    | some ao =>
      rw [hob] at h2
      cases ao with
      | inst kc dd =>
        refine bnd1 (show (P.cls kc).bind _ = _ from h2) fun K hK h2 => bnd1 h2 fun fs hfs h2 => ifn h2 fun hg2 h2 => bnd1 h2 fun f h3 h4 => bnd h4 fun as σ₂ h5 h6 => ?_
        have hg2 := Bool.or_eq_false_iff.mp (Bool.not_eq_true _ |>.mp hg2)
        exact aMethI S X O PK hn hg1.2 hp hg2.1 h1 hob hK (flds_of hfs) (Option.isSome_eq_false_iff.mp hg2.2 |> Option.isNone_iff_eq_none.mp) h3 h5 h6 R k
      | list xs => exact bnd (show (evs r X.c args σ₁).bind _ = _ from h2) fun as σ₂ h5 h6 => aMethL S X O hn hg1.2 hp h1 hob h5 h6 R k
      | _ => exact no_some h2
  | _ => exact no_some h2
theorem aAtt (PK : ProgOK G P) {o : Expr} {x : Str} {p : Pos} : Snd G X (VR G) (eval (.Attribute o x p) X.env) (evAtt P r X.c o x) := by
  intro σ v σ' h s led Q E R k
  refine ifn (show (if _ then none else _) = _ from h) fun hc h => bnd h fun a σ₁ h1 h2 => mpd h2 fun w h3 h4 => ?_
  have k := k.eqp h4
  refine Attribute_any_ (S.ev X O _ _ _ _ h1 s led _ _ R fun va h' tk led1 z1 z2 z3 => ?_) (attr_he (Bool.not_eq_true _ |>.mp hc))
  exact attr_ok (s := { s with heap := h', toks := tk }) O PK h3 z2 z3 fun v tk2 hv => k _ _ _ _ z1 z2 hv
theorem aPart (x : Option Expr) (σa : St) (w : AV) (σb : St) (hx : evPart r X.c x σa = some (w, σb)) (s : Shared) (led : Led) (Q E : Value → Shared → Prop) (R : Rep G X led σa s.heap)
    (k : ∀ v h' tk led', Ext σa.h led σb.h led' → Rep G X led' σb h' → VR G led' w v → Q v { s with heap := h', toks := tk }) : wpAny (model G.prog G.w) X.A (evalPart x X.env) Q E s := by
  cases x with
  | none => cases hx; exact wpAny_evalPart_none (k _ _ s.toks _ (Ext.refl _ _) R rfl)
  | some e => exact wpAny_evalPart_some (S.ev X O e _ _ _ hx s led _ _ R k)
theorem aSlc {o : Expr} {lo hi st : Option Expr} {p1 p2 : Pos} : Snd G X (VR G) (eval (.Subscript o (.Slice lo hi st p1) p2) X.env) (evSlc r X.c o lo hi st) := by
  intro σ v σ' h s led Q E R k
  refine ifn (show (if _ then none else _) = _ from h) fun hs h => bnd h fun a σ₁ h1 h2 => bnd h2 fun b σ₂ h3 h4 => bnd h4 fun c σ₃ h5 h6 => ?_
  cases st with
  | some _ => exact absurd rfl hs
  | none =>
    refine Subscript_ (S.ev X O _ _ _ _ h1 s led _ _ R fun va h' tk led1 z1 z2 z3 => ?_)
    refine wpAny_Slice (aPart S X O lo _ _ _ h3 { s with heap := h', toks := tk } led1 _ _ z2 fun vb h2' tk2 led2 y1 y2 y3 => ?_)
    refine aPart S X O hi _ _ _ h5 { s with heap := h2', toks := tk2 } led2 _ _ y2 fun vc h3' tk3 led3 x1 x2 x3 => ?_
    refine wpAny_evalPart_none ?_
    exact slice_ok (s := { s with heap := h3', toks := tk3 }) h6 x2 (z3.ext (y1.trans x1)) (y3.ext x1) x3 fun v h4' tk4 led4 w1 w2 w3 => k _ _ _ _ (z1.trans (y1.trans (x1.trans w1))) w2 w3
theorem aItem {o i : Expr} {p : Pos} : Snd G X (VR G) (eval (.Subscript o i p) X.env) (evItem r X.c o i) := by
  intro σ v σ' h s led Q E R k
  refine bnd h fun a σ₁ h1 h2 => bnd h2 fun b σ₂ h3 h4 => mpd h4 fun w h5 h6 => ?_
  have k := k.eqp h6
  refine Subscript_ (S.ev X O _ _ _ _ h1 s led _ _ R fun va h' tk led1 z1 z2 z3 => ?_)
  refine S.ev X O _ _ _ _ h3 { s with heap := h', toks := tk } led1 _ _ z2 fun vb h2' tk2 led2 y1 y2 y3 => ?_
  exact item_ok (s := { s with heap := h2', toks := tk2 }) O h5 y2 (z3.ext y1) y3 fun v tk3 hv => k _ _ _ _ (z1.trans y1) y2 hv
theorem aList {es : List Expr} {p : Pos} : Snd G X (VR G) (eval (.List es p) X.env) (evList r X.c es) := by
  intro σ v σ' h s led Q E R k
  refine bnd h fun as σ₁ h1 h2 => ifd h2 fun hl h2 => ?_
  have k := k.eq h2
  refine wpAny_List_spliced (evs_ok S X O _ _ _ _ _ h1 s led _ _ R fun vs h' tk led1 z1 z2 z3 => ?_)
  have e2 : vs.length = es.length := z3.length.symm.trans (evs_len h1)
  have E2 := z2.app (.list as) (h'.objs.size, { cls := .type "list", data := .seq vs.toArray })
  obtain ⟨w1, w2, w3⟩ := z2.alloc (ao := .list as) (h' := h'.push { cls := .type "list", data := .seq vs.toArray }) (fun b o e => Heap.get?_push_of_some _ e) (Nat.le_refl _) (Heap.get?_push_size _ rfl) ⟨rfl, rfl, _, 0, rfl, z3.mono fun _ _ w => w.ext E2⟩
  exact ⟨by rw [sizeLine_eq, e2]; lia, k _ _ _ _ (z1.trans w1) w2 ⟨_, w3, rfl⟩⟩
theorem aTup {es : List Expr} {n : Nat} {p : Pos} : Snd G X (VR G) (eval (.Tuple es n p) X.env) (evTup r X.c es) := by
  intro σ v σ' h s led Q E R k
  refine bnd h fun as σ₁ h1 h2 => ifd h2 fun hl h2 => ?_
  have k := k.eq h2
  refine wpAny_Tuple_spliced (evs_ok S X O _ _ _ _ _ h1 s led _ _ R fun vs h' tk led1 z1 z2 z3 => ?_)
  have e2 : vs.length = es.length := z3.length.symm.trans (evs_len h1)
  have E2 := z2.app (.tup as) (h'.objs.size, { cls := .type "tuple", data := .seq vs.toArray })
  obtain ⟨w1, w2, w3⟩ := z2.alloc (ao := .tup as) (h' := h'.push { cls := .type "tuple", data := .seq vs.toArray }) (fun b o e => Heap.get?_push_of_some _ e) (Nat.le_refl _) (Heap.get?_push_size _ rfl) ⟨rfl, _, 0, rfl, z3.mono fun _ _ w => w.ext E2⟩
  exact ⟨by rw [sizeLine_eq, e2]; lia, k _ _ _ _ (z1.trans w1) w2 ⟨_, w3, rfl⟩⟩
omit S O in
theorem aDict {ks : List (Option Expr)} {vs : List Expr} {p : Pos} : Snd G X (VR G) (eval (.Dict ks vs p) X.env) (evDict ks vs) := by
  intro σ v σ' h s led Q E R k
  refine ifd (show (if _ then _ else none) = _ from h) fun hg h => ?_
  have hg := Bool.and_eq_true_iff.mp hg
  rw [List.isEmpty_iff.mp hg.1, List.isEmpty_iff.mp hg.2]
  have k := k.eq h
  refine wpAny_Dict_empty ?_
  obtain ⟨w1, w2, w3⟩ := R.alloc (ao := .idict []) (h' := s.heap.push { cls := .type "dict", data := .dict #[] }) (fun b o e => Heap.get?_push_of_some _ e) (Nat.le_refl _) (Heap.get?_push_size _ rfl)
    ⟨[], ⟨⟨rfl, rfl, rfl⟩, #[], _, rfl, fun e he => by simp at he, .nil, List.nodup_nil⟩, .nil⟩
  exact k _ _ s.toks _ w1 w2 ⟨_, w3, rfl⟩
omit S O in
theorem gen_of {elt : Expr} {g : Comprehension} {scope : Scope} {σ : St} {q : AV × St} {c : Cx} (h : evGen r c elt g scope σ = some q) : ∃ x xp, g = ⟨.Name x xp, g.iter, g.ifs, 0⟩ ∧ compE r c elt x g.iter g.ifs scope σ = some q := by
  obtain ⟨t, iter, ifs, n⟩ := g
  cases t with
  | Name x xp => exact ifd (show (if n = 0 then _ else none) = _ from h) fun hn h => ⟨x, xp, by rw [hn], h⟩
  | _ => exact no_some h
theorem aComp {elt : Expr} {gs : List Comprehension} {scope : Scope} {p : Pos} : Snd G X (VR G) (eval (.ListComp elt gs scope p) X.env) (evComp r X.c elt gs scope) := by
  intro σ v σ' h s led Q E R k
  refine bnd1 h fun g q h => ?_
  obtain ⟨x, xp, hg, h⟩ := gen_of h
  rw [one_of q, hg, arm_eval_ListComp]
  refine comp_core S X O h R fun va h' tk led' C z1 z2 z3 hm hC1 hC2 hC3 => ?_
  exact ⟨hm.choose, hm.choose_spec, fun h2 hs => k va h2 tk led' z1 (z2.but hs.extBut hC1 hC2 hC3) z3⟩
end
theorem aPlain (PK : ProgOK G P) (S : SndR G r d) (X : CX) (O' : Ok G X (d + 1)) {g : Str} {fp pos : Pos} {args : List Expr} : Snd G X (VR G) (eval (.Call (.Name g fp) args [] pos) X.env) (evPlain P r X.c (.Name g fp) args) := by
  have O := O'.le (Nat.le_succ d)
  intro σ v σ' h s led Q E R k
  refine ifn (show (if _ then none else _) = _ from h) fun _ h => bnd h fun fv σ₁ h1 h2 => bnd h2 fun as σ₂ h5 h6 => ?_
  refine wpAny_Call_ofName (S.ev X O _ _ _ _ h1 s led _ _ R fun va h' tk led1 z1 z2 z3 => ?_)
  have hk : keepIn G.K va = true ∨ (∃ id, va = .builtin id) ∨ ∃ T, va = .type T := by
    cases fv with
    | fn kf => cases z3; exact .inl (PK.keepF kf)
    | cls kc => cases z3; exact .inl (PK.keepC kc)
    | bltn id => exact .inr (.inl ⟨id, z3⟩)
    | typ n => exact .inr (.inr ⟨n, z3⟩)
    | _ => exact no_some h6
  refine args_ok S X O (s := { s with heap := h', toks := tk }) h5 z2 hk fun hh tt led3 vs R3 E3 L3 => ?_
  exact callV_ok (s := { s with heap := hh, toks := tt }) PK S X O' h6 R3 (z3.ext E3) L3 fun rv h4' tk4 led4 x1 x2 x3 => k rv h4' tk4 led4 (z1.trans (E3.trans x1)) x2 x3
theorem aCall (PK : ProgOK G P) (S : SndR G r d) (X : CX) (O' : Ok G X (d + 1)) {f : Expr} {args : List Expr} {kws : List Keyword} {pos : Pos} : Snd G X (VR G) (eval (.Call f args kws pos) X.env) (evCall P r X.c f args kws pos) := by
  cases kws with
  | nil => cases f with
    | Attribute o x ap => exact aMeth S X (O'.le (Nat.le_succ d)) PK
    | Name g fp => exact aPlain PK S X O'
    | _ => exact fun _ _ _ h => no_some h
  | cons _ _ => exact fun _ _ _ h => no_some h
theorem aSub (S : SndR G r d) (X : CX) (O : Ok G X d) {o i : Expr} {p : Pos} : Snd G X (VR G) (eval (.Subscript o i p) X.env) (evSub r X.c o i) := by
  cases i with
  | Slice lo hi st p1 => exact aSlc S X O
  | _ => exact aItem S X O
theorem ev_ok (PK : ProgOK G P) (S : SndR G r d) (X : CX) (O' : Ok G X (d + 1)) (e : Expr) : Snd G X (VR G) (eval e X.env) (evStep P r X.c e) := by
  have O := O'.le (Nat.le_succ d)
  cases e with
  | Constant k n p => exact aConst
  | Name x p => exact aName PK O
  | BoolOp op es p => exact orAll_ok S X O _ _ _
  | BinOp a op b p => exact aBin S X O
  | UnaryOp op a p => exact aUn S X O
  | IfExp t a b p => exact aIf S X O
  | Compare a ops bs p => exact aCmp S X O
  | Call f args kws p => exact aCall PK S X O'
  | Attribute o x p => exact aAtt S X O PK
  | Subscript o i p => exact aSub S X O
  | List es p => exact aList S X O
  | Tuple es n p => exact aTup S X O
  | Dict ks vs p => exact aDict X
  | ListComp elt gs scope p => exact aComp S X O
  | _ => exact fun _ _ _ h => no_some h
end
end Mine.S
end
section
open PySem PySem.W PyProof.Rows PySem.Calls
namespace Mine.S
section
variable {G : Gl} {P : Prog} {r : R} {d : Nat}
theorem trVal_ok (S : SndR G r d) (X : CX) (O : Ok G X d) {e : Expr} (he : ∀ whole : Sem Value, PySem.isTrue e X.env whole = (do let v ← whole; standAt e.pos; holding [v] (truthy v))) : Snd G X (fun _ b v => v = b) (PySem.isTrue e X.env (eval e X.env)) (trVal r X.c e) := by
  intro σ v σ' h s led Q E R k
  refine bnd h fun a σ₁ h1 h2 => ?_
  cases a with
  | bool b =>
    cases h2
    refine wpAny_isTrue_value (S.ev X O _ _ _ _ h1 s led _ _ R fun va h' tk led1 z1 z2 z3 => ?_) (he _)
    cases z3
    exact wpAny_truthy_bool (k _ _ _ _ z1 z2 rfl)
  | _ => exact no_some h2
theorem bNot (S : SndR G r d) (X : CX) (O : Ok G X d) {a : Expr} {p : Pos} : Snd G X (fun _ b v => v = b) (PySem.isTrue (.UnaryOp .Not a p) X.env (eval (.UnaryOp .Not a p) X.env)) (fun σ => (r.tr X.c a σ).map fun p => (!p.1, p.2)) := by
  intro σ v σ' h s led Q E R k
  refine mpd h fun q h1 h2 => ?_
  obtain ⟨b, σ₁⟩ := q
  cases h2
  refine wpAny_isTrue_Not (S.tr X O _ _ _ _ h1 s led _ _ R fun bv h' tk led1 z1 z2 z3 => ?_)
  subst z3
  exact k _ _ _ _ z1 z2 rfl
theorem bIf (S : SndR G r d) (X : CX) (O : Ok G X d) {t a b : Expr} {p : Pos} : Snd G X (fun _ b v => v = b) (PySem.isTrue (.IfExp t a b p) X.env (eval (.IfExp t a b p) X.env)) (trIf r X.c t a b) := by
  intro σ v σ' h s led Q E R k
  refine bnd h fun b σ₁ h1 h2 => ?_
  refine isTrue_IfExp (S.tr X O _ _ _ _ h1 s led _ _ R fun bv h' tk led1 z1 z2 z3 => ?_)
  subst z3
  cases bv with
  | true => rw [if_pos rfl]; exact S.tr X O _ _ _ _ h2 { s with heap := h', toks := tk } led1 _ _ z2 fun v2 h2 tk2 led2 y1 y2 y3 => k v2 h2 tk2 led2 (z1.trans y1) y2 y3
  | false => rw [if_neg Bool.false_ne_true]; exact S.tr X O _ _ _ _ h2 { s with heap := h', toks := tk } led1 _ _ z2 fun v2 h2 tk2 led2 y1 y2 y3 => k v2 h2 tk2 led2 (z1.trans y1) y2 y3
theorem bCmp (S : SndR G r d) (X : CX) (O : Ok G X d) {a : Expr} {ops : List CmpOp} {bs : List Expr} {p : Pos} : Snd G X (fun _ b v => v = b) (PySem.isTrue (.Compare a ops bs p) X.env (eval (.Compare a ops bs p) X.env)) (trCmp r X.c a ops bs) := by
  intro σ v σ' h s led Q E R k
  refine bnd1 h fun op q1 h => bnd1 h fun b q2 h => ifn h fun hs h => bnd h fun a σ₁ h1 h2 => bnd h2 fun b σ₂ h3 h4 => mpd h4 fun rr h5 h6 => ?_
  rw [one_of q1, one_of q2]
  have k := k.eqp h6
  refine wpAny_isTrue_Compare1 (S.ev X O _ _ _ _ h1 s led _ _ R fun va h' tk led1 z1 z2 z3 => ?_) (set_marks (Bool.not_eq_true _ |>.mp hs))
  refine S.ev X O _ _ _ _ h3 { s with heap := h', toks := tk } led1 _ _ z2 fun vb h2' tk2 led2 y1 y2 y3 => ?_
  exact cmp_ok (s := { s with heap := h2', toks := tk2 }) O h5 y2 (z3.ext y1) y3 fun tk3 => wpAny_truthy_bool (k _ _ _ _ (z1.trans y1) y2 rfl)
theorem tr_ok (S : SndR G r d) (X : CX) (O : Ok G X d) (e : Expr) : Snd G X (fun _ b v => v = b) (PySem.isTrue e X.env (eval e X.env)) (trStep r X.c e) := by
  cases e with
  | UnaryOp op a p => cases op with
    | Not => exact bNot S X O
    | _ => exact fun _ _ _ h => no_some h
  | BoolOp op es p => exact fun σ v σ' h s led Q E R k => wpAny_isTrue_BoolOp (trAll_ok S X O _ _ _ _ _ h s led Q E R k)
  | IfExp t a b p => exact bIf S X O
  | Compare a ops bs p => exact bCmp S X O
  | _ => exact trVal_ok S X O fun _ => rfl
theorem L2_two {α β : Type} {T : α → β → Prop} {x y : α} {l : List β} (h : L2 T [x, y] l) : ∃ a b, l = [a, b] ∧ T x a ∧ T y b := by
  cases h with
  | cons h1 t => cases t with
    | cons h2 t => cases t; exact ⟨_, _, rfl, h1, h2⟩
theorem swapsSole {t e : Expr} {n : Nat} {env : Env} (h : swapsWith e (some t) n env = pure false) : swapsWithSole [t] e n env = pure false := h
theorem swaps_no {e : Expr} {t : Option Expr} {n : Nat} {env : Env} (h : isComp e = false) : swapsWith e t n env = pure false := by
  cases e <;> first | rfl | cases h
theorem swapped_tup {ts : List Expr} {n : Nat} {p : Pos} {e : Expr} {env : Env} (h : isTup e = false) : swappedStores [.Tuple ts n p] e env = pure none := by
  cases e <;> first | rfl | cases h
noncomputable def tgt : Expr → Bool
  | .Name .. => true
  | .Attribute .. => true
  | .Subscript .. => true
  | _ => false
theorem tgt_of {c : Cx} {t : Expr} {v : AV} {σ σ' : St} (h : Mine.assign P r c t v σ = some σ') : tgt t = true := by
  cases t with
  | Name _ _ => rfl
  | Attribute _ _ _ => rfl
  | Subscript _ _ _ => rfl
  | _ => exact no_some h
theorem tgt_each {t : Expr} {ts : List Expr} {env : Env} (h : tgt t = true) : assignEach (t :: ts) env = (false, PySem.assign t env) :: assignEach ts env := by
  cases t <;> first | rfl | cases h
theorem tgt_swap {t e : Expr} {env : Env} (h : tgt t = true) : swappedStores [t] e env = pure none := by
  cases t <;> first | rfl | cases h
section
variable (S : SndR G r d) (X : CX) (O : Ok G X d)
include S O
theorem xTup (PK : ProgOK G P) {ts : List Expr} {n : Nat} {tp pos : Pos} {e : Expr} : Snd G X (FlR G) (exec (.Assign [.Tuple ts n tp] e pos) X.env) (exTup P r X.c ts e) := by
  intro σ v σ' h s led Q E R k
  cases ts with
  | nil => exact no_some h
  | cons t1 ts => cases ts with
    | nil => exact no_some h
    | cons t2 ts => cases ts with
      | cons _ _ => exact no_some h
      | nil =>
        refine ifn (show (if _ then none else _) = _ from h) fun hc h => bnd h fun a σ₁ h1 h2 => bnd1 h2 fun q hq h2 => bnd1 h2 fun σ₂ h3 h4 => mpd h4 fun σ₃ h5 h6 => ?_
        have hc := Bool.or_eq_false_iff.mp (Bool.not_eq_true _ |>.mp hc)
        obtain ⟨ha, hob⟩ := pair_of hq
        have k := k.eqp h6
        refine wpAny_Assign_stores (S.ev X O _ _ _ _ h1 s led _ _ R fun va h' tk led1 z1 z2 z3 => ?_) (swapsSole (swaps_no hc.1)) (swapped_tup hc.2)
        refine tup_vr (s := { s with heap := h', toks := tk }) z2 (show tupAt σ₁.h q.1 = some [q.2.1, q.2.2] by unfold tupAt; rw [hob]) (by have ha : a = .ref q.1 := ha; rw [ha] at z3; exact z3) fun p' its q0 g1 g2 g3 => ?_
        obtain ⟨li, rfl⟩ : ∃ li : List Value, its = li.toArray := ⟨its.toList, by simp⟩
        obtain ⟨vx, vy, hli, q1, q2⟩ := L2_two g3
        have hli : li = [vx, vy] := hli
        subst hli
        have he : assignEach [t1, t2] X.env = [(false, PySem.assign t1 X.env), (false, PySem.assign t2 X.env)] := by
          rw [tgt_each (tgt_of h3), tgt_each (tgt_of h5)]; rfl
        rw [q0]
        show wpAny _ _ (PySem.assign (.Tuple [t1, t2] n tp) X.env (.ref p')) _ _ _
        refine wpAny_assign_Tuple O.hh g2 (by rw [he]; rfl) (by rw [he]; rfl) fun hx hxe => ?_
        rw [he]
        have R3 : Rep G X led1 σ₁ hx := z2.grow fun b o e => hxe b o (Nat.ne_of_lt (Heap.lt_size e)) e
        show wpAny _ _ (holding _ (PySem.assign t1 X.env vx) >>= fun _ => (holding _ (PySem.assign t2 X.env vy) >>= fun _ => pure ())) _ _ _
        refine wpAny_bind (wpAny_holding (assign_ok (s := { s with heap := hx, toks := tk }) PK S X O h3 R3 q1 fun h3' tk3 led3 x1 x2 => ?_))
        refine wpAny_bind (wpAny_holding (assign_ok (s := { s with heap := h3', toks := tk3 }) PK S X O h5 x2 (q2.ext x1) fun h4' tk4 led4 y1 y2 => ?_))
        exact wpAny_pure (k _ _ _ _ (z1.trans (x1.trans y1)) y2 rfl)
theorem xKept {y : Str} {yp pos cp : Pos} {elt : Expr} {gs : List Comprehension} {scope : Scope} : Snd G X (FlR G) (exec (.Assign [.Name y yp] (.ListComp elt gs scope cp) pos) X.env) (exKept r X.c y elt gs scope) := by
  intro σ v σ' h s led Q E R k
  refine bnd (show (evComp r X.c elt gs scope σ).bind _ = _ from h) fun a σ₁ h1 h2 => mpd h2 fun σ₂ h3 h4 => bnd1 h1 fun g q h1 => ?_
  cases h4
  obtain ⟨x, xp, hg, h1⟩ := gen_of h1
  rw [one_of q, hg]
  have hb : ∃ b, swapsWith (.ListComp elt [⟨.Name x xp, g.iter, g.ifs, 0⟩] scope cp) (some (.Name y yp)) pos.line X.env = pure b ∧ (b = true → X.c.kind y = some .local) := by
    refine ⟨_, rfl, fun hb => ?_⟩
    simp only [Bool.and_eq_true] at hb
    rw [O.kind]
    simpa using hb.1.1.2
  obtain ⟨b, hb1, hb2⟩ := hb
  cases b with
  | false =>
    refine wpAny_Assign_Name ?_ hb1
    rw [arm_eval_ListComp]
    refine comp_core S X O h1 R fun va h' tk led' C z1 z2 z3 hm hC1 hC2 hC3 => ?_
    refine ⟨hm.choose, hm.choose_spec, fun h2 hs => ?_⟩
    exact store_ok (s := { s with heap := h2, toks := tk }) O h3 (z2.but hs.extBut hC1 hC2 hC3) z3 fun h3' tk3 led3 x1 x2 => k _ _ _ _ (z1.trans x1) x2 rfl
  | true =>
    rw [exec_Assign_Name_used _ _ _ _ hb1]
    have hl := hb2 rfl
    have hl' : X.env.kindOf y = some .local := by rw [← O.kind]; exact hl
    refine wpAny_bind (wpAny_standAt (wpAny_bind ?_))
    show wpAny _ _ (comprehension (.ListComp elt [⟨.Name x xp, g.iter, g.ifs, 0⟩] scope cp) scope X.env _ (newList []) false (eval g.iter X.env) (some (PySem.assign (.Name y yp) X.env)) >>= fun _ => pure ()) _ _ _
    refine wpAny_bind (comp_core S X O h1 R fun va h' tk led' C z1 z2 z3 hm hC1 hC2 hC3 => ?_)
    obtain ⟨mC, nsC⟩ := hm
    obtain ⟨m, F, q⟩ := z2.fr
    show wpAny _ _ (PySem.assign (.Name y yp) X.env va) _ _ _
    refine wpAny_assign_Name (wpAny_storeName_local hl' (by rw [O.hl]; exact F.ns) (fun h3' hn hs => ?_) (by rw [O.hk]; rfl))
    rw [O.hl] at hn hs
    have hs2 : σ' = { σ₁ with loc := upd σ₁.loc y a } := by
      rw [storeLoc hl] at h3; exact (Option.some.inj h3).symm
    have R3 : Rep G X led' { σ₁ with loc := upd σ₁.loc y a } h3' := z2.setLoc q (F.set hn hs) (z2.news.set hs) z3
    refine ⟨mC, nsC.at fun o e => hs.extBut _ _ hC1 e, fun h4' hs4 => wpAny_pure (wpAny_pure ?_)⟩
    subst hs2
    exact k _ _ _ _ z1 (R3.but hs4.extBut hC1 hC2 hC3) rfl
theorem xSet (PK : ProgOK G P) {t e : Expr} {pos : Pos} : Snd G X (FlR G) (exec (.Assign [t] e pos) X.env) (exSet P r X.c t e) := by
  intro σ v σ' h s led Q E R k
  refine ifn (show (if _ then none else _) = _ from h) fun hc h => bnd h fun a σ₁ h1 h2 => mpd h2 fun σ₂ h3 h4 => ?_
  have hc := Bool.or_eq_false_iff.mp (Bool.not_eq_true _ |>.mp hc)
  cases h4
  refine wpAny_Assign_stores (S.ev X O _ _ _ _ h1 s led _ _ R fun va h' tk led1 z1 z2 z3 => ?_) (swapsSole (swaps_no hc.1)) (tgt_swap (tgt_of h3))
  rw [tgt_each (tgt_of h3)]
  exact assign_ok (s := { s with heap := h', toks := tk }) PK S X O h3 z2 z3 fun h3' tk3 led3 x1 x2 => k _ _ _ _ (z1.trans x1) x2 rfl
theorem xAsg (PK : ProgOK G P) {t e : Expr} {pos : Pos} : Snd G X (FlR G) (exec (.Assign [t] e pos) X.env) (exAsg P r X.c t e) := by
  cases t with
  | Tuple ts n tp => exact xTup S X O PK
  | Name y yp => cases e with
    | ListComp elt gs scope cp => exact xKept S X O
    | _ => exact xSet S X O PK
  | _ => exact xSet S X O PK
theorem xAugN (PK : ProgOK G P) {x : Str} {xp pos : Pos} {op : Operator} {e : Expr} : Snd G X (FlR G) (exec (.AugAssign (.Name x xp) op e pos) X.env) (augN P r X.c x op e) := by
  intro σ v σ' h s led Q E R k
  refine bnd1 h fun old h1 h2 => bnd h2 fun a σ₁ h3 h4 => bnd h4 fun b σ₂ h5 h6 => mpd h6 fun σ₃ h7 h8 => ?_
  cases h8
  refine wpAny_AugAssign_Name (name_ok O PK h1 R fun rv hr => ?_)
  refine S.ev X O _ _ _ _ h3 s led _ _ R fun va h' tk led1 z1 z2 z3 => ?_
  refine inpl_ok (s := { s with heap := h', toks := tk }) h5 z2 (hr.ext z1) z3 fun v h2' tk2 led2 y1 y2 y3 => ?_
  exact store_ok (s := { s with heap := h2', toks := tk2 }) O h7 y2 y3 fun h3' tk3 led3 x1 x2 => k _ _ _ _ (z1.trans (y1.trans x1)) x2 rfl
theorem xAugA (PK : ProgOK G P) {o : Expr} {x : Str} {xp pos : Pos} {op : Operator} {e : Expr} : Snd G X (FlR G) (exec (.AugAssign (.Attribute o x xp) op e pos) X.env) (augA P r X.c o x op e) := by
  intro σ v σ' h s led Q E R k
  refine bnd h fun ov σ₁ h1 h2 => bnd1 h2 fun old h3 h4 => bnd h4 fun a σ₂ h5 h6 => bnd h6 fun b σ₃ h7 h8 => mpd h8 fun σ₄ h9 h10 => ?_
  have k := k.eqp h10
  refine wpAny_AugAssign_AttributeAny (S.ev X O _ _ _ _ h1 s led _ _ R fun va h' tk led1 z1 z2 z3 => ?_)
  refine attr_ok (s := { s with heap := h', toks := tk }) O PK h3 z2 z3 fun vold tk1 hold => ?_
  refine S.ev X O _ _ _ _ h5 { s with heap := h', toks := tk1 } led1 _ _ z2 fun vb h2' tk2 led2 y1 y2 y3 => ?_
  refine inpl_ok (s := { s with heap := h2', toks := tk2 }) h7 y2 (hold.ext y1) y3 fun v h3' tk3 led3 x1 x2 x3 => ?_
  exact setAttr_ok (s := { s with heap := h3', toks := tk3 }) O PK h9 x2 (z3.ext (y1.trans x1)) x3 fun h4' tk4 led4 w1 w2 => k _ _ _ _ (z1.trans (y1.trans (x1.trans w1))) w2 rfl
theorem xIf {t : Expr} {a b : List Stmt} {pos : Pos} : Snd G X (FlR G) (exec (.If t a b pos) X.env) (exIf r X.c t a b) := by
  intro σ v σ' h s led Q E R k
  refine bnd h fun b σ₁ h1 h2 => ?_
  refine wpAny_If (S.tr X O _ _ _ _ h1 s led _ _ R fun bv h' tk led1 z1 z2 z3 => ?_)
  subst z3
  cases bv with
  | true => rw [if_pos rfl]; exact execs_ok S X O _ _ _ _ h2 { s with heap := h', toks := tk } led1 _ _ z2 fun v2 h2 tk2 led2 y1 y2 y3 => k v2 h2 tk2 led2 (z1.trans y1) y2 y3
  | false => rw [if_neg Bool.false_ne_true]; exact execs_ok S X O _ _ _ _ h2 { s with heap := h', toks := tk } led1 _ _ z2 fun v2 h2 tk2 led2 y1 y2 y3 => k v2 h2 tk2 led2 (z1.trans y1) y2 y3
theorem xFor {x : Str} {xp pos : Pos} {iter : Expr} {body : List Stmt} : Snd G X (FlR G) (exec (.For (.Name x xp) iter body [] pos) X.env) (exFor r X.c x iter body) := by
  intro σ v σ' h s led Q E R k
  refine ifn (show (if _ then none else _) = _ from h) fun hs h => ifd h fun hx h => bnd h fun a σ₁ h1 h2 => bnd h2 fun it σ₂ h3 h4 => ?_
  refine wpAny_For (S.ev X O _ _ _ _ h1 s led _ _ R fun va h' tk led1 z1 z2 z3 => ?_) (set_fold (Bool.not_eq_true _ |>.mp hs))
  refine mkIter_ok (s := { s with heap := h', toks := tk }) h3 z2 z3 fun vi h2' tk2 led2 y1 y2 y3 => ?_
  exact forLoop_ok S X O hx h4 (s := { s with heap := h2', toks := tk2 }) y2 y3 fun v h3' tk3 led3 x1 x2 x3 => k v _ _ _ (z1.trans (y1.trans x1)) x2 x3
theorem xExpr {e : Expr} {pos : Pos} : Snd G X (FlR G) (exec (.Expr e pos) X.env) (fun σ => if isComp e then none else (r.ev X.c e σ).map fun p => (.next, p.2)) := by
  intro σ v σ' h s led Q E R k
  refine ifn h fun hc h => mpd h fun q h1 h2 => ?_
  obtain ⟨a, σ₁⟩ := q
  cases h2
  refine wpAny_Expr_any (S.ev X O _ _ _ _ h1 s led _ _ R fun va h' tk led1 z1 z2 z3 => k _ _ _ _ z1 z2 rfl) ?_ (swaps_no (Bool.not_eq_true _ |>.mp hc))
  unfold interactive
  rw [O.hk]; rfl
theorem xRet {e : Expr} {pos : Pos} : Snd G X (FlR G) (exec (.Return (some e) pos) X.env) (fun σ => (r.ev X.c e σ).map fun p => (.ret p.1, p.2)) := by
  intro σ v σ' h s led Q E R k
  refine mpd h fun q h1 h2 => ?_
  obtain ⟨a, σ₁⟩ := q
  have k := k.eqp h2
  exact wpAny_Return_some (S.ev X O _ _ _ _ h1 s led _ _ R fun va h' tk led1 z1 z2 z3 => k _ _ _ _ z1 z2 ⟨va, rfl, z3⟩)
theorem ex_ok (PK : ProgOK G P) (st : Stmt) : Snd G X (FlR G) (exec st X.env) (exStep P r X.c st) := by
  cases st with
  | Expr e pos => exact xExpr S X O
  | Continue pos => exact fun σ v σ' h s led Q E R k => by cases h; exact wpAny_Continue (k _ _ s.toks _ (Ext.refl _ _) R rfl)
  | Return v pos => cases v with
    | none => exact fun _ _ _ h => no_some h
    | some e => exact xRet S X O
  | Assign ts e pos => exact fun σ v σ' h s led Q E R k => bnd1 h fun t q h => by rw [one_of q]; exact xAsg S X O PK σ v σ' h s led Q E R k
  | AugAssign t op e pos => cases t with
    | Name x xp => exact xAugN S X O PK
    | Attribute o x xp => exact xAugA S X O PK
    | _ => exact fun _ _ _ h => no_some h
  | If t a b pos => exact xIf S X O
  | While t body els pos => cases els with
    | nil => exact fun σ v σ' h s led Q E R k => wpAny_While (whileLoop_ok S X O h R fun v h' tk led' z1 z2 z3 => k v h' tk led' z1 z2 z3)
    | cons _ _ => exact fun _ _ _ h => no_some h
  | For t iter body els pos => cases els with
    | nil => cases t with
      | Name x xp => exact xFor S X O
      | _ => exact fun _ _ _ h => no_some h
    | cons _ _ => exact fun _ _ _ h => no_some h
  | _ => exact fun _ _ _ h => no_some h
end
theorem step_ok (PK : ProgOK G P) (S : SndR G r d) : SndR G (step P r) (d + 1) where
  ev := fun X O e => ev_ok PK S X O e
  tr := fun X O e => tr_ok S X (O.le (Nat.le_succ d)) e
  ex := fun X O st => ex_ok S X (O.le (Nat.le_succ d)) PK st
  fn := fun X O hc k args vs σ v σ' h s led RR R ha kk => fn_ok PK S X O hc h R ha kk
theorem run_ok (PK : ProgOK G P) : ∀ n, SndR G (run P n) n
  | 0 => { ev := fun _ _ _ _ _ _ h => by cases h
           tr := fun _ _ _ _ _ _ h => by cases h
           ex := fun _ _ _ _ _ _ h => by cases h
           fn := fun _ _ _ _ _ _ _ _ _ h => by cases h }
  | n + 1 => step_ok PK (run_ok PK n)
end
end Mine.S
end
section
open PySem PySem.W PyProof.Rows PySem.Calls
namespace Mine.S
noncomputable def faTab : List Nat := [19, 24, 31, 45, 52, 66, 80, 101, 122, 130, 137, 158, 172, 179, 186, 193, 200, 207, 214, 221, 228, 233, 240, 247, 252, 257]
noncomputable def caTab : List Nat := [55, 83, 104, 140, 161]
noncomputable def faOf (k : Nat) : Addr := faTab.getD k 19
noncomputable def caOf (k : Nat) : Addr := caTab.getD k 55
noncomputable def keptAt : List Nat := [3] ++ faTab ++ faTab.map (· - 1) ++ [123] ++ caTab ++ [54, 82, 103, 139, 160]
noncomputable def fragOf (h : Heap) (as : List Nat) : Frag := as.filterMap fun a => (h.get? a).map fun o => (a, o)
theorem fragOf_in (h : Heap) : ∀ as, (fragOf h as).In h := by
  intro as a o e
  induction as with
  | nil => cases e
  | cons b r ih =>
    unfold fragOf at e ih
    rw [List.filterMap_cons] at e
    cases q : h.get? b with
    | none => rw [q] at e; exact ih e
    | some ob =>
      rw [q] at e
      simp only [Option.map_some, List.lookup] at e
      split at e
      · rename_i hb; cases e; rw [beq_iff_eq.mp hb]; exact q
      · exact ih e
noncomputable def globB (K : Frag) (p : Str × AV) : Bool := match p.2 with
  | .fn k => nsIn K mainGlobals p.1 == some (some (.ref (faOf k)))
  | .cls k => nsIn K mainGlobals p.1 == some (some (.ref (caOf k)))
  | .bltn id => nsIn K mainGlobals p.1 == some none && bootBuiltins p.1 == some (.builtin id) && decide (p.1 ≠ "__name__")
  | .typ n => nsIn K mainGlobals p.1 == some none && bootBuiltins p.1 == some (.type n) && decide (p.1 ≠ "__name__")
  | _ => false
noncomputable def dfB : AV → Value → Bool
  | .none, v => v == .none
  | .bool b, v => v == .bool b
  | .int i, v => (match v with | .int j _ => i == j | _ => false)
  | .str s, v => (match v with | .str t _ => s == t | _ => false)
  | _, _ => false
noncomputable def dfsB : List AV → List Value → Bool
  | [], [] => true
  | a :: l, v :: m => dfB a v && dfsB l m
  | _, _ => false
noncomputable def noDup : List Str → Bool
  | [] => true
  | x :: r => !r.contains x && noDup r
noncomputable def defB (K : Frag) (l : List AV) (dv : Value) : Bool := match dv with
  | .none => l.isEmpty
  | .ref T => (match K.lookup T with | some ⟨_, _, .seq items _, _⟩ => dfsB l items.toList | _ => false)
  | _ => false
noncomputable def allB : List Bool → Bool
  | [] => true
  | b :: r => b && allB r
noncomputable def fnB (K : Frag) (k : Nat) (f : Fn) : Bool := match K.lookup (faOf k) with
  | some ⟨_, _, .func d, _⟩ => allB [codeIn K d.code d.qualname, d.scope.kind == .function, !d.scope.isCoroutine, !d.scope.isGenerator, d.scope.names.all (fun x => !(x.2 == .cell)), d.scope.names == f.names,
      d.params.posonlyargs.isEmpty, d.params.vararg.isNone, d.params.kwonlyargs.isEmpty, d.params.kwarg.isNone, d.params.args.map (·.arg) == f.params,
      d.globals == mainGlobals, d.closure.isEmpty, d.builtins == builtinsNs, defB K f.dflts d.defaults, f.params.all (fun x => f.names.lookup x == some .local), noDup f.params]
  | _ => false
noncomputable def clsB (K : Frag) (k : Nat) (c : Cls) : Bool :=
  makesIn K (caOf k) && findIn K (.ref (caOf k)) "__init__" == some (some (.ref (faOf c.init))) && isFn K (.ref (faOf c.init)) && plainGet K (caOf k) "" && hasDictIn K (caOf k) &&
  findIn K (.ref (caOf k)) "__setattr__" == some (some (.builtin "object.__setattr__")) && plainOver K (caOf k) &&
  c.attrs.all (fun x => findIn K (.ref (caOf k)) x == some none && takerIn K (caOf k) x == some none) &&
  c.meths.all (fun p => findIn K (.ref (caOf k)) p.1 == some (some (.ref (faOf p.2))) && isFn K (.ref (faOf p.2)))
noncomputable def progB (K : Frag) : Bool :=
  globTab.all (globB K) && (List.range 26).all (fun k => match theP.fn k with | some f => fnB K k f | none => false) && (List.range 5).all (fun k => match clsOf k with | some c => clsB K k c | none => false) &&
  faTab.all (fun a => keepIn K (.ref a)) && caTab.all (fun a => keepIn K (.ref a))
noncomputable def bodiesIn (K : Frag) : List (Option FuncBody) := faTab.map fun a => match K.lookup a with
  | some ⟨_, _, .func d, _⟩ => some d.body
  | _ => none
noncomputable def bodies0 : List (Option FuncBody) := (List.range 26).map fun k => (theP.fn k).map fun f => .stmts f.body
noncomputable def SaysP (h : Heap) : Prop := ∃ K : Frag, K.In h ∧ progB K = true ∧ bodiesIn K = bodies0
noncomputable def myHook : Hook := ⟨Bool × List (Option FuncBody), fun s => (progB (fragOf s.heap keptAt), bodiesIn (fragOf s.heap keptAt)), fun _ => (true, bodies0), fun _ h => SaysP h,
  fun _ _ e => ⟨_, fragOf_in _ _, congrArg (·.1) e, congrArg (·.2) e⟩, fun _ _ _ ⟨K, x, y, z⟩ k => ⟨K, x.keeps k, y, z⟩⟩
theorem lookup_mem {α β : Type} [BEq α] [LawfulBEq α] {x : α} {v : β} : ∀ {l : List (α × β)}, l.lookup x = some v → (x, v) ∈ l
  | (y, w) :: r, e => by
    simp only [List.lookup] at e
    split at e
    · rename_i q; cases e; rw [beq_iff_eq.mp q]; exact .head _
    · exact .tail _ (lookup_mem e)
theorem df_of {a : AV} {v : Value} (h : dfB a v = true) : DfR a v := by
  cases a with
  | none => exact beq_iff_eq.mp h
  | bool b => exact beq_iff_eq.mp h
  | int i => cases v with
    | int j t => exact ⟨t, by rw [beq_iff_eq.mp (show (i == j) = true from h)]⟩
    | _ => exact Bool.noConfusion (show false = true from h)
  | str i => cases v with
    | str j t => exact ⟨t, by rw [beq_iff_eq.mp (show (i == j) = true from h)]⟩
    | _ => exact Bool.noConfusion (show false = true from h)
  | _ => exact Bool.noConfusion (show false = true from h)
theorem dfs_of {l : List AV} : ∀ {m : List Value}, dfsB l m = true → L2 DfR l m := by
  induction l with
  | nil => intro m e; cases m with
    | nil => exact .nil
    | cons _ _ => exact Bool.noConfusion (show false = true from e)
  | cons a l ih => intro m e; cases m with
    | nil => exact Bool.noConfusion (show false = true from e)
    | cons v m =>
      have e := Bool.and_eq_true_iff.mp (show (dfB a v && dfsB l m) = true from e)
      exact .cons (df_of e.1) (ih e.2)
theorem allB_get {l : List Bool} (h : allB l = true) : ∀ (i : Nat) (b : Bool), l[i]? = some b → b = true := by
  induction l with
  | nil => intro i b e; cases i <;> cases e
  | cons a l ih =>
    have h := Bool.and_eq_true_iff.mp (show (a && allB l) = true from h)
    intro i b e
    cases i with
    | zero => cases e; exact h.1
    | succ i => exact ih h.2 i b e
theorem nodup_of : ∀ {l : List Str}, noDup l = true → l.Nodup
  | [], _ => .nil
  | x :: r, e => by
    simp only [noDup, Bool.and_eq_true, Bool.not_eq_true', List.contains_eq_mem, decide_eq_false_iff_not] at e
    exact List.nodup_cons.mpr ⟨e.1, nodup_of e.2⟩
section
variable {G : Gl} (hK : progB G.K = true) (hb : bodiesIn G.K = bodies0) (hf : ∀ k, G.fa k = faOf k) (hc : ∀ k, G.ca k = caOf k)
include hf hc in
theorem glob_of {x : Str} {v : AV} (e : globB G.K (x, v) = true) : GlobOK G x v := by
  unfold globB at e
  cases v with
  | fn k => show nsIn _ _ _ = _; rw [hf]; exact beq_iff_eq.mp e
  | cls k => show nsIn _ _ _ = _; rw [hc]; exact beq_iff_eq.mp e
  | bltn id =>
    simp only [Bool.and_eq_true, beq_iff_eq, decide_eq_true_eq] at e
    exact ⟨e.1.1, e.1.2, e.2⟩
  | typ id =>
    simp only [Bool.and_eq_true, beq_iff_eq, decide_eq_true_eq] at e
    exact ⟨e.1.1, e.1.2, e.2⟩
  | _ => cases e
include hb hf in
theorem fn_of {k : Nat} {f : Fn} (hk : k < 26) (h : theP.fn k = some f) (e : fnB G.K k f = true) : FnOK G k f := by
  have e0 : (bodiesIn G.K)[k]? = bodies0[k]? := by rw [hb]
  have e2 : bodies0[k]? = some (some (.stmts f.body)) := by
    unfold bodies0
    rw [List.getElem?_map, List.getElem?_range hk, Option.map_some, h]; rfl
  have e3 : faTab[k]? = some (faOf k) := by
    unfold faOf
    rw [List.getD_eq_getElem?_getD, List.getElem?_eq_getElem (show k < faTab.length from hk)]; rfl
  rw [e2] at e0
  unfold bodiesIn at e0
  rw [List.getElem?_map, e3, Option.map_some] at e0
  unfold fnB at e
  cases ho : G.K.lookup (faOf k) with
  | none => rw [ho] at e; exact Bool.noConfusion (show false = true from e)
  | some ob =>
    rw [ho] at e e0
    obtain ⟨oc, od, data, osl⟩ := ob
    cases data with
    | func d =>
      have e4 : d.body = .stmts f.body := Option.some.inj (Option.some.inj e0)
      have g := allB_get e
      refine ⟨⟨oc, od, osl, d, ?_, g 0 _ rfl, beq_iff_eq.mp (g 1 _ rfl), Bool.not_eq_true' _ |>.mp (g 2 _ rfl), Bool.not_eq_true' _ |>.mp (g 3 _ rfl), ?_, beq_iff_eq.mp (g 5 _ rfl),
        List.isEmpty_iff.mp (g 6 _ rfl), Option.isNone_iff_eq_none.mp (g 7 _ rfl), List.isEmpty_iff.mp (g 8 _ rfl), Option.isNone_iff_eq_none.mp (g 9 _ rfl), beq_iff_eq.mp (g 10 _ rfl), ?_⟩, fun x hx => beq_iff_eq.mp (List.all_eq_true.mp (g 15 _ rfl) x hx), nodup_of (g 16 _ rfl)⟩
      · rw [hf, ho]
        have c12 := beq_iff_eq.mp (g 11 _ rfl)
        have c13 := List.isEmpty_iff.mp (g 12 _ rfl)
        have c14 := beq_iff_eq.mp (g 13 _ rfl)
        clear g e e0
        obtain ⟨name, qual, params, body, scope, gl, cl, dv, kv, doc, pm, an, cd, ct, bl⟩ := d
        cases e4; cases c12; cases c13; cases c14; rfl
      · intro x hx hx2
        have := List.all_eq_true.mp (g 4 _ rfl) x hx
        rw [hx2] at this
        exact Bool.noConfusion (show false = true from this)
      · have c15 := g 14 _ rfl
        unfold defB at c15
        cases hd : d.defaults with
        | none => rw [hd] at c15; exact .inl ⟨List.isEmpty_iff.mp c15, rfl⟩
        | ref T =>
          rw [hd] at c15
          dsimp only at c15
          generalize hT : G.K.lookup T = oo at c15
          cases oo with
          | none => exact Bool.noConfusion (show false = true from c15)
          | some o =>
            obtain ⟨oc', od', data', sl⟩ := o
            cases data' with
            | seq items n => exact .inr ⟨T, oc', od', items, n, sl, rfl, hT, dfs_of c15⟩
            | _ => exact Bool.noConfusion (show false = true from c15)
        | _ => rw [hd] at c15; exact Bool.noConfusion (show false = true from c15)
    | _ => exact Bool.noConfusion (show false = true from e)
include hf hc in
theorem cls_of {k : Nat} {c : Cls} (e : clsB G.K k c = true) : ClsOK G theQ k c := by
  unfold clsB at e
  simp only [Bool.and_eq_true, beq_iff_eq, List.all_eq_true] at e
  obtain ⟨⟨⟨⟨⟨⟨⟨⟨c1, c2⟩, c3⟩, c4⟩, c5⟩, c6⟩, c7⟩, c8⟩, c9⟩ := e
  refine ⟨by rw [hc]; exact c1, by rw [hc, hf]; exact c2, by rw [hf]; exact c3, fun x => ?_, by rw [hc]; exact c5, by rw [hc]; exact c6, by rw [hc]; exact c7, fun x hx => ?_, fun x f hx => ?_⟩
  · rw [hc]; exact c4
  · rw [hc]; exact c8 x (by simpa using hx)
  · rw [hc, hf]; exact c9 _ (lookup_mem hx)
theorem getD_mem {α : Type} {l : List α} {k : Nat} {d : α} (h : d ∈ l) : l.getD k d ∈ l := by
  rw [List.getD_eq_getElem?_getD]
  cases q : l[k]? with
  | none => exact h
  | some v => exact List.mem_of_getElem? q
include hK hb hf hc in
theorem progOK_of : ProgOK G theQ := by
  unfold progB at hK
  simp only [Bool.and_eq_true, List.all_eq_true, List.mem_range] at hK
  obtain ⟨⟨⟨⟨h1, h2⟩, h3⟩, h4⟩, h5⟩ := hK
  refine ⟨fun x v e => glob_of hf hc (h1 _ (lookup_mem e)), fun k f e => ?_, fun k c e => ?_, fun k => ?_, fun k => ?_⟩
  · have e' : (if k < 26 then theP.fn k else none) = some f := e
    split at e'
    · rename_i hk
      have := h2 k hk
      rw [e'] at this
      exact fn_of hb hf hk e' this
    · cases e'
  · have e' : clsOf k = some c := e
    have hk : k < 5 := Nat.lt_of_not_le fun h => by
      obtain ⟨j, rfl⟩ : ∃ j, k = j + 5 := ⟨k - 5, (Nat.sub_add_cancel h).symm⟩
      exact no_some (show none = some c from e')
    have := h3 k hk
    rw [e'] at this
    exact cls_of hf hc this
  · rw [hf]; exact h4 _ (getD_mem (by decide))
  · rw [hc]; exact h5 _ (getD_mem (by decide))
end
end Mine.S
end
section
open PySem PySem.W PyProof.Rows PySem.Calls
namespace Mine.S
noncomputable def keepSt : Stmt → Bool
  | .Assign .. => false
  | _ => true
noncomputable def view : Program := { PySem.Challenge.pw_nu0325_01 with main := { PySem.Challenge.pw_nu0325_01.main with body := PySem.Challenge.pw_nu0325_01.main.body.filter keepSt } }
section
variable {p : Program} {w : World} {n₀ : Nat} {ann : Option Value}
noncomputable def topQ (ok : Nat → Option Value → Thread → Bool) (st : Program → World → SharedT → Thread → Option (SharedT × Thread)) (p : Program) (w : World) (n₀ : Nat) (ann : Option Value) : Nat → SharedT → Thread → Option SharedT
  | 0, _, _ => none
  | n + 1, s, t => bif through t then some s else bif ok n₀ ann t then (st p w s t).bind fun x => topQ ok st p w n₀ ann n x.1 x.2 else none
theorem topRun_yes {n : Nat} {s : Shared} {t : Thread} (q : through t = true) : topRun treeTable p w n₀ ann (n + 1) s t = some s := by
  show (match through t with | true => some s | false => _) = _
  rw [q]
theorem topRun_go {n : Nat} {s s' : Shared} {t t' : Thread} (q : through t = false) (k : stepOk n₀ ann t = true) (e : PySem.step (denote treeTable) p w s t = .go s' t') :
    topRun treeTable p w n₀ ann (n + 1) s t = topRun treeTable p w n₀ ann n s' t' := by
  show (match through t with | true => some s | false => match stepOk n₀ ann t with | false => none | true => match PySem.step (denote treeTable) p w s t with | .go s' t' => topRun treeTable p w n₀ ann n s' t' | .halt _ _ => none) = _
  rw [q, k, e]
theorem topQ_of (n : Nat) : ∀ (s : SharedT) (t : Thread) (r : SharedT), topQ stepOk (stepT (denote treeTable)) p w n₀ ann n s t = some r → topRun treeTable p w n₀ ann n s.abs t = some r.abs := by
  induction n with
  | zero => exact fun s t r h => no_some (show none = some _ from h)
  | succ n ih =>
    intro s t r h
    have h : (bif through t then some s else bif stepOk n₀ ann t then (stepT (denote treeTable) p w s t).bind fun x => topQ stepOk (stepT (denote treeTable)) p w n₀ ann n x.1 x.2 else none) = some r := h
    cases q : through t with
    | true => rw [q] at h; rw [← Option.some.inj h]; exact topRun_yes q
    | false =>
      rw [q] at h
      cases k : stepOk n₀ ann t with
      | false => rw [k] at h; exact no_some (show none = some _ from h)
      | true =>
        rw [k] at h
        exact (Option.bind_eq_some_iff.mp (show (stepT (denote treeTable) p w s t).bind _ = _ from h)).elim fun x e => (topRun_go q k (stepT_spec e.1)).trans (ih _ _ _ e.2)
end
noncomputable def grow : List Obj → BT → Nat → Option BT
  | [], t, _ => some t
  | o :: r, t, n => bif ((t.ins n o).get n).isSome then grow r (t.ins n o) (n + 1) else none
theorem grow_of {life : Life} (l : List Obj) : ∀ (t : BT) (n : Nat) (t' : BT), grow l t n = some t' → (absHeap t' (n + l.length) life).objs = (absHeap t n life).objs ++ l := by
  induction l with
  | nil => intro t n t' h; rw [← Option.some.inj (show some t = _ from h)]; simp
  | cons o r ih =>
    intro t n t' h
    have h : (bif ((t.ins n o).get n).isSome then grow r (t.ins n o) (n + 1) else none) = some t' := h
    cases q : ((t.ins n o).get n).isSome with
    | false => rw [q] at h; exact no_some (show none = some _ from h)
    | true =>
      rw [q] at h
      rw [List.length_cons, show n + (r.length + 1) = n + 1 + r.length from Nat.add_right_comm n r.length 1, ih _ _ _ h, absHeap_ins q]
      show (absHeap t n life).objs.push o ++ r = _
      simp
theorem abs_of {s : Shared} {T : BT} (e : grow s.heap.objs.toList .nil 0 = some T) : SharedT.abs ⟨T, s.heap.objs.size, s.heap.life, s.gens, s.drawn, s.toks, s.os⟩ = s := by
  have g := grow_of (life := s.heap.life) _ _ _ _ e
  rw [show absHeap .nil 0 s.heap.life = ⟨#[], s.heap.life⟩ from rfl, Nat.zero_add] at g
  show Shared.mk ⟨(absHeap T s.heap.objs.toList.length s.heap.life).objs, s.heap.life⟩ s.gens s.drawn s.toks s.os = s
  rw [g]
  simp
section
variable {α : Type} {p q : Program} {loose : List Str} {Xt : Shared → Bool} {Yf : Shared → α} {Ya : World → α} {N : Nat}
noncomputable def allB3 (p : Program) (s₀ s : Shared) : Bool := staticsOk (importedModules p.main.body) s₀.heap s.heap && namesBound p s.heap && gensDone s && laidKept s₀.heap s.heap
theorem from_of {w : World} {s₀ s : Shared} (h1 : (s₀.heap.isNs mainGlobals && s₀.gens.size == 0) = true) (r : topRun treeTable p w s₀.heap.objs.size (s₀.heap.nsMap mainGlobals "__annotations__") N s₀ (topStub p) = some s) (h2 : allB3 p s₀ s = true) :
    topFrom treeTable p w N s₀ = some s := by
  unfold topFrom
  rw [h1]
  show Option.bind _ _ = _
  rw [r]
  show (match allB3 p s₀ s with | true => some s | false => none) = _
  rw [h2]
theorem ends_of {w : World} {s₀ s : Shared} (e : fencedOpening treeTable p w N = some s₀) (f : topFrom treeTable p w N s₀ = some s) : openEnds treeTable p w N = some s := by
  unfold openEnds
  rw [e]
  exact f
noncomputable def lookQ (ok : Nat → Option Value → Thread → Bool) (st : Program → World → SharedT → Thread → Option (SharedT × Thread)) (p q : Program) (loose : List Str) (Xt : Shared → Bool) (Yf : Shared → α) (N : Nat) (w : World) (s₀ : Shared) :=
  (grow s₀.heap.objs.toList .nil 0).bind fun T => (topQ ok st p w s₀.heap.objs.size (s₀.heap.nsMap mainGlobals "__annotations__") N ⟨T, s₀.heap.objs.size, s₀.heap.life, s₀.gens, s₀.drawn, s₀.toks, s₀.os⟩ (topStub p)).map fun s =>
    ((s₀.heap.isNs mainGlobals && s₀.gens.size == 0, allB3 p s₀ s.abs), openSeen q loose (importedModules p.main.body) Xt true s.abs, Yf s.abs)
theorem left_of (h : ∀ w, (fencedOpening treeTable p w N).bind (lookQ stepOk (stepT (denote treeTable)) p q loose Xt Yf N w) = some ((true, true), openGood q loose, Ya w)) : LeftO p q loose Xt Yf Ya N :=
  fun w => bnd1 (h w) fun s₀ e0 h => bnd1 h fun T eT h => mpd h fun s es h =>
    have c := congrArg (·.1) h
    (congrArg (Option.map _) (ends_of e0 (from_of (congrArg (·.1) c) ((congrArg (topRun treeTable p w _ _ N · _) (abs_of eT).symm).trans (topQ_of _ _ _ _ es)) (congrArg (·.2) c)))).trans (congrArg some (congrArg (·.2) h))
end
noncomputable abbrev P0 : Program := PySem.Challenge.rw_nu0325_01.row.prog
noncomputable abbrev XB (s : Shared) : Bool := xlAt view [] s && recOk (RowW.records PySem.Challenge.rw_nu0325_01.row.toRowW) s
theorem hl0 : ∀ w, (fencedOpening Fast.tw14364793385576792824 P0 w 3888).bind (lookQ Fast.tw6613529449190102663 (Fast.tw10156331382660048174 (Fast.tw11892475500146522536 Fast.tw14364793385576792824)) P0 view [] XB myHook.obs 3888 w) = some ((true, true), openGood view [], myHook.val w) := fun w => by
  kernel_rfl
theorem hl : LeftO P0 view [] XB myHook.obs myHook.val 3888 := left_of (by
  rewrite [Fast.te6613529449190102663, Fast.te10156331382660048174, Fast.te11892475500146522536, Fast.te14364793385576792824]
  exact hl0)
theorem ws1 : Fast.tw17960256430627541270 (Fast.tw2368527892694137696 PySem.Challenge.rw_nu0325_01) = true := by kernel_rfl
theorem ws : PySem.Challenge.rw_nu0325_01.wellSaid = true := by
  rw [Fast.te9446332074065402090]
  delta Fast.tw9446332074065402090
  rw [ws1]
  kernel_rfl
end Mine.S
end
section
open PySem PySem.W PyProof.Rows PySem.Calls
namespace Mine.S
noncomputable def st0 (cells : List Int) : St := ⟨[.cell none, .cell none, .junk, .list (ofInts cells)], upd (fun _ => none) (Str.ofString "cells") (.ref 3)⟩
noncomputable def LawRuns : Prop := ∀ cells : List Int, cells.length ≤ 63 → ∃ n σ', n ≤ 220 ∧ exs (run theQ n) lawK lawRest (st0 cells) = some (.ret (.bool true), σ')
noncomputable def nameP : Expr → Option (Str × Pos)
  | .Name x p => some (x, p)
  | _ => none
noncomputable def intP : Expr → Option (Int × Nat × Pos)
  | .Constant k n p => (match k with
    | .int i => some (i, n, p)
    | _ => none)
  | _ => none
noncomputable def slcP : Expr → Option (Expr × Pos)
  | .Slice lo hi st p => (match lo with
    | none => (match st with
      | none => hi.map fun e => (e, p)
      | some _ => none)
    | some _ => none)
  | _ => none
noncomputable def subP : Expr → Option (Expr × Expr × Pos)
  | .Subscript o i p => some (o, i, p)
  | _ => none
noncomputable def asgP : Stmt → Option (Expr × Expr × Pos)
  | .Assign ts e p => (one ts).map fun t => (t, e, p)
  | _ => none
theorem name_p {e : Expr} {q : Str × Pos} (h : nameP e = some q) : e = .Name q.1 q.2 := by
  cases e with
  | Name x p => cases h; rfl
  | _ => exact no_some h
theorem int_p {e : Expr} {q : Int × Nat × Pos} (h : intP e = some q) : e = .Constant (.int q.1) q.2.1 q.2.2 := by
  cases e with
  | Constant k n p => cases k with
    | int i => cases h; rfl
    | _ => exact no_some h
  | _ => exact no_some h
theorem slc_p {e : Expr} {q : Expr × Pos} (h : slcP e = some q) : e = .Slice none (some q.1) none q.2 := by
  cases e with
  | Slice lo hi st p => cases lo with
    | none => cases st with
      | none => exact mpd h fun e q1 q2 => by rw [q1, ← q2]
      | some _ => exact no_some h
    | some _ => exact no_some h
  | _ => exact no_some h
theorem sub_p {e : Expr} {q : Expr × Expr × Pos} (h : subP e = some q) : e = .Subscript q.1 q.2.1 q.2.2 := by
  cases e with
  | Subscript o i p => cases h; rfl
  | _ => exact no_some h
theorem asg_p {st : Stmt} {q : Expr × Expr × Pos} (h : asgP st = some q) : st = .Assign [q.1] q.2.1 q.2.2 := by
  cases st with
  | Assign ts e p => exact mpd h fun t q1 q2 => by rw [one_of q1, ← q2]
  | _ => exact no_some h
noncomputable def headOk (st : Stmt) : Option Unit := (asgP st).bind fun q => (nameP q.1).bind fun t => (subP q.2.1).bind fun w => (nameP w.1).bind fun y => (slcP w.2.1).bind fun z => (intP z.1).bind fun i =>
  if t.1 = Str.ofString "cells" ∧ y.1 = Str.ofString "script" ∧ i.1 = 63 then some () else none
theorem head_of {st : Stmt} (h : headOk st = some ()) : ∃ p1 p2 p3 k3 p4 p5 p6, st = .Assign [.Name (Str.ofString "cells") p1] (.Subscript (.Name (Str.ofString "script") p2) (.Slice none (some (.Constant (.int 63) k3 p3)) none p4) p5) p6 := by
  refine bnd1 h fun q a1 h => bnd1 h fun t a2 h => bnd1 h fun w a3 h => bnd1 h fun y a4 h => bnd1 h fun z a5 h => bnd1 h fun i a6 h => ifd h fun hh _ => ?_
  rw [asg_p a1, name_p a2, sub_p a3, name_p a4, slc_p a5, int_p a6, hh.1, hh.2.1, hh.2.2]
  exact ⟨_, _, _, _, _, _, _, rfl⟩
theorem ints_l2 {G : Gl} {led : Led} : ∀ {vs : List Value} {xs : List Int}, IntsAre vs xs → L2 (VR G led) (ofInts xs) vs
  | _, _, .nil => .nil
  | _, _, .cons n t h => .cons ⟨t, rfl⟩ (ints_l2 h)
theorem law_swap {M : Model} {A : Around} {b b' : List Stmt} {env : Env} {Q : Flow → Shared → Prop} {E : Value → Shared → Prop} {s : Shared} (e : b = b') (h : wpAny M A (execs b' env) Q E s) : wpAny M A (execs b env) Q E s := e ▸ h
theorem law_walk (H : LawRuns) {prog : Program} {w : World} {K : Frag} {h₀ : Heap} (KI : K.In h₀) (KB : progB K = true) (Kb : bodiesIn K = bodies0) {p : Program} {loose : List Str} {mean : ExcName → Option Value} {mg mb : Str → Option Value} (T : Top p loose mean mg mb h₀)
    {name : Str} {scope : Scope} {fa : Addr} {cd : Value} (hn : scope.names = lawF.names) (hsk : scope.kind = .function) {h₁ : Heap} {m : Str → Option Value} (F : Fr h₀ h₀.objs.size h₁ m) {o1 o2 : Obj} {a1 a2 : Addr} (d1 : ∃ v, o1.data = .cell v) (d2 : ∃ v, o2.data = .cell v)
    (N : News h₀ h₀.objs.size h₁ [(a1, o1), (a2, o2)]) (hne : a1 ≠ a2) (l1 : h₀.objs.size ≤ a1) (l2 : h₀.objs.size ≤ a2) (c1 : (cellsFrom (h₀.objs.size + 1) scope.names []).lookup (Str.ofString "held_ones") = some a1) (c2 : (cellsFrom (h₀.objs.size + 1) scope.names []).lookup (Str.ofString "types") = some a2)
    {la : Addr} {vs : List Value} {xs : List Int} (hL : h₀.IsList la vs.toArray) (hI : IntsAre vs xs) (hlen : xs.length ≤ 63) (hm : m (Str.ofString "script") = some (.ref la)) {s : Shared} (hs : s.heap = h₁) {Q : Flow → Shared → Prop} {E : Value → Shared → Prop}
    (k : ∀ h' tk' m', Fr h₀ h₀.objs.size h' m' → Q (.ret (.bool true)) { s with heap := h', toks := tk' }) :
    wpAny (model prog w) (callerA.deeper (envOfC name scope h₀.objs.size fa cd)) (execs (lawHead :: lawRest) (envOfC name scope h₀.objs.size fa cd)) Q E s := by
  subst hs
  obtain ⟨n, σ', hn', hrun⟩ := H xs hlen
  let G : Gl := ⟨prog, w, K, p, loose, mean, mg, mb, faOf, caOf⟩
  have PK : ProgOK G theQ := progOK_of KB Kb (fun _ => rfl) (fun _ => rfl)
  let env := envOfC name scope h₀.objs.size fa cd
  let X : CX := ⟨lawK, callerA.deeper env, h₀, h₀.objs.size, env⟩
  have hkind : ∀ x, lawK.kind x = env.kindOf x := fun x => by
    show lawF.names.lookup x = scope.names.lookup x
    rw [hn]
  have O : Ok G X n := {
    hk := hsk, hl := rfl, hg := rfl, hb := rfl, kind := hkind, kin := KI, top := T, hh := rfl
    depth := by
      show (1 + claimMargin) + 1 + 3 * n < recursionLimit
      have : claimMargin = 300 := rfl
      have : recursionLimit = 1000 := rfl
      lia
    units := by
      show 4 + 3 + 10 * n + 100 < cLine
      have : cLine = 9900 := rfl
      lia
    stand := fun _ => ⟨callerA, h₀, [], below_caller h₀, rfl, rfl⟩ }
  have hbig : sysModules < h₀.objs.size := modules_low T.nolimit
  have R0 : Rep G X [(a1, o1), (a2, o2)] ⟨[.cell none, .cell none], fun _ => none⟩ s.heap := {
    fr := ⟨m, F, fun _ _ e => by cases e⟩
    news := N
    nodup := by simp [hne]
    len := rfl
    objs := fun i o a ob e1 e2 => by
      match i with
      | 0 => cases e1; cases e2; exact ⟨_, d1.choose_spec, fun _ e => by cases e⟩
      | 1 => cases e1; cases e2; exact ⟨_, d2.choose_spec, fun _ e => by cases e⟩
      | i + 2 => simp at e1
    low := fun q hq => by
      rcases List.mem_cons.mp hq with rfl | hq
      · exact Nat.lt_of_lt_of_le hbig l1
      · rcases List.mem_cons.mp hq with rfl | hq
        · exact Nat.lt_of_lt_of_le hbig l2
        · cases hq
    big := hbig
    cells := fun x i hx hi => by
      have hi : List.lookup x [(Str.ofString "held_ones", 0), (Str.ofString "types", 1)] = some i := hi
      have := lookup_mem hi
      simp only [List.mem_cons, Prod.mk.injEq, List.not_mem_nil, or_false] at this
      rcases this with ⟨rfl, rfl⟩ | ⟨rfl, rfl⟩
      · exact ⟨a1, c1, rfl⟩
      · exact ⟨a2, c2, rfl⟩ }
  rw [execs_cons]
  refine wpAny_bind ?_
  obtain ⟨p1, p2, p3, k3, p4, p5, p6, hh⟩ := head_of (st := lawHead) (by decide +kernel)
  rw [hh]
  have kc : env.kindOf (Str.ofString "cells") = some .local := by rw [← hkind]; decide +kernel
  have ks : env.kindOf (Str.ofString "script") = some .local := by rw [← hkind]; decide +kernel
  refine wpAny_Assign_Name ?_ rfl
  show wpAny (model G.prog G.w) X.A (eval _ X.env) _ E s
  refine Subscript_ (wpAny_Name (wpAny_loadName_local hsk ks F.ns hm ?_) (by decide +kernel))
  refine wpAny_Slice (wpAny_evalPart_none (wpAny_evalPart_some (wpAny_Constant_int (wpAny_evalPart_none ?_))))
  have L1 : s.heap.IsList la vs.toArray := F.lst hL
  have hl := ints_l2 (G := G) (led := [(a1, o1), (a2, o2)]) hI
  have hs : sliceL .none (.int 63) (ofInts xs) = some (ofInts xs) := by
    show some ((ofInts xs).take 63) = _
    rw [List.take_of_length_le (by simpa [ofInts] using hlen)]
  obtain ⟨pa, pb, g1, g2, g3⟩ := slice_pick (vlo := .none) (vhi := .int 63 s.toks) hs rfl ⟨_, rfl⟩ (by simpa using hl)
  have hsz : vs.toArray.size ≤ sizeLine := by
    have := hl.length
    rw [sizeLine_eq]; simp [ofInts] at this ⊢; lia
  obtain ⟨x1, x2, x3⟩ := R0.alloc (ao := .junk) (h' := s.heap.push { cls := .type "slice", data := .fields #[.none, .int 63 s.toks, .none] }) (fun b o e => Heap.get?_push_of_some _ e) (Nat.le_refl _) (Heap.get?_push_size _ rfl) trivial
  refine sub_slice_tail (L1.push _).typeIs (wpAny_getItem_list_slice (L1.push _) (Heap.IsSliceOf.new ..) g1 g2 .none (by simp) ?_ hsz)
  have E2 := x2.app (.list (ofInts xs)) ((s.heap.push { cls := .type "slice", data := .fields #[.none, .int 63 s.toks, .none] }).objs.size, { cls := .type "list", data := .seq (slicePick vs.toArray pa pb none) })
  obtain ⟨y1, y2, y3⟩ := x2.alloc (ao := .list (ofInts xs)) (h' := (s.heap.push { cls := .type "slice", data := .fields #[.none, .int 63 s.toks, .none] }).push { cls := .type "list", data := .seq (slicePick vs.toArray pa pb none) })
    (fun b o e => Heap.get?_push_of_some _ e) (Nat.le_refl _) (Heap.get?_push_size _ rfl) ⟨rfl, rfl, _, 0, rfl, g3.mono fun _ _ w => (w.ext x1).ext E2⟩
  obtain ⟨m2, F2, q2⟩ := y2.fr
  refine wpAny_storeName_local kc F2.ns (fun h' hn' hs' => ?_) (by first | (rw [O.hk]; rfl) | (rw [show env.scope.kind = .function from hsk]; rfl) | (dsimp only [envOfC]; rw [hsk]; rfl))
  have R3 := y2.setLoc (x := Str.ofString "cells") (v := .ref 3) q2 (F2.set hn' hs') (y2.news.set hs') ⟨_, y3, rfl⟩
  refine execs_ok (run_ok PK n) X O lawRest _ _ _ hrun { s with heap := h', toks := _ } _ _ _ R3 fun v h4 tk4 led4 z1 z2 z3 => ?_
  obtain ⟨rv, rfl, hv⟩ := z3
  cases hv
  obtain ⟨m4, F4, _⟩ := z2.fr
  exact k _ _ _ F4
end Mine.S
end
section
open PySem PySem.W PyProof.Rows PySem.Calls
namespace Mine.S
theorem law_holds (H : LawRuns) : PySem.Challenge.rw_nu0325_01.Holds := by
  w_on
  refine holds_law ws fun said => ?_
  refine holds_open (q := view) (loose := []) (Xt := fun s => xlAt view [] s && recOk (RowW.records PySem.Challenge.rw_nu0325_01.row.toRowW) s) (XP := XL view []) (Yf := myHook.obs) (Ya := myHook.val) (YP := myHook.says) (N := 3888) hl myHook.of myHook.keeps (fun s e => xl_of s (Bool.and_eq_true_iff.mp e).1) XL.keeps (by rfl) (by rfl) (by rfl) (fun s e => recFacts_of (Bool.and_eq_true_iff.mp e).2) (by rfl) (by first | assumption | decide +kernel) (by decide +kernel) ⟨rfl, rfl, rfl, rfl, rfl, by decide +kernel⟩ ?hw ?hc
  case hw => w_witness2
  case hc =>
    intro w s₀ s₁ mg mb G Y fa o pm cd doc dV kV ho hd hcd hD hmg hg args vals as hpre hlay hrd hwl hlo
    refine Ground.open G ?_
    intro T B D TE TW
    try (refine guard_noD D (by decide +kernel) ?_; clear D)
    have TA := at_of_top T
    try (obtain ⟨_, _, he, B0⟩ := based_of_top T rfl hmg ho hd; have he' : cd = _ := he; subst he'; clear he)
    clear hmg
    wrow_args hpre hlay hrd hwl hlo
    first | refine callC_kw (enter_call ?_) | refine enter_call ?_ | refine callC_kw (enter_callW ?_) | refine enter_callW ?_
    w_top on
    try refine codeAny_mono ?_ (fun _ _ g => GoodW.toG g)
    have K0 := below_caller (Top.heap T)
    w_call any ho hd hcd hD T F
    clear hd TA
    k_drop
    rename_i cda cdb xs hs hlay0 hL1 hr1 hl2 as6 as5 la vs as2 hL ra w1 r0 hI hr hc1 hc2 h1 tk1 o1 o2 hd1 hd2 N0 X0
    obtain ⟨K, KI, KB, Kb⟩ := Y
    refine law_swap (b' := lawHead :: lawRest) (by kernel_rfl) ?_
    refine law_walk H KI KB Kb T (by kernel_rfl) (by kernel_rfl) F ⟨_, hd1⟩ ⟨_, hd2⟩ N0 (by simp) (Nat.le_trans (Nat.le_succ _) (Nat.le_succ _)) (Nat.le_succ _) ?_ ?_ hL hI (by omega) ?_ rfl fun h' tk' m' F' => ?_
    · kernel_rfl
    · kernel_rfl
    · kernel_rfl
    · refine goodW_bool F' hg (raisesW_false ?_) ?_
      · intro ct hct; exact absurd hct (by show ¬ ct ∈ []; simp)
      · kernel_rfl
end Mine.S
end
theorem PySem.Challenge.cw_nu0325_01_holds : PySem.Challenge.rw_nu0325_01.Holds := by
  exact Mine.S.law_holds fun cells hl => by
    obtain ⟨σ', e⟩ := Mine.L.law_runs 0 cells hl
    exact ⟨0 + 29, σ', by omega, e⟩

