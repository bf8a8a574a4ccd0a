import PyProof.Rows.All
import Wide.All
import OpenK.AllK
import Wide.FinOn
import Lean
import PySem.Challenge.RW_pq0792_01
set_option Elab.async false
set_option linter.all false
set_option tactic.hygienic false
set_option autoImplicit false
namespace Mine
/- eliminations: the goal stands once, not at each layer -/
theorem xe1 {α : Sort _} {P : α → Prop} {G : Prop} (k : ∀ a, P a → G) : (∃ a, P a) → G := fun ⟨a, h⟩ => k a h
theorem xe2 {α : Sort _} {β : α → Sort _} {P : ∀ a, β a → Prop} {G : Prop} (k : ∀ a b, P a b → G) : (∃ a b, P a b) → G := fun ⟨a, b, h⟩ => k a b h
theorem xe3 {α : Sort _} {β : Sort _} {γ : Sort _} {P : α → β → γ → Prop} {G : Prop} (k : ∀ a b c, P a b c → G) : (∃ a b c, P a b c) → G := fun ⟨a, b, c, h⟩ => k a b c h
theorem xe4 {α : Sort _} {β : Sort _} {γ : Sort _} {δ : Sort _} {P : α → β → γ → δ → Prop} {G : Prop} (k : ∀ a b c d, P a b c d → G) : (∃ a b c d, P a b c d) → G := fun ⟨a, b, c, d, h⟩ => k a b c d h
theorem xe5 {α : Sort _} {β : Sort _} {γ : Sort _} {δ : Sort _} {ε : Sort _} {P : α → β → γ → δ → ε → Prop} {G : Prop} (k : ∀ a b c d e, P a b c d e → G) : (∃ a b c d e, P a b c d e) → G := fun ⟨a, b, c, d, e, h⟩ => k a b c d e h
theorem ae2 {A B G : Prop} (k : A → B → G) : A ∧ B → G := fun ⟨a, b⟩ => k a b
theorem ae3 {A B C G : Prop} (k : A → B → C → G) : A ∧ B ∧ C → G := fun ⟨a, b, c⟩ => k a b c
theorem ae4 {A B C D G : Prop} (k : A → B → C → D → G) : A ∧ B ∧ C ∧ D → G := fun ⟨a, b, c, d⟩ => k a b c d
theorem ae5 {A B C D E G : Prop} (k : A → B → C → D → E → G) : A ∧ B ∧ C ∧ D ∧ E → G := fun ⟨a, b, c, d, e⟩ => k a b c d e
theorem ae6 {A B C D E F G : Prop} (k : A → B → C → D → E → F → G) : A ∧ B ∧ C ∧ D ∧ E ∧ F → G := fun ⟨a, b, c, d, e, f⟩ => k a b c d e f
theorem ae7 {A B C D E F H G : Prop} (k : A → B → C → D → E → F → H → G) : A ∧ B ∧ C ∧ D ∧ E ∧ F ∧ H → G := fun ⟨a, b, c, d, e, f, h⟩ => k a b c d e f h
theorem ae8 {A B C D E F H I G : Prop} (k : A → B → C → D → E → F → H → I → G) : A ∧ B ∧ C ∧ D ∧ E ∧ F ∧ H ∧ I → G := fun ⟨a, b, c, d, e, f, h, i⟩ => k a b c d e f h i
section
open PySem

/- abstract values -/
inductive V where
  | none
  | bool (b : Bool)
  | int (i : Int)
  | str (s : Str)
  | ref (a : Nat)
  deriving DecidableEq

/- abstract objects -/
inductive O where
  | ro (xs : List V)
  | list (xs : List V)
  | tuple (xs : List V)
  | dict (kvs : List (Int × V)) (ep : Nat)
  | inst (d : Nat)
  | ns (near mem : Option V)
  deriving DecidableEq

noncomputable abbrev H := List O
noncomputable abbrev L := Str → Option V
inductive Fl where
  | next
  | cont
  | ret (v : V)

noncomputable abbrev M := StateT H Option

noncomputable def fail {α : Type} : M α := fun zz => .none
noncomputable def rd (a : Nat) : M O := fun h => (h[a]?).map fun o => (o, h)
noncomputable def wr (a : Nat) (o : O) : M Unit := fun h => if a < h.length then some ((), h.set a o) else .none
noncomputable def new (o : O) : M Nat := fun h => some (h.length, h ++ [o])
noncomputable def chk (a : Nat) (o : O) : M Unit := fun h => if h[a]? = some o then some ((), h) else .none

noncomputable def upd (m : L) (x : Str) (v : V) : L := fun y => if y = x then some v else m y

noncomputable def intOf : V → Option Int
  | .int i => some i
  | _ => .none
noncomputable def strOf : V → Option Str
  | .str s => some s
  | _ => .none
noncomputable def intsOf : List V → Option (List Int)
  | [] => some []
  | v :: vs => (intOf v).bind fun i => (intsOf vs).map fun is => i :: is
noncomputable def strsOf : List V → Option (List Str)
  | [] => some []
  | v :: vs => (strOf v).bind fun i => (strsOf vs).map fun is => i :: is
/- the ints of a list object -/
noncomputable def listAt (h : H) : V → Option (List Int)
  | .ref a => match h[a]? with
    | some (.list xs) => intsOf xs
    | _ => .none
  | _ => .none
noncomputable def listsOf (h : H) : List V → Option (List (List Int))
  | [] => some []
  | v :: vs => (listAt h v).bind fun i => (listsOf h vs).map fun is => i :: is

noncomputable def big : Nat := 2 ^ 300
noncomputable def lim : Nat := 1000

noncomputable def constA : Const → M V
  | .none => pure .none
  | .bool b => pure (.bool b)
  | .int i => pure (.int i)
  | .str s => pure (.str s)
  | _ => fail

noncomputable def nameA (m : L) (x : Str) : M V := fun h => (m x).map fun v => (v, h)

noncomputable def truthA : V → M Bool
  | .bool b => pure b
  | _ => fail

noncomputable def addRefs (a b : Nat) : M V := do
  match ← rd a, ← rd b with
  | .list xs, .list ys => if xs.length + ys.length ≤ lim then do let c ← new (.list (xs ++ ys)); pure (.ref c) else fail
  | _, _ => fail

noncomputable def intOp (op : Operator) (a b : Int) : M V :=
  match op with
  | .Add => pure (.int (a + b))
  | .Sub => pure (.int (a - b))
  | .Mult => if a.natAbs < big ∧ b.natAbs < big then pure (.int (a * b)) else fail
  | .FloorDiv => if b ≠ 0 ∧ a.natAbs < big ∧ b.natAbs < big then pure (.int (a.fdiv b)) else fail
  | .Mod => if b ≠ 0 then pure (.int (a.fmod b)) else fail
  | .Pow => if 0 ≤ b ∧ b ≤ 100 ∧ a.natAbs < 100 then pure (.int (a ^ b.toNat)) else fail
  | _ => fail
noncomputable def binA (op : Operator) (a b : V) : M V :=
  match a with
  | .int i => match b with
    | .int j => intOp op i j
    | _ => fail
  | .ref i => match b with
    | .ref j => match op with
      | .Add => addRefs i j
      | _ => fail
    | _ => fail
  | _ => fail

noncomputable def augA : Operator → V → V → M V
  | .Add, .int a, .int b => pure (.int (a + b))
  | .Sub, .int a, .int b => pure (.int (a - b))
  | _, _, _ => fail

noncomputable def negA : V → M V
  | .int a => pure (.int (-a))
  | _ => fail

noncomputable def asL : Option O → Option (List V)
  | some (.list xs) => some xs
  | _ => .none
noncomputable def asT : Option O → Option (List V)
  | some (.tuple xs) => some xs
  | _ => .none
noncomputable def asP : List V → Option (Nat × Int)
  | [.ref p, .int i] => some (p, i)
  | _ => .none
noncomputable def eqLL (h : H) (xs ys : List V) : Option Bool := (listsOf h xs).bind fun i => (listsOf h ys).map fun j => decide (i = j)
noncomputable def eqLs (h : H) (xs ys : List V) : Option Bool :=
  match intsOf xs with
  | some i => match intsOf ys with
    | some j => some (decide (i = j))
    | .none => eqLL h xs ys
  | .none => eqLL h xs ys
noncomputable def eqTs (h : H) (p q : Nat × Int) : Option Bool :=
  (asL h[p.1]?).bind fun xs => (asL h[q.1]?).bind fun ys => (listsOf h xs).bind fun u => (listsOf h ys).map fun v => decide (u = v) && decide (p.2 = q.2)
noncomputable def eqRefs (h : H) (a b : Nat) : Option Bool :=
  match asL h[a]? with
  | some xs => (asL h[b]?).bind fun ys => eqLs h xs ys
  | .none => (asT h[a]?).bind fun xs => (asT h[b]?).bind fun ys => (asP xs).bind fun p => (asP ys).bind fun q => eqTs h p q

noncomputable def eqA (h : H) (a b : V) : Option Bool :=
  match a with
  | .int a => match b with
    | .int b => some (decide (a = b))
    | _ => .none
  | .str a => match b with
    | .str b => some (decide (a = b))
    | _ => .none
  | .bool a => match b with
    | .bool b => some (a == b)
    | _ => .none
  | .ref a => match b with
    | .ref b => eqRefs h a b
    | _ => .none
  | _ => .none

noncomputable def inI (i : Int) : Option O → Option Bool
  | some (.list xs) => (intsOf xs).map fun is => decide (i ∈ is)
  | some (.dict kvs _) => some (decide (i ∈ kvs.map (·.1)))
  | _ => .none
noncomputable def inS (s : Str) : Option O → Option Bool
  | some (.list xs) => (strsOf xs).map fun is => decide (s ∈ is)
  | some (.tuple xs) => (strsOf xs).map fun is => decide (s ∈ is)
  | _ => .none
noncomputable def inA (h : H) (a b : V) : Option Bool :=
  match b with
  | .ref b => match a with
    | .int i => inI i h[b]?
    | .str s => inS s h[b]?
    | _ => .none
  | _ => .none

noncomputable def cmpI (f : Int → Int → Bool) (a b : V) (h : H) : Option (V × H) :=
  match a with
  | .int i => match b with
    | .int j => some (.bool (f i j), h)
    | _ => .none
  | _ => .none
noncomputable def cmpA (op : CmpOp) (a b : V) : M V := fun h =>
  match op with
  | .Lt => cmpI (fun a b => decide (a < b)) a b h
  | .LtE => cmpI (fun a b => decide (a ≤ b)) a b h
  | .Gt => cmpI (fun a b => decide (b < a)) a b h
  | .GtE => cmpI (fun a b => decide (b ≤ a)) a b h
  | .Eq => (eqA h a b).map fun r => (.bool r, h)
  | .NotEq => (eqA h a b).map fun r => (.bool (!r), h)
  | .In => (inA h a b).map fun r => (.bool r, h)
  | .NotIn => (inA h a b).map fun r => (.bool (!r), h)
  | .Is => match b with
    | .none => some (.bool (decide (a = .none)), h)
    | _ => .none
  | .IsNot => .none

noncomputable def at? {α : Type} (xs : List α) (i : Int) : Option α := if 0 ≤ i then xs[i.toNat]? else .none

noncomputable def lookD (kvs : List (Int × V)) (k : Int) : Option V := (kvs.find? fun p => p.1 == k).map (·.2)

noncomputable def getItemA : V → V → M V
  | .ref a, .int i => fun h => match h[a]? with
    | some (.list xs) => if xs.length ≤ lim then (at? xs i).map fun v => (v, h) else .none
    | some (.tuple xs) => if xs.length ≤ lim then (at? xs i).map fun v => (v, h) else .none
    | some (.dict kvs _) => (lookD kvs i).map fun v => (v, h)
    | _ => .none
  | _, _ => fail

noncomputable def sliceA (n : Int) : V → M V
  | .ref a => do
    match ← rd a with
    | .list xs => if 0 ≤ n ∧ n ≤ 100 ∧ xs.length ≤ lim then do let c ← new (.list (xs.take n.toNat)); pure (.ref c) else fail
    | _ => fail
  | _ => fail

noncomputable def setD (kvs : List (Int × V)) (k : Int) (v : V) : List (Int × V) := kvs.map fun p => if p.1 = k then (k, v) else p
noncomputable def putD (kvs : List (Int × V)) (ep : Nat) (k : Int) (v : V) : O :=
  if k ∈ kvs.map (·.1) then .dict (setD kvs k v) ep else .dict (kvs ++ [(k, v)]) (ep + 1)
noncomputable def delD (kvs : List (Int × V)) (k : Int) : List (Int × V) := kvs.filter fun p => !(p.1 == k)

noncomputable def setItemA : V → V → V → M Unit
  | .ref a, .int i, v => do
    match ← rd a with
    | .list xs => if 0 ≤ i ∧ i.toNat < xs.length ∧ xs.length ≤ lim then wr a (.list (xs.set i.toNat v)) else fail
    | .dict kvs ep => if kvs.length ≤ lim then wr a (putD kvs ep i v) else fail
    | _ => fail
  | _, _, _ => fail

noncomputable def delItemA : V → V → M Unit
  | .ref a, .int i => do
    match ← rd a with
    | .dict kvs ep => if i ∈ kvs.map (·.1) ∧ kvs.length ≤ lim then wr a (.dict (delD kvs i) (ep + 1)) else fail
    | _ => fail
  | _, _ => fail

noncomputable def sNear : Str := Str.ofString "near"
noncomputable def sMembers : Str := Str.ofString "members"

noncomputable def getAttrA (x : Str) : V → M V
  | .ref a => do
    match ← rd a with
    | .inst d => do
      match ← rd d with
      | .ns n m => if x = sNear then (fun h => n.map fun v => (v, h)) else if x = sMembers then (fun h => m.map fun v => (v, h)) else fail
      | _ => fail
    | _ => fail
  | _ => fail

noncomputable def setAttrA (x : Str) (v : V) : V → M Unit
  | .ref a => do
    match ← rd a with
    | .inst d => do
      match ← rd d with
      | .ns n m => if x = sNear then wr d (.ns (some v) m) else if x = sMembers then wr d (.ns n (some v)) else fail
      | _ => fail
    | _ => fail
  | _ => fail

/- insertion of a pair by its key -/
noncomputable def sortI (is : List Int) : List Int := is.mergeSort (fun a b => decide (a ≤ b))
/- lexicographic less on ints -/
noncomputable def lexLt : List Int → List Int → Bool
  | [], [] => false
  | [], _ :: _ => true
  | _ :: _, [] => false
  | a :: as, b :: bs => if a = b then lexLt as bs else decide (a < b)
noncomputable def sortP (ps : List (List Int × V)) : List (List Int × V) := ps.mergeSort (fun a b => !lexLt b.1 a.1)

noncomputable def keysV (kvs : List (Int × V)) : List V := kvs.map fun p => .int p.1

noncomputable def sortedA : V → M V
  | .ref a => do
    match ← rd a with
    | .dict kvs _ => if kvs.length < 60 then do let c ← new (.list ((sortI (kvs.map (·.1))).map .int)); pure (.ref c) else fail
    | .list xs => fun h => if xs.length < 60 then
        match intsOf xs with
        | some is => (do let c ← new (.list ((sortI is).map .int)); pure (.ref c) : M V) h
        | _ => match listsOf h xs with
          | some ls => if ls.Nodup then (do let c ← new (.list ((sortP (ls.zip xs)).map (·.2))); pure (.ref c) : M V) h else .none
          | _ => .none
        else .none
    | _ => fail
  | _ => fail

noncomputable def lenA : V → M V
  | .ref a => do
    match ← rd a with
    | .list xs => if xs.length ≤ lim then pure (.int xs.length) else fail
    | .dict kvs _ => if kvs.length ≤ lim then pure (.int kvs.length) else fail
    | _ => fail
  | _ => fail

noncomputable def copyA : V → M V
  | .ref a => do
    match ← rd a with
    | .list xs => if xs.length ≤ lim then do let c ← new (.list xs); pure (.ref c) else fail
    | .ro xs => if xs.length ≤ lim then do let c ← new (.list xs); pure (.ref c) else fail
    | _ => fail
  | _ => fail

noncomputable def removeA (a : Nat) (xs : List V) (v : V) : M V := fun h =>
  match listsOf h xs, listAt h v with
  | some ls, some c => if c ∈ ls ∧ xs.length ≤ lim then (do wr a (.list (xs.eraseIdx (ls.idxOf c))); pure .none : M V) h else .none
  | _, _ => .none

noncomputable def listMeth (x : Str) (a : Nat) (vs : List V) : M V := do
  match ← rd a, vs with
  | .list xs, [v] =>
    if xs.length < lim then
      if x = Str.ofString "append" then do wr a (.list (xs ++ [v])); pure .none
      else if x = Str.ofString "extend" then
        match v with
        | .ref b => do
          match ← rd b with
          | .list ys => if a ≠ b ∧ ys.length < lim then do wr a (.list (xs ++ ys)); pure .none else fail
          | _ => fail
        | _ => fail
      else if x = Str.ofString "remove" then removeA a xs v
      else fail
    else fail
  | _, _ => fail

noncomputable def methN (x : Str) : Option Str :=
  if x = Str.ofString "add" then some (Str.ofString "Graph.add")
  else if x = Str.ofString "join_nodes" then some (Str.ofString "Graph.join_nodes")
  else if x = Str.ofString "holder" then some (Str.ofString "Graph.holder")
  else .none

noncomputable def builtinA (f : Str) (vs : List V) : M V :=
  if f = Str.ofString "len" then (match vs with | [v] => lenA v | _ => fail)
  else if f = Str.ofString "sorted" then (match vs with | [v] => sortedA v | _ => fail)
  else if f = Str.ofString "list" then (match vs with | [v] => copyA v | _ => fail)
  else if f = Str.ofString "min" then (match vs with | [.int a, .int b] => pure (.int (if b < a then b else a)) | _ => fail)
  else if f = Str.ofString "max" then (match vs with | [.int a, .int b] => pure (.int (if a < b then b else a)) | _ => fail)
  else fail

/- what an iteration goes over, and the look that it stays -/
noncomputable def iterA : V → M (List V × M Unit)
  | .ref a => do
    match ← rd a with
    | .list xs => pure (xs, chk a (.list xs))
    | .dict kvs ep => pure (keysV kvs, chk a (.dict kvs ep))
    | _ => fail
  | _ => fail

noncomputable def loopA (ck : M Unit) (body : V → L → M (Fl × L)) : List V → L → M (Fl × L)
  | [], m => pure (.next, m)
  | x :: xs, m => do
    match ← body x m with
    | (.ret v, m') => pure (.ret v, m')
    | (_, m') => do ck; loopA ck body xs m'

noncomputable def compA (ck : M Unit) (body : V → M (List V)) : List V → M (List V)
  | [] => pure []
  | x :: xs => do
    let a ← body x
    ck
    let b ← compA ck body xs
    pure (a ++ b)

noncomputable def targetName : Comprehension → Option Str
  | ⟨.Name x _, _, _, _⟩ => some x
  | _ => .none
noncomputable def isTarget (gs : List Comprehension) (y : Str) : Bool := y == Str.ofString ".0" || gs.any fun g => targetName g == some y
/- the names that a comprehension binds are its own -/
noncomputable def clrL (gs : List Comprehension) (m : L) : L := fun y => if isTarget gs y = true then .none else m y

noncomputable def rangeV (n : Int) : List V := (List.range n.toNat).map fun (i : Nat) => .int i

noncomputable def newL (vs : List V) : M V := if vs.length ≤ lim then do let a ← new (.list vs); pure (.ref a) else fail
noncomputable def newT (vs : List V) : M V := if vs.length ≤ lim then do let a ← new (.tuple vs); pure (.ref a) else fail
noncomputable def newD : M V := do let a ← new (.dict [] 0); pure (.ref a)

section
variable (cl : Str → List V → M V)

noncomputable def callMeth (x : Str) (ov : V) (vs : M (List V)) : M V :=
  match ov with
  | .ref a => do
    match ← rd a with
    | .inst d => do
      match ← rd d with
      | .ns _ _ => match methN x with
        | some f => do let us ← vs; cl f (.ref a :: us)
        | _ => fail
      | _ => fail
    | .list _ => do let us ← vs; listMeth x a us
    | _ => fail
  | _ => fail

mutual
noncomputable def evalA : Expr → L → M V
  | .Constant c _ _, _ => constA c
  | .Name x _, m => nameA m x
  | .BoolOp op vs _, m => boolA op vs m
  | .BinOp l op r _, m => do
    let a ← evalA l m
    let b ← evalA r m
    binA op a b
  | .UnaryOp .USub x _, m => do
    let a ← evalA x m
    negA a
  | .IfExp t b o _, m => do
    let c ← testA t m (evalA t m)
    if c = true then evalA b m else evalA o m
  | .Compare l [op] [r] _, m => do
    let a ← evalA l m
    let b ← evalA r m
    cmpA op a b
  | .Call (.Name f _) as [] _, m => do
    let vs ← evalsA as m
    cl f vs
  | .Call (.Attribute o x _) as [] _, m => do
    let ov ← evalA o m
    callMeth cl x ov (evalsA as m)
  | .Attribute o x _, m => do
    let ov ← evalA o m
    getAttrA x ov
  | .Subscript v (.Slice .none (some (.Constant (.int n) _ _)) .none _) _, m => do
    let o ← evalA v m
    sliceA n o
  | .Subscript v i _, m => do
    let o ← evalA v m
    let j ← evalA i m
    getItemA o j
  | .List es _, m => do
    let vs ← evalsA es m
    newL vs
  | .Tuple es _ _, m => do
    let vs ← evalsA es m
    newT vs
  | .Dict [] [] _, _ => newD
  | .ListComp e (⟨.Name x p, it, ifs, z⟩ :: gs) _ _, m => do
    let src ← evalA it m
    let r ← iterA src
    let vs ← compA r.2 (fun v => do
      let c ← condsA ifs (upd (clrL (⟨.Name x p, it, ifs, z⟩ :: gs) m) x v)
      if c = true then gensA gs (upd (clrL (⟨.Name x p, it, ifs, z⟩ :: gs) m) x v) (fun m' => evalA e m') else pure []) r.1
    newL vs
  | _, _ => fail

noncomputable def boolA : BoolOp → List Expr → L → M V
  | _, [], _ => fail
  | op, e :: es, m => do
    let v ← evalA e m
    match es with
    | [] => pure v
    | _ => do
      let t ← truthA v
      match op, t with
      | .And, false => pure v
      | .Or, true => pure v
      | _, _ => boolA op es m

noncomputable def testA : Expr → L → M V → M Bool
  | .UnaryOp .Not x _, m, _ => do
    let b ← testA x m (evalA x m)
    pure (!b)
  | .BoolOp op vs _, m, _ => testsA op vs m
  | _, _, whole => do
    let v ← whole
    truthA v

noncomputable def testsA : BoolOp → List Expr → L → M Bool
  | op, [], _ => pure (match op with | .And => true | .Or => false)
  | op, e :: es, m => do
    let t ← testA e m (evalA e m)
    match op, t with
    | .And, false => pure false
    | .Or, true => pure true
    | _, _ => testsA op es m

noncomputable def evalsA : List Expr → L → M (List V)
  | [], _ => pure []
  | e :: es, m => do
    let v ← evalA e m
    let vs ← evalsA es m
    pure (v :: vs)

noncomputable def condsA : List Expr → L → M Bool
  | [], _ => pure true
  | e :: es, m => do
    let c ← testA e m (evalA e m)
    if c = true then condsA es m else pure false

noncomputable def gensA : List Comprehension → L → (L → M V) → M (List V)
  | [], m, emit => do
    let v ← emit m
    pure [v]
  | ⟨.Name x _, it, ifs, _⟩ :: gs, m, emit => do
    let src ← evalA it m
    let r ← iterA src
    compA r.2 (fun v => do
      let c ← condsA ifs (upd m x v)
      if c = true then gensA gs (upd m x v) emit else pure []) r.1
  | _, _, _ => fail
end

noncomputable def namesOf : List Expr → Option (List Str)
  | [] => some []
  | .Name x _ :: r => (namesOf r).map fun xs => x :: xs
  | _ => .none

noncomputable def bindAll (m : L) : List Str → List V → L
  | x :: xs, v :: vs => bindAll (upd m x v) xs vs
  | _, _ => m

noncomputable def unpackA (ts : List Expr) (v : V) (m : L) : M L :=
  match namesOf ts, v with
  | some xs, .ref a => do
    match ← rd a with
    | .tuple vs => if vs.length = xs.length ∧ xs.Nodup then pure (bindAll m xs vs) else fail
    | _ => fail
  | _, _ => fail

/- the argument of a plain range call -/
noncomputable def rangeArg : Expr → Option Expr
  | .Call (.Name f _) [e] [] _ => if f = Str.ofString "range" then some e else .none
  | _ => .none
noncomputable def rangeA : V → M (List V)
  | .int n => if 0 ≤ n ∧ n ≤ lim then pure (rangeV n) else fail
  | _ => fail

mutual
noncomputable def execA : Stmt → L → M (Fl × L)
  | .Assign [.Name x _] e _, m => do
    let v ← evalA cl e m
    pure (.next, upd m x v)
  | .Assign [.Tuple ts _ _] e _, m => do
    let v ← evalA cl e m
    let m' ← unpackA ts v m
    pure (.next, m')
  | .Assign [.Subscript o i _] e _, m => do
    let v ← evalA cl e m
    let ov ← evalA cl o m
    let iv ← evalA cl i m
    setItemA ov iv v
    pure (.next, m)
  | .Assign [.Attribute o x _] e _, m => do
    let v ← evalA cl e m
    let ov ← evalA cl o m
    setAttrA x v ov
    pure (.next, m)
  | .AugAssign (.Name x _) op e _, m => do
    let old ← nameA m x
    let v ← evalA cl e m
    let r ← augA op old v
    pure (.next, upd m x r)
  | .Delete [.Subscript o i _] _, m => do
    let ov ← evalA cl o m
    let iv ← evalA cl i m
    delItemA ov iv
    pure (.next, m)
  | .Expr e _, m => do
    let v ← evalA cl e m
    match v with
    | .none => pure (.next, m)
    | _ => fail
  | .Return (some e) _, m => do
    let v ← evalA cl e m
    pure (.ret v, m)
  | .If t b o _, m => do
    let c ← testA cl t m (evalA cl t m)
    if c = true then execsA b m else execsA o m
  | .For (.Name x _) it body [] _, m =>
    match rangeArg it with
    | some e => do
      let v ← evalA cl e m
      let r ← rangeA v
      loopA (pure ()) (fun v m' => execsA body (upd m' x v)) r m
    | _ => do
      let src ← evalA cl it m
      let r ← iterA src
      loopA r.2 (fun v m' => execsA body (upd m' x v)) r.1 m
  | .Continue _, m => pure (.cont, m)
  | _, _ => fail

noncomputable def execsA : List Stmt → L → M (Fl × L)
  | [], m => pure (.next, m)
  | s :: r, m => do
    let q ← execA s m
    match q with
    | (.next, m') => execsA r m'
    | (f, m') => pure (f, m')
end
end

structure Fd where
  params : List Str
  scope : Scope
  body : List Stmt

noncomputable def runA (cl : Str → List V → M V) (fd : Fd) (vs : List V) : M V := do
  if fd.params.length = vs.length then
    let q ← execsA cl fd.body (fun x => (fd.params.zip vs).lookup x)
    match q with
    | (.ret v, _) => pure v
    | _ => pure .none
  else fail

noncomputable def fdOf : Stmt → Option (Str × Fd)
  | .FunctionDef n a b _ _ _ s _ _ _ => some (n, ⟨a.args.map (·.arg), s, b⟩)
  | _ => .none
noncomputable def fdsIn (b : List Stmt) (x : Str) : Option Fd := (b.filterMap fdOf).lookup x

noncomputable def graphBody : List Stmt → List Stmt
  | [] => []
  | .ClassDef _ _ _ b _ _ _ _ _ _ _ :: _ => b
  | _ :: r => graphBody r

noncomputable def sGraph : Str := Str.ofString "Graph"
noncomputable def sInit : Str := Str.ofString "Graph.__init__"

noncomputable def FT (p : Program) (f : Str) : Option Fd :=
  if f = Str.ofString "Graph.__init__" then fdsIn (graphBody p.main.body) (Str.ofString "__init__")
  else if f = Str.ofString "Graph.add" then fdsIn (graphBody p.main.body) (Str.ofString "add")
  else if f = Str.ofString "Graph.join_nodes" then fdsIn (graphBody p.main.body) (Str.ofString "join_nodes")
  else if f = Str.ofString "Graph.holder" then fdsIn (graphBody p.main.body) (Str.ofString "holder")
  else fdsIn p.main.body f

noncomputable def callA (p : Program) : Nat → Str → List V → M V
  | 0, _, _ => fail
  | n + 1, f, vs =>
    if f = sGraph then
      (match vs with
      | [] => do
        let d ← new (.ns .none .none)
        let i ← new (.inst d)
        let r ← callA p n sInit [.ref i]
        if r = .none then pure (.ref i) else fail
      | _ => fail)
    else match FT p f with
      | some fd => runA (callA p n) fd vs
      | _ => builtinA f vs

end

section
open PySem PySem.W PyProof.Rows

inductive VR (φ : List Addr) : V → Value → Prop where
  | none : VR φ .none .none
  | bool (b : Bool) : VR φ (.bool b) (.bool b)
  | int (i : Int) (t : Tok) : VR φ (.int i) (.int i t)
  | str (x : Str) (t : Tok) : VR φ (.str x) (.str x t)
  | ref (i : Nat) (a : Addr) (h : φ[i]? = some a) : VR φ (.ref i) (.ref a)

inductive VRs (φ : List Addr) : List V → List Value → Prop where
  | nil : VRs φ [] []
  | cons {v : V} {r : Value} {vs : List V} {rs : List Value} (h : VR φ v r) (t : VRs φ vs rs) : VRs φ (v :: vs) (r :: rs)

inductive DRs (φ : List Addr) : List (Int × V) → List DictEntry → Prop where
  | nil : DRs φ [] []
  | cons {k : Int} {t : Tok} {v : V} {r : Value} {vs : List (Int × V)} {rs : List DictEntry} (h : VR φ v r) (tl : DRs φ vs rs) :
      DRs φ ((k, v) :: vs) (⟨hashInt k, .int k t, r⟩ :: rs)

inductive ORel (φ : List Addr) : Option V → Option Value → Prop where
  | none : ORel φ .none .none
  | some {v : V} {r : Value} (h : VR φ v r) : ORel φ (some v) (some r)

theorem pre_get {φ φ' : List Addr} (p : φ <+: φ') {i : Nat} {a : Addr} (h : φ[i]? = some a) : φ'[i]? = some a := by
  (revert p; refine xe1 fun t zq1 => ?_; subst zq1)
  rw [List.getElem?_append_left]
  · exact h
  · exact (List.getElem?_eq_some_iff.mp h).1

theorem VR.mono {φ φ' : List Addr} (p : φ <+: φ') {v : V} {r : Value} (h : VR φ v r) : VR φ' v r := by
  cases h with
  | none => exact .none
  | bool b => exact .bool b
  | int i t => exact .int i t
  | str x t => exact .str x t
  | ref i a h => exact .ref i a (pre_get p h)
theorem VRs.mono {φ φ' : List Addr} (p : φ <+: φ') {v : List V} {r : List Value} (h : VRs φ v r) : VRs φ' v r := by
  induction h with
  | nil => exact .nil
  | cons h _ ih => exact .cons (h.mono p) ih
theorem DRs.mono {φ φ' : List Addr} (p : φ <+: φ') {v : List (Int × V)} {r : List DictEntry} (h : DRs φ v r) : DRs φ' v r := by
  induction h with
  | nil => exact .nil
  | cons h _ ih => exact .cons (h.mono p) ih
theorem ORel.mono {φ φ' : List Addr} (p : φ <+: φ') {v : Option V} {r : Option Value} (h : ORel φ v r) : ORel φ' v r := by
  cases h with
  | none => exact .none
  | some h => exact .some (h.mono p)

theorem VRs.length {φ : List Addr} {v : List V} {r : List Value} (h : VRs φ v r) : v.length = r.length := by
  induction h with
  | nil => rfl
  | cons _ _ ih => simp [ih]
theorem VRs.get {φ : List Addr} {v : List V} {r : List Value} (h : VRs φ v r) {i : Nat} {x : V} (e : v[i]? = some x) : ∃ y, r[i]? = some y ∧ VR φ x y := by
  induction h generalizing i with
  | nil => cases e
  | cons h _ ih =>
    cases i with
    | zero => simp only [List.getElem?_cons_zero, Option.some.injEq] at e ⊢; subst e; exact ⟨_, rfl, h⟩
    | succ i => simpa using ih (by simpa using e)
theorem VRs.append {φ : List Addr} {v v' : List V} {r r' : List Value} (h : VRs φ v r) (h' : VRs φ v' r') : VRs φ (v ++ v') (r ++ r') := by
  induction h with
  | nil => exact h'
  | cons h _ ih => exact .cons h ih
theorem VRs.set {φ : List Addr} {v : List V} {r : List Value} (h : VRs φ v r) (i : Nat) {x : V} {y : Value} (hx : VR φ x y) : VRs φ (v.set i x) (r.set i y) := by
  induction h generalizing i with
  | nil => exact .nil
  | cons h t ih =>
    cases i with
    | zero => exact .cons hx t
    | succ i => exact .cons h (ih i)
theorem VRs.take {φ : List Addr} {v : List V} {r : List Value} (h : VRs φ v r) (n : Nat) : VRs φ (v.take n) (r.take n) := by
  induction h generalizing n with
  | nil => simp; exact .nil
  | cons h t ih =>
    cases n with
    | zero => exact .nil
    | succ n => exact .cons h (ih n)
theorem VRs.eraseIdx {φ : List Addr} {v : List V} {r : List Value} (h : VRs φ v r) (i : Nat) : VRs φ (v.eraseIdx i) (r.eraseIdx i) := by
  induction h generalizing i with
  | nil => exact .nil
  | cons h t ih =>
    cases i with
    | zero => exact t
    | succ i => exact .cons h (ih i)
theorem VRs.one {φ : List Addr} {v : V} {r : Value} (h : VR φ v r) : VRs φ [v] [r] := .cons h .nil

theorem intOf_some {v : V} {i : Int} (h : intOf v = some i) : v = .int i := by cases v <;> simp_all [intOf]
theorem strOf_some {v : V} {i : Str} (h : Mine.strOf v = some i) : v = .str i := by cases v <;> simp_all [Mine.strOf]
theorem intsOf_map : ∀ {xs : List V} {is : List Int}, intsOf xs = some is → xs = is.map .int
  | [], is, h => by simp [intsOf] at h; subst h; rfl
  | v :: vs, is, h => by
    simp only [intsOf, Option.bind_eq_some_iff, Option.map_eq_some_iff] at h
    (revert h; refine xe1 fun i zq1 => ?_; revert zq1; refine ae2 fun hi zq2 => ?_; revert zq2; refine xe1 fun js zq3 => ?_; revert zq3; refine ae2 fun hj zq4 => ?_; subst zq4)
    rw [intOf_some hi, intsOf_map hj]; rfl
theorem map_intsOf (is : List Int) : intsOf (is.map V.int) = some is := by
  induction is with
  | nil => rfl
  | cons i is ih => simp [intsOf, intOf, ih]
theorem strsOf_map : ∀ {xs : List V} {is : List Str}, strsOf xs = some is → xs = is.map .str
  | [], is, h => by simp [strsOf] at h; subst h; rfl
  | v :: vs, is, h => by
    simp only [strsOf, Option.bind_eq_some_iff, Option.map_eq_some_iff] at h
    (revert h; refine xe1 fun i zq1 => ?_; revert zq1; refine ae2 fun hi zq2 => ?_; revert zq2; refine xe1 fun js zq3 => ?_; revert zq3; refine ae2 fun hj zq4 => ?_; subst zq4)
    rw [strOf_some hi, strsOf_map hj]; rfl
theorem VRs.ints {φ : List Addr} : ∀ {is : List Int} {r : List Value}, VRs φ (is.map .int) r → IntsAre r is
  | [], _, h => by cases h; exact .nil
  | i :: is, _, h => by
    cases h with
    | cons h t => cases h; exact .cons _ _ t.ints

/- an abstract object and a real one -/
noncomputable def OD (C : Addr) (φ : List Addr) : O → Obj → Prop
  | .ro xs, ob => ob.cls = .type "list" ∧ ∃ vs n, ob.data = .seq (List.toArray vs) n ∧ VRs φ xs vs
  | .list xs, ob => ∃ vs n, ob = seqObj "list" (List.toArray vs) n ∧ VRs φ xs vs
  | .tuple xs, ob => ∃ vs n, ob = seqObj "tuple" (List.toArray vs) n ∧ VRs φ xs vs
  | .dict kvs ep, ob => ∃ es, ob = ⟨.type "dict", .none, .dict (List.toArray es) ep, #[]⟩ ∧ DRs φ kvs es ∧ (kvs.map (·.1)).Nodup
  | .inst d, ob => ∃ b, φ[d]? = some b ∧ ob = instObj C b
  | .ns n m, ob => ∃ es ep, ob.data = .dict es ep ∧ StrKeys es ∧ UniqKeys es ∧ ORel φ n (nsFind es sNear) ∧ ORel φ m (nsFind es sMembers) ∧
      ∀ x, x ≠ sNear → x ≠ sMembers → nsFind es x = .none

theorem OD.mono {C : Addr} {φ φ' : List Addr} (p : φ <+: φ') {o : O} {ob : Obj} (h : OD C φ o ob) : OD C φ' o ob := by
  cases o with
  | ro xs => (revert h; refine ae2 fun a zq1 => ?_; revert zq1; refine xe2 fun vs n zq2 => ?_; revert zq2; refine ae2 fun b c => ?_); exact ⟨a, vs, n, b, c.mono p⟩
  | list xs => (revert h; refine xe2 fun vs n zq1 => ?_; revert zq1; refine ae2 fun b c => ?_); exact ⟨vs, n, b, c.mono p⟩
  | tuple xs => (revert h; refine xe2 fun vs n zq1 => ?_; revert zq1; refine ae2 fun b c => ?_); exact ⟨vs, n, b, c.mono p⟩
  | dict kvs ep => (revert h; refine xe1 fun es zq1 => ?_; revert zq1; refine ae3 fun a b c => ?_); exact ⟨es, a, b.mono p, c⟩
  | inst d => (revert h; refine xe1 fun b zq1 => ?_; revert zq1; refine ae2 fun e q => ?_); exact ⟨b, pre_get p e, q⟩
  | ns n m => (revert h; refine xe2 fun es ep zq1 => ?_; revert zq1; refine ae6 fun a b u c d e => ?_); exact ⟨es, ep, a, b, u, c.mono p, d.mono p, e⟩

theorem OD.notFreed {C : Addr} {φ : List Addr} {o : O} {ob : Obj} (h : OD C φ o ob) : ob.isFreed = false := by
  cases o with
  | ro xs => (revert h; refine ae2 fun a zq1 => ?_; revert zq1; refine xe2 fun vs n zq2 => ?_; revert zq2; refine ae2 fun b c => ?_); obtain ⟨_, _, dt, _⟩ := ob; dsimp only at b; subst b; rfl
  | list xs => (revert h; refine xe2 fun vs n zq1 => ?_; revert zq1; refine ae2 fun b c => ?_); subst b; rfl
  | tuple xs => (revert h; refine xe2 fun vs n zq1 => ?_; revert zq1; refine ae2 fun b c => ?_); subst b; rfl
  | dict kvs ep => (revert h; refine xe1 fun es zq1 => ?_; revert zq1; refine ae3 fun a b c => ?_); subst a; rfl
  | inst d => (revert h; refine xe1 fun b zq1 => ?_; revert zq1; refine ae2 fun e q => ?_); subst q; rfl
  | ns n m => (revert h; refine xe2 fun es ep zq1 => ?_; revert zq1; refine ae2 fun a zz => ?_); obtain ⟨_, _, dt, _⟩ := ob; dsimp only at a; subst a; rfl

/- the whole abstract heap and the real one, over what stood before -/
structure Rel (C : Addr) (h₀ : Heap) (φ : List Addr) (h : H) (s : Heap) : Prop where
  len : φ.length = h.length
  nodup : φ.Nodup
  obj : ∀ (i : Nat) (o : O), h[i]? = some o → ∃ a ob, φ[i]? = some a ∧ s.get? a = some ob ∧ OD C φ o ob
  keep : ∀ (b : Addr) (o : Obj), h₀.get? b = some o → s.get? b = some o
  new : ∀ (i : Nat) (a : Addr), φ[i]? = some a → (∃ xs, h[i]? = some (.ro xs)) ∨ h₀.objs.size ≤ a

structure Step (F : List Addr) (φ : List Addr) (s : Heap) (φ' : List Addr) (s' : Heap) : Prop where
  pre : φ <+: φ'
  keep : ∀ b o, s.get? b = some o → b ∉ φ → b ∉ F → s'.get? b = some o
  alive : ∀ b o, s.get? b = some o → ∃ o', s'.get? b = some o'
  fresh : ∀ b ∈ φ', b ∈ φ ∨ s.get? b = none

theorem Step.refl (F : List Addr) (φ : List Addr) (s : Heap) : Step F φ s φ s := ⟨List.prefix_refl _, fun zz zz e zz zz => e, fun zz o e => ⟨o, e⟩, fun zz h => .inl h⟩
theorem Step.trans {F φ φ' φ'' : List Addr} {s s' s'' : Heap} (a : Step F φ s φ' s') (b : Step F φ' s' φ'' s'') : Step F φ s φ'' s'' :=
  ⟨a.pre.trans b.pre, fun x o e h1 h2 => b.keep x o (a.keep x o e h1 h2) (fun h => (a.fresh x h).elim h1 fun h3 => by rw [e] at h3; cases h3) h2,
    fun x o e => let ⟨o', e'⟩ := a.alive x o e; b.alive x o' e', fun x h => (b.fresh x h).elim (fun h => a.fresh x h) fun h => .inr (by
      cases q : s.get? x with
      | none => rfl
      | some o => (refine xe1 (fun o' e' => ?_) (a.alive x o q)); rw [h] at e'; cases e')⟩
theorem Step.weak {F F' φ φ' : List Addr} {s s' : Heap} (a : Step F φ s φ' s') (h : ∀ x ∈ F, x ∈ F') : Step F' φ s φ' s' :=
  ⟨a.pre, fun x o e h1 h2 => a.keep x o e h1 fun q => h2 (h x q), a.alive, a.fresh⟩
theorem Step.nil {F φ φ' : List Addr} {s s' : Heap} (a : Step [] φ s φ' s') : Step F φ s φ' s' := a.weak fun zz h => nomatch h
/- everything stays, more may stand -/
theorem Step.grow {F φ : List Addr} {s s' : Heap} (k : ∀ b o, s.get? b = some o → s'.get? b = some o) : Step F φ s φ s' :=
  ⟨List.prefix_refl _, fun zz zz e zz zz => k _ _ e, fun zz o e => ⟨o, k _ _ e⟩, fun zz h => .inl h⟩
theorem Step.push {F φ : List Addr} {s : Heap} (o : Obj) : Step F φ s φ (s.push o) := Step.grow fun zz zz e => Heap.get?_push_of_some o e

section
variable {C : Addr} {h₀ s s' : Heap} {φ : List Addr} {h : H}

theorem Rel.get (R : Rel C h₀ φ h s) {i : Nat} {o : O} (e : h[i]? = some o) {a : Addr} (ha : φ[i]? = some a) : ∃ ob, s.get? a = some ob ∧ OD C φ o ob := by
  (refine xe2 (fun a' ob zq1 => ?_) (R.obj i o e); revert zq1; refine ae3 fun h1 h2 h3 => ?_)
  rw [ha] at h1; cases h1; exact ⟨ob, h2, h3⟩
theorem Rel.lt (R : Rel C h₀ φ h s) {a : Addr} (ha : a ∈ φ) : a < s.objs.size := by
  (refine xe1 (fun i hi => ?_) (List.mem_iff_getElem?.mp ha))
  have hl := (List.getElem?_eq_some_iff.mp hi).1
  rw [R.len] at hl
  (refine xe2 (fun b ob zq1 => ?_) (R.obj i h[i] (List.getElem?_eq_getElem hl)); revert zq1; refine ae3 fun h1 h2 zz => ?_)
  rw [hi] at h1; cases h1; exact Heap.lt_size h2
theorem Rel.inj (R : Rel C h₀ φ h s) {i j : Nat} {a : Addr} (hi : φ[i]? = some a) (hj : φ[j]? = some a) : i = j :=
  (List.getElem?_inj (List.getElem?_eq_some_iff.mp hi).1 R.nodup).mp (hi.trans hj.symm)

theorem Rel.grow (R : Rel C h₀ φ h s) (k : ∀ b o, s.get? b = some o → s'.get? b = some o) : Rel C h₀ φ h s' :=
  ⟨R.len, R.nodup, fun i o e => let ⟨a, ob, h1, h2, h3⟩ := R.obj i o e; ⟨a, ob, h1, k _ _ h2, h3⟩, fun b o e => k _ _ (R.keep b o e), R.new⟩
theorem Rel.push (R : Rel C h₀ φ h s) (o : Obj) : Rel C h₀ φ h (s.push o) := R.grow fun zz zz e => Heap.get?_push_of_some o e
/- an address that is neither told nor of before may change -/
theorem Rel.other (R : Rel C h₀ φ h s) {x : Addr} (hs : Heap.SameBut x s s') (h1 : x ∉ φ) (h2 : h₀.objs.size ≤ x) : Rel C h₀ φ h s' :=
  ⟨R.len, R.nodup, fun i o e => let ⟨a, ob, h3, h4, h5⟩ := R.obj i o e; ⟨a, ob, h3, (hs.2 a fun q => h1 (q ▸ List.mem_of_getElem? h3)).trans h4, h5⟩,
    fun b o e => (hs.2 b fun q => by rw [q] at e; exact absurd (Heap.lt_size e) (Nat.not_lt.mpr h2)).trans (R.keep b o e), R.new⟩
theorem Rel.others (R : Rel C h₀ φ h s) {F : List Addr} (k : ∀ b o, s.get? b = some o → b ∉ F → s'.get? b = some o) (h1 : ∀ x ∈ F, x ∉ φ) (h2 : ∀ x ∈ F, h₀.objs.size ≤ x) : Rel C h₀ φ h s' :=
  ⟨R.len, R.nodup, fun i o e => let ⟨a, ob, h3, h4, h5⟩ := R.obj i o e; ⟨a, ob, h3, k a _ h4 fun q => h1 a q (List.mem_of_getElem? h3), h5⟩,
    fun b o e => k b _ (R.keep b o e) (fun q => absurd (Heap.lt_size e) (Nat.not_lt.mpr (h2 b q))), R.new⟩

theorem Rel.alloc (R : Rel C h₀ φ h s) {o : O} {ob : Obj} {a : Addr} (ha : s.get? a = some ob) (hn : a ∉ φ) (h0 : h₀.objs.size ≤ a) (hd : OD C (φ ++ [a]) o ob) : Rel C h₀ (φ ++ [a]) (h ++ [o]) s where
  len := by simp [R.len]
  nodup := by
    rw [List.nodup_append]
    exact ⟨R.nodup, by simp, fun x hx y hy e => hn (by rw [List.mem_singleton] at hy; rw [← hy, ← e]; exact hx)⟩
  obj := fun i o' e => by
    by_cases hi : i < h.length
    · rw [List.getElem?_append_left hi] at e
      (refine xe2 (fun b ob' zq1 => ?_) (R.obj i o' e); revert zq1; refine ae3 fun h1 h2 h3 => ?_)
      exact ⟨b, ob', pre_get (List.prefix_append _ _) h1, h2, h3.mono (List.prefix_append _ _)⟩
    · have hi' : i = h.length := by
        have := (List.getElem?_eq_some_iff.mp e).1
        simp at this; omega
      subst hi'
      rw [List.getElem?_concat_length] at e
      cases e
      exact ⟨a, ob, by rw [← R.len, List.getElem?_concat_length], ha, hd⟩
  keep := R.keep
  new := fun i b e => by
    by_cases hi : i < φ.length
    · rw [List.getElem?_append_left hi] at e
      rcases R.new i b e with ⟨xs, q⟩ | q
      · exact .inl ⟨xs, by rw [List.getElem?_append_left (by rw [← R.len]; exact hi)]; exact q⟩
      · exact .inr q
    · have hi' : i = φ.length := by
        have := (List.getElem?_eq_some_iff.mp e).1
        simp at this; omega
      subst hi'
      rw [List.getElem?_concat_length] at e
      cases e
      exact .inr h0

theorem Rel.put (R : Rel C h₀ φ h s) {i : Nat} {a : Addr} {o o' : O} {ob : Obj} (hi : φ[i]? = some a) (ho : h[i]? = some o) (hro : ∀ xs, o ≠ .ro xs) (hs : Heap.SameBut a s s') (ha : s'.get? a = some ob)
    (hd : OD C φ o' ob) : Rel C h₀ φ (h.set i o') s' where
  len := by simp [R.len]
  nodup := R.nodup
  obj := fun j p e => by
    rw [List.getElem?_set] at e
    by_cases hij : i = j
    · subst hij
      simp only [if_true] at e
      split at e
      · cases e; exact ⟨a, ob, hi, ha, hd⟩
      · cases e
    · simp only [if_neg hij] at e
      (refine xe2 (fun b ob' zq1 => ?_) (R.obj j p e); revert zq1; refine ae3 fun h1 h2 h3 => ?_)
      exact ⟨b, ob', h1, (hs.2 b fun q => hij (by rw [q] at h1; exact R.inj hi h1)).trans h2, h3⟩
  keep := fun b o'' e => by
    refine (hs.2 b fun q => ?_).trans (R.keep b o'' e)
    rcases R.new i a hi with ⟨xs, q'⟩ | q'
    · rw [ho] at q'; cases q'; exact hro _ rfl
    · rw [q] at e; exact absurd (Heap.lt_size e) (Nat.not_lt.mpr q')
  new := fun j b e => by
    rcases R.new j b e with ⟨xs, q⟩ | q
    · by_cases hij : i = j
      · subst hij; rw [ho] at q; cases q; exact absurd rfl (hro xs)
      · exact .inl ⟨xs, by rw [List.getElem?_set, if_neg hij]; exact q⟩
    · exact .inr q
end

theorem Step.put {F φ : List Addr} {s s' : Heap} {a : Addr} {o' : Obj} (hs : Heap.SameBut a s s') (ha : a ∈ φ) (h' : s'.get? a = some o') : Step F φ s φ s' :=
  ⟨List.prefix_refl _, fun b zz e h1 zz => (hs.2 b fun q => h1 (q ▸ ha)).trans e, fun b o e => by
    by_cases q : b = a
    · exact ⟨o', q ▸ h'⟩
    · exact ⟨o, (hs.2 b q).trans e⟩, fun zz h => .inl h⟩
theorem Step.own {F φ : List Addr} {s s' : Heap} {a : Addr} {o' : Obj} (hs : Heap.SameBut a s s') (ha : a ∈ F) (h' : s'.get? a = some o') : Step F φ s φ s' :=
  ⟨List.prefix_refl _, fun b zz e zz h2 => (hs.2 b fun q => h2 (q ▸ ha)).trans e, fun b o e => by
    by_cases q : b = a
    · exact ⟨o', q ▸ h'⟩
    · exact ⟨o, (hs.2 b q).trans e⟩, fun zz h => .inl h⟩
/- a new told object -/
theorem Step.alloc {F φ : List Addr} {s s' : Heap} {a : Addr} (k : ∀ b o, s.get? b = some o → s'.get? b = some o) (ha : s.get? a = none) : Step F φ s (φ ++ [a]) s' :=
  ⟨List.prefix_append _ _, fun zz zz e zz zz => k _ _ e, fun zz o e => ⟨o, k _ _ e⟩, fun b h => by rcases List.mem_append.mp h with q | q; exact .inl q; rw [List.mem_singleton] at q; exact .inr (q ▸ ha)⟩
theorem get_size (s : Heap) : s.get? s.objs.size = none := by
  cases q : s.get? s.objs.size with
  | none => rfl
  | some o => exact absurd (Heap.lt_size q) (Nat.lt_irrefl _)

end

section
open PySem
theorem VR.n {φ : List Addr} {r : Value} (h : VR φ .none r) : r = .none := by cases h; rfl
theorem VR.b {φ : List Addr} {b : Bool} {r : Value} (h : VR φ (.bool b) r) : r = .bool b := by cases h; rfl
theorem VR.i {φ : List Addr} {i : Int} {r : Value} (h : VR φ (.int i) r) : ∃ t, r = .int i t := by cases h; exact ⟨_, rfl⟩
theorem VR.s {φ : List Addr} {x : Str} {r : Value} (h : VR φ (.str x) r) : ∃ t, r = .str x t := by cases h; exact ⟨_, rfl⟩
theorem VR.r {φ : List Addr} {i : Nat} {r : Value} (h : VR φ (.ref i) r) : ∃ a, r = .ref a ∧ φ[i]? = some a := by cases h with | ref _ a h => exact ⟨a, rfl, h⟩
theorem some_pair {α β : Type} {a x : α} {b y : β} (h : some (a, b) = some (x, y)) : a = x ∧ b = y := ⟨congrArg Prod.fst (Option.some.inj h), congrArg Prod.snd (Option.some.inj h)⟩
end
local macro_rules
  | `(tactic| cases $h:ident) => `(tactic| first
    | subst $h | (have zq1 := (some_pair $h).1; have zq2 := (some_pair $h).2; clear $h; subst zq1; subst zq2) | (have zq := Option.some.inj $h; clear $h; subst zq)
    | (have zq := VR.b $h; clear $h; subst zq) | (obtain ⟨t, zq⟩ := VR.i $h; clear $h; subst zq) | (obtain ⟨t, zq⟩ := VR.s $h; clear $h; subst zq) | (have zq := VR.n $h; clear $h; subst zq)
    | cases ($h))

section
open PySem PySem.W PyProof.Rows

theorem DRs.keys {φ : List Addr} {kvs : List (Int × V)} {es : List DictEntry} (D : DRs φ kvs es) : IntKeys (List.toArray es) := by
  intro e he
  have he' : e ∈ es := by simpa using he
  clear he
  induction D with
  | nil => cases he'
  | cons h tl ih =>
    rcases List.mem_cons.mp he' with rfl | q
    · exact ⟨_, _, rfl, rfl⟩
    · exact ih q
theorem DRs.length {φ : List Addr} {kvs : List (Int × V)} {es : List DictEntry} (D : DRs φ kvs es) : kvs.length = es.length := by
  induction D with
  | nil => rfl
  | cons h tl ih => simp [ih]
theorem setD_of_not {kvs : List (Int × V)} {k : Int} {v : V} (h : k ∉ kvs.map (·.1)) : setD kvs k v = kvs := by
  induction kvs with
  | nil => rfl
  | cons p t ih =>
    simp only [List.map_cons, List.mem_cons, not_or] at h
    unfold setD at ih ⊢
    rw [List.map_cons, ih h.2, if_neg (fun e => h.1 e.symm)]
theorem delD_of_not {kvs : List (Int × V)} {k : Int} (h : k ∉ kvs.map (·.1)) : delD kvs k = kvs := by
  induction kvs with
  | nil => rfl
  | cons p t ih =>
    simp only [List.map_cons, List.mem_cons, not_or] at h
    unfold delD at ih ⊢
    have : (p.1 == k) = false := beq_eq_false_iff_ne.mpr fun e => h.1 e.symm
    rw [List.filter_cons, this, ih h.2]; rfl

inductive DFind (φ : List Addr) (kvs : List (Int × V)) (es : List DictEntry) (k : Int) : Prop where
  | no (h1 : es.findIdx? (fun e => Value.isInt k e.key) = .none) (h2 : k ∉ kvs.map (·.1)) (h3 : lookD kvs k = .none)
  | yes (i : Nat) (e : DictEntry) (v : V) (h1 : es.findIdx? (fun e => Value.isInt k e.key) = some i) (h2 : k ∈ kvs.map (·.1)) (h3 : lookD kvs k = some v) (h4 : es[i]? = some e) (h5 : VR φ v e.val)
      (h6 : (kvs.map (·.1)).Nodup → ∀ v' r', VR φ v' r' → DRs φ (setD kvs k v') (es.modify i fun e => { e with val := r' }))
      (h7 : (kvs.map (·.1)).Nodup → DRs φ (delD kvs k) (es.eraseIdx i))

theorem DRs.find {φ : List Addr} {kvs : List (Int × V)} {es : List DictEntry} (D : DRs φ kvs es) (k : Int) : DFind φ kvs es k := by
  induction D with
  | nil => exact .no rfl (by simp) rfl
  | @cons k' t v r vs rs h tl ih =>
    by_cases hk : k' = k
    · subst hk
      refine .yes 0 _ v (by simp [Value.isInt, List.findIdx?_cons]) (by simp) (by simp [lookD]) rfl h (fun hn v' r' hv => ?_) (fun hn => ?_)
      · simp only [List.map_cons, List.nodup_cons] at hn
        have := setD_of_not (v := v') hn.1
        unfold setD at this ⊢
        rw [List.map_cons, if_pos rfl, this]
        exact .cons hv tl
      · simp only [List.map_cons, List.nodup_cons] at hn
        have := delD_of_not hn.1
        unfold delD at this ⊢
        rw [List.filter_cons]
        simp only [beq_self_eq_true, Bool.not_true, Bool.false_eq_true, if_false, List.eraseIdx_zero, List.tail_cons]
        rw [this]; exact tl
    · have hb : (k' == k) = false := beq_eq_false_iff_ne.mpr hk
      have hl : lookD ((k', v) :: vs) k = lookD vs k := by simp [lookD, hb]
      have hv0 : Value.isInt k (Value.int k' t) = false := hb
      cases ih with
      | no h1 h2 h3 => exact .no (by rw [List.findIdx?_cons, hv0, h1]; rfl) (by simp only [List.map_cons, List.mem_cons, not_or]; exact ⟨fun e => hk e.symm, h2⟩) (hl.trans h3)
      | yes i e v₁ h1 h2 h3 h4 h5 h6 h7 =>
        refine .yes (i + 1) e v₁ (by rw [List.findIdx?_cons, hv0, h1]; rfl) (by simp only [List.map_cons, List.mem_cons]; exact .inr h2) (hl.trans h3) (by simpa using h4) h5 (fun hn v' r' hv => ?_) (fun hn => ?_)
        · simp only [List.map_cons, List.nodup_cons] at hn
          have q := h6 hn.2 v' r' hv
          unfold setD at q ⊢
          rw [List.map_cons, if_neg hk, List.modify_succ_cons]
          exact .cons h q
        · simp only [List.map_cons, List.nodup_cons] at hn
          have q := h7 hn.2
          unfold delD at q ⊢
          rw [List.filter_cons]
          simp only [hb, Bool.not_false, if_true, List.eraseIdx_cons_succ]
          exact .cons h q
theorem setD_keys (kvs : List (Int × V)) (k : Int) (v : V) : (setD kvs k v).map (·.1) = kvs.map (·.1) := by
  unfold setD
  rw [List.map_map]
  apply List.map_congr_left
  intro p _
  show (if p.1 = k then (k, v) else p).1 = p.1
  split
  · rename_i e; exact e.symm
  · rfl
theorem delD_nodup {kvs : List (Int × V)} (k : Int) (h : (kvs.map (·.1)).Nodup) : ((delD kvs k).map (·.1)).Nodup := by
  unfold delD
  exact h.sublist (List.filter_sublist.map _)

section
variable {prog : Program} {w : World} {A : Around} {E : Value → Shared → Prop} {s : Shared}

theorem dictX_typeIs {d : Addr} {es : Array DictEntry} {ep : Nat} (ho : s.heap.get? d = some ⟨.type "dict", none, .dict es ep, #[]⟩) : s.TypeIs (.ref d) "dict" := ⟨_, ho, rfl⟩

theorem dictSetX {d : Addr} {es : Array DictEntry} {ep : Nat} {k : Int} {t : Tok} {v : Value} {Q : Unit → Shared → Prop} (ho : s.heap.get? d = some ⟨.type "dict", none, .dict es ep, #[]⟩) (hk : IntKeys es) (hz : es.size ≤ sizeLine)
    (h : match es.findIdx? (fun e => Value.isInt k e.key) with
      | some i => Q () { s with heap := s.heap.update d (Obj.mapDict (·.modify i fun e => { e with val := v })), toks := s.toks + 1 }
      | none => Q () { s with heap := s.heap.update d (Obj.mapDictKeys (·.push ⟨hashInt k, .int k t, v⟩)), toks := s.toks + 1 }) :
    wpAny (model prog w) A (dictSet d (.int k t) v) Q E s := by
  unfold dictSet
  refine wpAny_holding (wpAny_bind (wpAny_pyHash_int ?_))
  unfold dictSetHashed
  refine wpAny_holding (wpAny_bind (wpAny_dictFind_int (s := { s with toks := s.toks + 1 }) ho rfl hk ?_))
  cases hi : es.findIdx? fun e => Value.isInt k e.key with
  | some i =>
    rw [hi] at h
    exact wpAny_bind (wpAny_rule (wpAny_bind (wpAny_updateDict (s := { s with toks := s.toks + 1 }) ho rfl (wpAny_point h))))
  | none =>
    rw [hi] at h
    exact wpAny_bind (wpAny_rule (wpAny_updateDictKeys (hz := hz) (s := { s with toks := s.toks + 1 }) ho rfl h))

theorem setItemX {d : Addr} {es : Array DictEntry} {ep : Nat} {k : Int} {t : Tok} {v : Value} {Q : Unit → Shared → Prop} (ho : s.heap.get? d = some ⟨.type "dict", none, .dict es ep, #[]⟩) (hk : IntKeys es) (hz : es.size ≤ sizeLine)
    (h : match es.findIdx? (fun e => Value.isInt k e.key) with
      | some i => Q () { s with heap := s.heap.update d (Obj.mapDict (·.modify i fun e => { e with val := v })), toks := s.toks + 1 }
      | none => Q () { s with heap := s.heap.update d (Obj.mapDictKeys (·.push ⟨hashInt k, .int k t, v⟩)), toks := s.toks + 1 }) :
    wpAny (model prog w) A (setItem (.ref d) (.int k t) v) Q E s := by
  have hT : s.TypeIs (.ref d) "dict" := dictX_typeIs ho
  unfold setItem
  refine wpAny_holding ?_
  refine wpAny_bind (wpAny_sequenceKey hT (by decide) ?_)
  refine wpAny_bind (wpAny_callSpecial?_slot (name := Str.ofString "__setitem__") hT slot_dict_setitem
    (wpAny_call_entry slot_dict_setitem hT entry_dict_setitem ?_ (args_dict_setitem _ _ _)))
  show wpAny _ _ (Builtin.Dict.notOrdered "__setitem__" ⟨[.ref d, .int k t, v], []⟩ >>= _) _ _ s
  refine wpAny_bind (wpAny_notOrdered_dict hT ?_)
  show wpAny _ _ (dictSet d (.int k t) v >>= _) _ _ s
  refine wpAny_bind (dictSetX ho hk hz ?_)
  cases hi : es.findIdx? fun e => Value.isInt k e.key with
  | some i => rw [hi] at h; exact wpAny_pure ⟨.none, rfl, wpAny_pure h⟩
  | none => rw [hi] at h; exact wpAny_pure ⟨.none, rfl, wpAny_pure h⟩

theorem delItemX {d : Addr} {es : Array DictEntry} {ep : Nat} {k : Int} {t : Tok} {i : Nat} {Q : Unit → Shared → Prop} (ho : s.heap.get? d = some ⟨.type "dict", none, .dict es ep, #[]⟩) (hk : IntKeys es) (hz : es.size ≤ sizeLine)
    (hi : es.findIdx? (fun e => Value.isInt k e.key) = some i)
    (h : Q () { s with heap := s.heap.update d (Obj.mapDictKeys (·.eraseIdxIfInBounds i)), toks := s.toks + 1 }) :
    wpAny (model prog w) A (delItem (.ref d) (.int k t)) Q E s := by
  have hT : s.TypeIs (.ref d) "dict" := dictX_typeIs ho
  have hlt : i < es.size := (Array.findIdx?_eq_some_iff_getElem.mp hi).1
  refine wpAny_delItem_slot hT (by decide) F.slot_dict_delitem (wpAny_call_entry F.slot_dict_delitem hT F.entry_dict_delitem ?_ (F.args_dict_delitem_2 _ _))
  unfold Builtin.«dict.__delitem__»
  refine wpAny_bind ?_
  unfold Builtin.Dict.dictSlotArgs
  refine wpAny_bind (wpAny_notOrdered_dict hT ?_)
  show wpAny _ _ (pure (Value.ref d, Value.int k t)) _ _ s
  refine wpAny_pure ?_
  show wpAny _ _ (Builtin.Dict.takeOut d (.int k t) >>= _) _ _ s
  refine wpAny_bind ?_
  unfold Builtin.Dict.takeOut
  refine wpAny_holding (wpAny_bind (wpAny_pyHash_int (wpAny_bind (wpAny_dictFind_int (s := { s with toks := s.toks + 1 }) ho rfl hk ?_))))
  rw [hi]
  refine wpAny_bind (wpAny_dictEntries (s := { s with toks := s.toks + 1 }) ho rfl ?_)
  rw [Array.getElem?_eq_getElem hlt]
  dsimp only
  refine wpAny_bind (wpAny_updateDictKeys (hz := hz) (hf := by unfold Array.eraseIdxIfInBounds; rw [dif_pos hlt, Array.size_eraseIdx]; omega) (s := { s with toks := s.toks + 1 }) ho rfl (wpAny_pure ?_))
  dsimp only
  exact wpAny_bind (wpAny_letGo (wpAny_pure ⟨.none, rfl, h⟩))
end
end

section
open PySem PySem.W PyProof.Rows

/- where a piece of the run ends: the heap has gone on by a step, and is told again -/
noncomputable def P0 (C : Addr) (h₀ : Heap) (F φ : List Addr) (s : Shared) (hh : H) (X : List Addr → Heap → Prop) (s' : Shared) : Prop :=
  ∃ φ' h1 tk, s' = { s with heap := h1, toks := tk } ∧ Step F φ s.heap φ' h1 ∧ Rel C h₀ φ' hh h1 ∧ X φ' h1
noncomputable abbrev PV (C : Addr) (h₀ : Heap) (F φ : List Addr) (s : Shared) (hh : H) (v : V) (rv : Value) (s' : Shared) : Prop := P0 C h₀ F φ s hh (fun φ' zz => VR φ' v rv) s'

section
variable {C : Addr} {h₀ : Heap} {F φ φ1 : List Addr} {s : Shared} {hh : H} {X Y : List Addr → Heap → Prop} {s' : Shared}

theorem P0.mk {φ' : List Addr} {h1 : Heap} {tk : Nat} (st : Step F φ s.heap φ' h1) (R : Rel C h₀ φ' hh h1) (x : X φ' h1) : P0 C h₀ F φ s hh X { s with heap := h1, toks := tk } :=
  ⟨φ', h1, tk, rfl, st, R, x⟩
theorem P0.after {h1 : Heap} {tk : Nat} (st : Step F φ s.heap φ1 h1) (p : P0 C h₀ F φ1 { s with heap := h1, toks := tk } hh X s') : P0 C h₀ F φ s hh X s' := by
  (revert p; refine xe3 fun φ' h2 tk2 zq1 => ?_; revert zq1; refine ae2 fun zq2 zq3 => ?_; subst zq2; revert zq3; refine ae3 fun st2 R x => ?_)
  exact ⟨φ', h2, tk2, rfl, st.trans st2, R, x⟩
theorem P0.weak {F' : List Addr} (p : P0 C h₀ F φ s hh X s') (h : ∀ x ∈ F, x ∈ F') : P0 C h₀ F' φ s hh X s' := by
  (revert p; refine xe3 fun φ' h2 tk2 zq1 => ?_; revert zq1; refine ae2 fun zq2 zq3 => ?_; subst zq2; revert zq3; refine ae3 fun st2 R x => ?_)
  exact ⟨φ', h2, tk2, rfl, st2.weak h, R, x⟩
theorem P0.imp (p : P0 C h₀ F φ s hh X s') (h : ∀ φ' h1, Step F φ s.heap φ' h1 → Rel C h₀ φ' hh h1 → X φ' h1 → Y φ' h1) : P0 C h₀ F φ s hh Y s' := by
  (revert p; refine xe3 fun φ' h2 tk2 zq1 => ?_; revert zq1; refine ae2 fun zq2 zq3 => ?_; subst zq2; revert zq3; refine ae3 fun st2 R x => ?_)
  exact ⟨φ', h2, tk2, rfl, st2, R, h _ _ st2 R x⟩
end

section
variable {prog : Program} {w : World} {A : Around} {E : Value → Shared → Prop} {s : Shared} {C : Addr} {h₀ : Heap} {F φ : List Addr} {h h' : H} {X : List Addr → Heap → Prop}

theorem P0_bind {α β : Type} {M : Model} {m : Sem α} {k : α → Sem β} {Z : α → List Addr → Heap → Prop} {Q : β → Shared → Prop}
    (hm : wpAny M A m (fun a s' => P0 C h₀ F φ s h' (Z a) s') E s)
    (hk : ∀ a φ1 h1 tk, Step F φ s.heap φ1 h1 → Rel C h₀ φ1 h' h1 → Z a φ1 h1 → wpAny M A (k a) Q E { s with heap := h1, toks := tk }) : wpAny M A (m >>= k) Q E s :=
  wpAny_bind (wpAny_mono hm (fun a s' p => by (revert p; refine xe3 fun φ' h1 tk zq1 => ?_; revert zq1; refine ae2 fun zq2 zq3 => ?_; subst zq2; revert zq3; refine ae3 fun st R x => ?_); exact hk a φ' h1 tk st R x) fun zz zz e => e)
theorem P0_then {α : Type} {M : Model} {m : Sem α} {Z : α → List Addr → Heap → Prop} {Q : α → Shared → Prop}
    (hm : wpAny M A m (fun a s' => P0 C h₀ F φ s h' (Z a) s') E s)
    (hk : ∀ a φ1 h1 tk, Step F φ s.heap φ1 h1 → Rel C h₀ φ1 h' h1 → Z a φ1 h1 → Q a { s with heap := h1, toks := tk }) : wpAny M A m Q E s :=
  wpAny_mono hm (fun a s' p => by (revert p; refine xe3 fun φ' h1 tk zq1 => ?_; revert zq1; refine ae2 fun zq2 zq3 => ?_; subst zq2; revert zq3; refine ae3 fun st R x => ?_); exact hk a φ' h1 tk st R x) fun zz zz e => e

/- nothing but a number of tokens has changed -/
theorem PV_same {v : V} {rv : Value} {tk : Nat} (R : Rel C h₀ φ h s.heap) (x : VR φ v rv) : PV C h₀ F φ s h v rv { s with toks := tk } := ⟨φ, s.heap, tk, rfl, Step.refl _ _ _, R, x⟩
theorem PV_here {v : V} {rv : Value} (R : Rel C h₀ φ h s.heap) (x : VR φ v rv) : PV C h₀ F φ s h v rv s := ⟨φ, s.heap, s.toks, rfl, Step.refl _ _ _, R, x⟩

/- a new told object is pushed -/
theorem PV_new {o : O} {ob : Obj} {tk : Nat} (z : h₀.objs.size ≤ s.heap.objs.size) (R : Rel C h₀ φ h s.heap) (hd : OD C (φ ++ [s.heap.objs.size]) o ob) :
    PV C h₀ F φ s (h ++ [o]) (.ref h.length) (.ref s.heap.objs.size) { s with heap := s.heap.push ob, toks := tk } :=
  ⟨φ ++ [s.heap.objs.size], _, tk, rfl, Step.alloc (fun zz zz e => Heap.get?_push_of_some _ e) (get_size _),
    (R.push ob).alloc (Heap.get?_push_size _ hd.notFreed) (fun q => Nat.lt_irrefl _ (R.lt q)) z hd,
    .ref _ _ (by rw [← R.len, List.getElem?_concat_length])⟩
end

theorem rd_some {a : Nat} {h h' : H} {o : O} (e : rd a h = some (o, h')) : h[a]? = some o ∧ h' = h := by
  unfold rd at e
  simp only [Option.map_eq_some_iff, Prod.mk.injEq] at e
  (revert e; refine xe1 fun o' zq1 => ?_; revert zq1; refine ae3 fun h1 zq2 zq3 => ?_; subst zq2; subst zq3)
  exact ⟨h1, rfl⟩
theorem wr_some {a : Nat} {o : O} {h h' : H} {u : Unit} (e : wr a o h = some (u, h')) : a < h.length ∧ h' = h.set a o := by
  unfold wr at e
  split at e
  · rename_i q; cases e; exact ⟨q, rfl⟩
  · cases e
theorem new_some {o : O} {h h' : H} {a : Nat} (e : new o h = some (a, h')) : a = h.length ∧ h' = h ++ [o] := by
  unfold new at e; cases e; exact ⟨rfl, rfl⟩
theorem bind_some {α β : Type} {m : M α} {f : α → M β} {h h' : H} {b : β} (e : (m >>= f) h = some (b, h')) : ∃ a h1, m h = some (a, h1) ∧ f a h1 = some (b, h') := by
  change (m h).bind (fun p => f p.1 p.2) = _ at e
  rw [Option.bind_eq_some_iff] at e
  (revert e; refine xe1 fun zq1 zq2 => ?_; rcases zq1 with ⟨a, h1⟩; revert zq2; refine ae2 fun e1 e2 => ?_)
  exact ⟨a, h1, e1, e2⟩
theorem rd_bind {β : Type} {a : Nat} {f : O → M β} {h h' : H} {b : β} (e : (rd a >>= f) h = some (b, h')) : ∃ o, h[a]? = some o ∧ f o h = some (b, h') := by
  (refine xe2 (fun o h1 zq1 => ?_) (bind_some e); revert zq1; refine ae2 fun e1 e2 => ?_)
  (refine ae2 (fun q q' => ?_) (rd_some e1))
  subst q'
  exact ⟨o, q, e2⟩
theorem wr_bind {β : Type} {a : Nat} {o : O} {f : Unit → M β} {h h' : H} {b : β} (e : (wr a o >>= f) h = some (b, h')) : a < h.length ∧ f () (h.set a o) = some (b, h') := by
  obtain ⟨⟨⟩, h1, e1, e2⟩ := bind_some e
  (refine ae2 (fun q q' => ?_) (wr_some e1))
  subst q'
  exact ⟨q, e2⟩
theorem new_bind {β : Type} {o : O} {f : Nat → M β} {h h' : H} {b : β} (e : (new o >>= f) h = some (b, h')) : f h.length (h ++ [o]) = some (b, h') := by
  (refine xe2 (fun a h1 zq1 => ?_) (bind_some e); revert zq1; refine ae2 fun e1 e2 => ?_)
  (refine ae2 (fun q q' => ?_) (new_some e1))
  subst q q'
  exact e2
theorem pure_some {α : Type} {a b : α} {h h' : H} (e : (pure a : M α) h = some (b, h')) : b = a ∧ h' = h := by
  change some (a, h) = _ at e; cases e; exact ⟨rfl, rfl⟩
theorem fail_some {α : Type} {b : α} {h h' : H} (e : (fail : M α) h = some (b, h')) : False := by cases e
theorem ite_some {α : Type} {c : Prop} [Decidable c] {x : M α} {b : α} {h h' : H} (e : (if c then x else fail) h = some (b, h')) : c ∧ x h = some (b, h') := by
  by_cases q : c
  · rw [if_pos q] at e; exact ⟨q, e⟩
  · rw [if_neg q] at e; cases e

section
variable {prog : Program} {w : World} {A : Around} {E : Value → Shared → Prop} {s : Shared} {C : Addr} {h₀ : Heap} {F φ : List Addr} {h h' : H}

theorem Rel.listAt (R : Rel C h₀ φ h s.heap) {i : Nat} {a : Addr} {xs : List V} (e : h[i]? = some (.list xs)) (ha : φ[i]? = some a) :
    ∃ vs n, s.heap.get? a = some (seqObj "list" (List.toArray vs) n) ∧ VRs φ xs vs := by
  (refine xe1 (fun ob zq1 => ?_) (R.get e ha); revert zq1; refine ae2 fun h1 zq2 => ?_; revert zq2; refine xe2 fun vs n zq3 => ?_; revert zq3; refine ae2 fun zq4 h2 => ?_; subst zq4)
  exact ⟨vs, n, h1, h2⟩
theorem Rel.tupAt (R : Rel C h₀ φ h s.heap) {i : Nat} {a : Addr} {xs : List V} (e : h[i]? = some (.tuple xs)) (ha : φ[i]? = some a) :
    ∃ vs n, s.heap.get? a = some (seqObj "tuple" (List.toArray vs) n) ∧ VRs φ xs vs := by
  (refine xe1 (fun ob zq1 => ?_) (R.get e ha); revert zq1; refine ae2 fun h1 zq2 => ?_; revert zq2; refine xe2 fun vs n zq3 => ?_; revert zq3; refine ae2 fun zq4 h2 => ?_; subst zq4)
  exact ⟨vs, n, h1, h2⟩
theorem Rel.dictAt (R : Rel C h₀ φ h s.heap) {i : Nat} {a : Addr} {kvs : List (Int × V)} {ep : Nat} (e : h[i]? = some (.dict kvs ep)) (ha : φ[i]? = some a) :
    ∃ es, s.heap.get? a = some ⟨.type "dict", none, .dict (List.toArray es) ep, #[]⟩ ∧ DRs φ kvs es ∧ (kvs.map (·.1)).Nodup := by
  (refine xe1 (fun ob zq1 => ?_) (R.get e ha); revert zq1; refine ae2 fun h1 zq2 => ?_; revert zq2; refine xe1 fun es zq3 => ?_; revert zq3; refine ae2 fun zq4 zq5 => ?_; subst zq4; revert zq5; refine ae2 fun h2 h3 => ?_)
  exact ⟨es, h1, h2, h3⟩
theorem isList_of {a : Addr} {vs : List Value} {n : Nat} {hp : Heap} (e : hp.get? a = some (seqObj "list" (List.toArray vs) n)) : hp.IsList a (List.toArray vs) := ⟨_, e, rfl, n, rfl⟩

theorem intBits_big {a : Int} (h : a.natAbs < big) : Builtin.Int.intBits a ≤ 301 := by
  unfold Builtin.Int.intBits
  split
  · omega
  · rename_i hz
    have h1 : a.natAbs ≠ 0 := by intro q; apply hz; first | exact Int.natAbs_eq_zero.mp q | simpa using Int.natAbs_eq_zero.mp q
    have h2 := (Nat.log2_lt (n := a.natAbs) (k := 300) h1).mpr (by unfold big at h; exact h)
    omega

theorem noPylong {a b : Int} (_h1 : a.natAbs < big) (h2 : b.natAbs < big) : Builtin.divisionGoesByPylong a b = false := by
  have q : (if b == 0 then 0 else b.natAbs.log2 / 30 + 1) ≤ 300 := by
    split
    · omega
    · rename_i hz
      have h1 : b.natAbs ≠ 0 := by intro q; apply hz; simpa using q
      have h3 := (Nat.log2_lt (n := b.natAbs) (k := 300) h1).mpr (by unfold big at h2; exact h2)
      omega
  unfold Builtin.divisionGoesByPylong
  dsimp only
  rw [decide_eq_false (by omega)]
  rfl

theorem intop_ok {op : Operator} {i j : Int} {t1 t2 : Tok} {v : V} (R : Rel C h₀ φ h s.heap) (e : intOp op i j h = some (v, h')) :
    wpAny (model prog w) A (binaryOp op (.int i t1) (.int j t2)) (PV C h₀ F φ s h' v) E s := by
  have same : ∀ (k : Int) (t : Tok) (n : Nat), PV C h₀ F φ s h (.int k) (.int k t) { s with toks := n } := fun k t n => PV_same R (.int k t)
  cases op with
  | Add => (refine ae2 (fun zq1 zq2 => ?_) (pure_some e); subst zq1; subst zq2); exact PyProof.Rows.add_int (same _ _ _)
  | Sub => (refine ae2 (fun zq1 zq2 => ?_) (pure_some e); subst zq1; subst zq2); exact PyProof.Rows.sub_int (same _ _ _)
  | Mult =>
    (refine ae2 (fun q e => ?_) (ite_some e)); (refine ae2 (fun zq1 zq2 => ?_) (pure_some e); subst zq1; subst zq2)
    exact PyProof.Rows.mul_int (same _ _ _) (IntMulOk.of_bits (Nat.le_trans (intBits_big q.1) (by decide)) (Nat.le_trans (intBits_big q.2) (by decide)))
  | FloorDiv =>
    (refine ae2 (fun q e => ?_) (ite_some e)); (refine ae2 (fun zq1 zq2 => ?_) (pure_some e); subst zq1; subst zq2)
    exact PyProof.Rows.floordiv_int q.1 (same _ _ _) (.inl (noPylong q.2.1 q.2.2))
  | Mod =>
    (refine ae2 (fun q e => ?_) (ite_some e)); (refine ae2 (fun zq1 zq2 => ?_) (pure_some e); subst zq1; subst zq2)
    exact PyProof.Rows.mod_int q (same _ _ _)
  | Pow =>
    (refine ae2 (fun q e => ?_) (ite_some e)); (refine ae2 (fun zq1 zq2 => ?_) (pure_some e); subst zq1; subst zq2)
    exact PyProof.Rows.pow_int_small q.1 (by omega) (by omega) (same _ _ _)
  | _ => exact (fail_some (h := h) (h' := h') (b := v) e).elim
theorem addrefs_ok {i j : Nat} {v : V} {a b : Addr} (z : h₀.objs.size ≤ s.heap.objs.size) (R : Rel C h₀ φ h s.heap) (hi : φ[i]? = some a) (hj : φ[j]? = some b) (e : addRefs i j h = some (v, h')) :
    wpAny (model prog w) A (binaryOp .Add (.ref a) (.ref b)) (PV C h₀ F φ s h' v) E s := by
  unfold addRefs at e
  (refine xe1 (fun o1 zq1 => ?_) (rd_bind e); revert zq1; refine ae2 fun q1 e1 => ?_)
  (refine xe1 (fun o2 zq1 => ?_) (rd_bind e1); revert zq1; refine ae2 fun q2 e2 => ?_)
  clear e e1
  split at e2
  · (refine ae2 (fun q3 e3 => ?_) (ite_some e2))
    have e4 := new_bind e3
    clear e2 e3
    (refine ae2 (fun zq1 zq2 => ?_) (pure_some e4); subst zq1; subst zq2)
    (refine xe2 (fun vs n zq1 => ?_) (R.listAt q1 hi); revert zq1; refine ae2 fun g1 r1 => ?_)
    (refine xe2 (fun us m zq1 => ?_) (R.listAt q2 hj); revert zq1; refine ae2 fun g2 r2 => ?_)
    have hl : vs.length + us.length ≤ lim := by rw [← r1.length, ← r2.length]; exact q3
    refine P.add_list (n := n) (n2 := m) g1 g2 ?_ (by rw [List.size_toArray, List.size_toArray]; exact Nat.le_trans hl (by decide))
    have := (r1.append r2).mono (List.prefix_append φ [s.heap.objs.size])
    exact PV_new (ob := seqObj "list" (List.toArray vs ++ List.toArray us) 0) (o := .list _) (tk := s.toks) z R ⟨vs ++ us, 0, by simp [seqObj], this⟩
  · exact (fail_some e2).elim
theorem binop_ok {op : Operator} {a b v : V} {ra rb : Value} (z : h₀.objs.size ≤ s.heap.objs.size) (R : Rel C h₀ φ h s.heap) (ha : VR φ a ra) (hb : VR φ b rb) (e : binA op a b h = some (v, h')) :
    wpAny (model prog w) A (binaryOp op ra rb) (PV C h₀ F φ s h' v) E s := by
  cases ha with
  | int i t1 =>
    cases hb with
    | int j t2 => exact intop_ok R e
    | _ => exact nomatch e
  | ref i a hi =>
    cases hb with
    | ref j b hj =>
      cases op with
      | Add => exact addrefs_ok z R hi hj e
      | _ => exact nomatch e
    | _ => exact nomatch e
  | _ => exact nomatch e

theorem augop_ok {op : Operator} {a b v : V} {ra rb : Value} (R : Rel C h₀ φ h s.heap) (ha : VR φ a ra) (hb : VR φ b rb) (e : augA op a b h = some (v, h')) :
    wpAny (model prog w) A (inplaceOp op ra rb) (PV C h₀ F φ s h' v) E s := by
  unfold augA at e
  split at e
  · cases ha; cases hb; (refine ae2 (fun zq1 zq2 => ?_) (pure_some e); subst zq1; subst zq2); exact PyProof.Rows.iadd_int (PV_same R (.int _ _))
  · cases ha; cases hb; (refine ae2 (fun zq1 zq2 => ?_) (pure_some e); subst zq1; subst zq2); exact PyProof.Rows.isub_int (PV_same R (.int _ _))
  · cases e

theorem neg_ok {a v : V} {ra : Value} (R : Rel C h₀ φ h s.heap) (ha : VR φ a ra) (e : negA a h = some (v, h')) : wpAny (model prog w) A (unaryOp .USub ra) (PV C h₀ F φ s h' v) E s := by
  unfold negA at e
  split at e
  · cases ha; (refine ae2 (fun zq1 zq2 => ?_) (pure_some e); subst zq1; subst zq2); exact PyProof.Rows.neg_int (PV_same R (.int _ _))
  · cases e
end
end

section
open PySem PySem.W PyProof.Rows PySem.SeqAt

section
variable {prog : Program} {w : World} {A : Around} {E : Value → Shared → Prop} {s : Shared} {C : Addr} {h₀ : Heap} {F φ : List Addr} {h h' : H}

theorem DRs.mapOf {a : Addr} {es : List DictEntry} {ep : Nat} {kvs : List (Int × V)} (D : DRs φ kvs es) {hp : Heap} (e : hp.get? a = some ⟨.type "dict", none, .dict (List.toArray es) ep, #[]⟩) :
    ∃ f, hp.MapOf (intKind prog w) a f ∧ ∀ k, f k = findBy Value.isInt (List.toArray es) k :=
  ⟨fun k => findBy Value.isInt (List.toArray es) k, ⟨_, List.toArray es, ep, e, ⟨rfl, rfl, rfl⟩, rfl, fun en he => by (refine xe2 (fun k t zq1 => ?_) (D.keys en he); revert zq1; refine ae2 fun h1 h2 => ?_); exact ⟨k, by rw [h1]; exact beq_self_eq_true k, h2⟩, fun zz => rfl⟩, fun zz => rfl⟩
theorem DRs.findBy {es : List DictEntry} {kvs : List (Int × V)} (D : DRs φ kvs es) (k : Int) :
    match findBy Value.isInt (List.toArray es) k, lookD kvs k with
    | some r, some v => k ∈ kvs.map (·.1) ∧ VR φ v r
    | none, none => k ∉ kvs.map (·.1)
    | _, _ => False := by
  rw [findBy_of_findIdx?, List.findIdx?_toArray]
  cases D.find k with
  | no h1 h2 h3 => rw [h1, h3]; exact h2
  | yes i e v h1 h2 h3 h4 h5 => rw [h1, h3]; simp only [List.getElem?_toArray, h4, Option.map_some]; exact ⟨h2, h5⟩

theorem DRs.isSome {es : List DictEntry} {kvs : List (Int × V)} (D : DRs φ kvs es) (k : Int) : (PySem.findBy Value.isInt (List.toArray es) k).isSome = decide (k ∈ kvs.map (·.1)) := by
  have := D.findBy k
  split at this
  · rename_i e1 e2; rw [e1]; exact (decide_eq_true this.1).symm
  · rename_i e1 e2; rw [e1]; exact (decide_eq_false this).symm
  · exact this.elim

theorem ge_ne {d : Addr} (z : h₀.objs.size ≤ d) (h2 : 1 < h₀.objs.size) : (d == sysModules) = false := by
  refine beq_eq_false_iff_ne.mpr fun e => ?_
  rw [e] at z
  exact absurd (Nat.lt_of_lt_of_le h2 z) (Nat.lt_irrefl 1)

noncomputable abbrev lld (ls : List (List Int)) : List PyData := ls.map fun l => PyData.list (l.map .int)

theorem listAt_some {v : V} {is : List Int} (e : Mine.listAt h v = some is) : ∃ i xs, v = .ref i ∧ h[i]? = some (.list xs) ∧ xs = is.map .int := by
  unfold Mine.listAt at e
  split at e
  · split at e
    · rename_i q; exact ⟨_, _, rfl, q, intsOf_map e⟩
    · cases e
  · cases e

theorem reads_list (R : Rel C h₀ φ h s.heap) {v : V} {rv : Value} {is : List Int} (e : Mine.listAt h v = some is) (hv : VR φ v rv) : ∃ a, Reads s.heap rv (.list (is.map .int)) [a] := by
  (refine xe2 (fun i xs zq1 => ?_) (listAt_some e); revert zq1; refine ae2 fun zq2 zq3 => ?_; subst zq2; revert zq3; refine ae2 fun q zq4 => ?_; subst zq4)
  replace hv := VR.r hv
  (revert hv; refine xe1 fun a zq1 => ?_; revert zq1; refine ae2 fun zq2 ha => ?_; subst zq2)
  (refine xe2 (fun vs n zq1 => ?_) (R.listAt q ha); revert zq1; refine ae2 fun g r => ?_)
  exact ⟨a, reads_of_ints (isList_of g) r.ints⟩
theorem reads_lists (R : Rel C h₀ φ h s.heap) : ∀ {xs : List V} {vs : List Value} {ls : List (List Int)}, listsOf h xs = some ls → VRs φ xs vs → ∃ as, ReadsAll s.heap vs (lld ls) as
  | [], _, ls, e, r => by
    simp only [listsOf, Option.some.injEq] at e
    subst e; cases r; exact ⟨[], .nil⟩
  | x :: xs, _, ls, e, r => by
    simp only [listsOf, Option.bind_eq_some_iff, Option.map_eq_some_iff] at e
    (revert e; refine xe1 fun i zq1 => ?_; revert zq1; refine ae2 fun hi zq2 => ?_; revert zq2; refine xe1 fun js zq3 => ?_; revert zq3; refine ae2 fun hj zq4 => ?_; subst zq4)
    cases r with
    | cons h1 t =>
      (refine xe1 (fun a ra => ?_) (reads_list R hi h1))
      (refine xe1 (fun as rs => ?_) (reads_lists R hj t))
      exact ⟨[a] ++ as, .cons ra rs⟩

theorem canLay_lld : ∀ ls : List (List Int), PyData.canLayAll0 (lld ls) = true
  | [] => by simp [PyData.canLayAll0]
  | l :: r => by simp [PyData.canLayAll0, PyData.canLay0, canLayAll0_ints, canLay_lld r]
theorem depth_lld : ∀ ls : List (List Int), PyData.depthAll (lld ls) ≤ 3
  | [] => by simp [PyData.depthAll]
  | l :: r => by
    have h1 := depth_lld r
    have h2 := PyProof.Rows.depthAll_ints l
    simp only [lld, List.map_cons, PyData.depthAll, PyData.depth] at h1 ⊢
    omega
theorem noMix_lld : ∀ a b : List (List Int), noMixAll (lld a) (lld b) = true
  | [], [] => by simp [noMixAll]
  | [], _ :: _ => by simp [noMixAll]
  | _ :: _, [] => by simp [noMixAll]
  | x :: r, y :: q => by
    have := noMix_lld r q
    simp only [lld, List.map_cons, noMixAll, noMix, noMix_ints, Bool.true_and] at this ⊢
    exact this
theorem same_lld : ∀ a b : List (List Int), PySem.Spec.sameAll (lld a) (lld b) = decide (a = b)
  | [], [] => by simp [PySem.Spec.sameAll]
  | [], _ :: _ => by simp [PySem.Spec.sameAll]
  | _ :: _, [] => by simp [PySem.Spec.sameAll]
  | x :: r, y :: q => by
    have := same_lld r q
    simp only [lld, List.map_cons, PySem.Spec.sameAll, PySem.Spec.same, same_ints] at this ⊢
    rw [this]
    by_cases e : x = y <;> simp [e]

theorem asL_some {o : Option O} {xs : List V} (h : asL o = some xs) : o = some (.list xs) := by
  cases o with
  | none => exact nomatch h
  | some o => cases o with
    | list ys => exact congrArg (fun x => some (O.list x)) (Option.some.inj h)
    | _ => exact nomatch h
theorem asT_some {o : Option O} {xs : List V} (h : asT o = some xs) : o = some (.tuple xs) := by
  cases o with
  | none => exact nomatch h
  | some o => cases o with
    | tuple ys => exact congrArg (fun x => some (O.tuple x)) (Option.some.inj h)
    | _ => exact nomatch h
theorem asP_some {l : List V} {p : Nat × Int} (h : asP l = some p) : l = [.ref p.1, .int p.2] := by
  cases l with
  | nil => exact nomatch h
  | cons x l => cases x with
    | ref a => cases l with
      | nil => exact nomatch h
      | cons y l => cases y with
        | int i => cases l with
          | nil => exact congrArg (fun p : Nat × Int => [V.ref p.1, .int p.2]) (Option.some.inj h)
          | cons _ _ => exact nomatch h
        | _ => exact nomatch h
    | _ => exact nomatch h
theorem shl (ls : List (List Int)) : SeqAt.shaped (.list (lld ls)) = true := by
  have h1 := depth_lld ls
  have h2 : PyData.depth (.list (lld ls)) ≤ 64 := by simp only [PyData.depth]; omega
  show (PyData.canLay0 (.list (lld ls)) && decide (PyData.depth (.list (lld ls)) ≤ 64)) = true
  rw [Bool.and_eq_true]
  exact ⟨by simp only [PyData.canLay0]; exact canLay_lld ls, decide_eq_true h2⟩
theorem sht (ls : List (List Int)) (n : Int) : SeqAt.shaped (.tuple [.list (lld ls), .int n]) = true := by
  have h1 := depth_lld ls
  have h2 : PyData.depth (.tuple [.list (lld ls), .int n]) ≤ 64 := by simp only [PyData.depth, PyData.depthAll]; omega
  show (PyData.canLay0 (.tuple [.list (lld ls), .int n]) && decide (PyData.depth (.tuple [.list (lld ls), .int n]) ≤ 64)) = true
  rw [Bool.and_eq_true]
  exact ⟨by simp only [PyData.canLay0, PyData.canLayAll0, canLay_lld ls, Bool.and_true], decide_eq_true h2⟩

/- two values that are read, and what == says of them -/
noncomputable def EqD (g : Heap) (a b : Value) (r : Bool) : Prop :=
  ∃ d1 d2 as bs, Reads g a d1 as ∧ Reads g b d2 bs ∧ SeqAt.shaped d1 = true ∧ SeqAt.shaped d2 = true ∧ noMix d1 d2 = true ∧ PySem.Spec.same d1 d2 = r
theorem EqD.mk {g : Heap} {a b : Value} {r : Bool} {d1 d2 : PyData} {as bs : List Addr} (R1 : Reads g a d1 as) (R2 : Reads g b d2 bs) (s1 : SeqAt.shaped d1 = true) (s2 : SeqAt.shaped d2 = true) (m : noMix d1 d2 = true) (q : PySem.Spec.same d1 d2 = r) : EqD g a b r :=
  ⟨d1, d2, as, bs, R1, R2, s1, s2, m, q⟩
theorem same_ll (u v : List (List Int)) : PySem.Spec.same (.list (lld u)) (.list (lld v)) = decide (u = v) := by simp only [PySem.Spec.same]; exact same_lld _ _
theorem noMix_ll (u v : List (List Int)) : noMix (.list (lld u)) (.list (lld v)) = true := by simp only [noMix]; exact noMix_lld _ _

theorem reads_L (R : Rel C h₀ φ h s.heap) {i : Nat} {a : Addr} {xs : List V} {l : List (List Int)} (q : h[i]? = some (.list xs)) (ha : φ[i]? = some a) (e : listsOf h xs = some l) : ∃ as, Reads s.heap (.ref a) (.list (lld l)) as := by
  (refine xe2 (fun vs n zq1 => ?_) (R.listAt q ha); revert zq1; refine ae2 fun g r => ?_)
  (refine xe1 (fun as ra => ?_) (reads_lists R e r))
  exact ⟨_, Reads.list g rfl rfl (by simpa [seqObj] using ra)⟩
theorem reads_I (R : Rel C h₀ φ h s.heap) {i : Nat} {a : Addr} {xs : List V} {l : List Int} (q : h[i]? = some (.list xs)) (ha : φ[i]? = some a) (e : intsOf xs = some l) : ∃ as, Reads s.heap (.ref a) (.list (l.map .int)) as := by
  (refine xe2 (fun vs n zq1 => ?_) (R.listAt q ha); revert zq1; refine ae2 fun g r => ?_)
  rw [intsOf_map e] at r
  exact ⟨_, reads_of_ints (isList_of g) r.ints⟩
theorem reads_P (R : Rel C h₀ φ h s.heap) {i : Nat} {a : Addr} {p : Nat} {n : Int} {xs : List V} {l : List (List Int)} (q : h[i]? = some (.tuple [.ref p, .int n])) (ha : φ[i]? = some a) (q2 : h[p]? = some (.list xs)) (e : listsOf h xs = some l) :
    ∃ as, Reads s.heap (.ref a) (.tuple [.list (lld l), .int n]) as := by
  (refine xe2 (fun vs m zq1 => ?_) (R.tupAt q ha); revert zq1; refine ae2 fun g r => ?_)
  cases r with
  | cons a1 t1 =>
  cases t1 with
  | cons a2 t2 =>
  cases t2
  (refine xe1 (fun x zq1 => ?_) (VR.r a1); revert zq1; refine ae2 fun zq2 hx => ?_; subst zq2)
  (refine xe1 (fun t zq1 => ?_) (VR.i a2); subst zq1)
  (refine xe1 (fun as r1 => ?_) (reads_L R q2 hx e))
  exact ⟨_, Reads.tuple g rfl rfl (.cons r1 (.cons (.int _ _) .nil))⟩

theorem eq_lists (R : Rel C h₀ φ h s.heap) {i j : Nat} {a b : Addr} {r : Bool} {xs ys : List V} (q1 : h[i]? = some (.list xs)) (q2 : h[j]? = some (.list ys)) (ha : φ[i]? = some a) (hb : φ[j]? = some b) (e : eqLs h xs ys = some r) :
    EqD s.heap (.ref a) (.ref b) r := by
  have ll : eqLL h xs ys = some r → EqD s.heap (.ref a) (.ref b) r := fun e => by
    (refine xe1 (fun u zq1 => ?_) (Option.bind_eq_some_iff.mp e); revert zq1; refine ae2 fun e1 e => ?_)
    (refine xe1 (fun v zq1 => ?_) (Option.map_eq_some_iff.mp e); revert zq1; refine ae2 fun e2 e => ?_)
    (refine xe1 (fun as R1 => ?_) (reads_L R q1 ha e1))
    (refine xe1 (fun bs R2 => ?_) (reads_L R q2 hb e2))
    exact .mk R1 R2 (shl _) (shl _) (noMix_ll _ _) ((same_ll u v).trans e)
  unfold eqLs at e
  cases hi : intsOf xs with
  | none => rw [hi] at e; exact ll e
  | some u =>
    rw [hi] at e
    cases hj : intsOf ys with
    | none => rw [hj] at e; exact ll e
    | some v =>
      rw [hj] at e
      (refine xe1 (fun as R1 => ?_) (reads_I R q1 ha hi))
      (refine xe1 (fun bs R2 => ?_) (reads_I R q2 hb hj))
      exact .mk R1 R2 (shaped_ints _) (shaped_ints _) (by simp only [noMix]; exact noMix_ints _ _) ((show _ = decide (u = v) by simp only [PySem.Spec.same]; exact same_ints _ _).trans (Option.some.inj e))
theorem eq_pairs (R : Rel C h₀ φ h s.heap) {i j : Nat} {a b : Addr} {r : Bool} {p q : Nat × Int} (q1 : h[i]? = some (.tuple [.ref p.1, .int p.2])) (q2 : h[j]? = some (.tuple [.ref q.1, .int q.2])) (ha : φ[i]? = some a) (hb : φ[j]? = some b) (e : eqTs h p q = some r) :
    EqD s.heap (.ref a) (.ref b) r := by
  (refine xe1 (fun xs zq1 => ?_) (Option.bind_eq_some_iff.mp e); revert zq1; refine ae2 fun e1 e => ?_)
  (refine xe1 (fun ys zq1 => ?_) (Option.bind_eq_some_iff.mp e); revert zq1; refine ae2 fun e2 e => ?_)
  (refine xe1 (fun u zq1 => ?_) (Option.bind_eq_some_iff.mp e); revert zq1; refine ae2 fun e3 e => ?_)
  (refine xe1 (fun v zq1 => ?_) (Option.map_eq_some_iff.mp e); revert zq1; refine ae2 fun e4 e => ?_)
  (refine xe1 (fun as R1 => ?_) (reads_P R q1 ha (asL_some e1) e3))
  (refine xe1 (fun bs R2 => ?_) (reads_P R q2 hb (asL_some e2) e4))
  refine .mk R1 R2 (sht _ _) (sht _ _) (by simp [noMix, noMixAll, noMix_lld]) (Eq.trans ?_ e)
  simp only [PySem.Spec.same, PySem.Spec.sameAll, same_lld, Bool.and_true]
  congr 1
set_option tactic.hygienic true in
theorem reads_eq (R : Rel C h₀ φ h s.heap) {i j : Nat} {a b : Addr} {r : Bool} (e : eqRefs h i j = some r) (ha : φ[i]? = some a) (hb : φ[j]? = some b) : EqD s.heap (.ref a) (.ref b) r := by
  unfold eqRefs at e
  cases hx : asL h[i]? with
  | some xs =>
    rw [hx] at e
    (refine xe1 (fun ys zq1 => ?_) (Option.bind_eq_some_iff.mp e); revert zq1; refine ae2 fun e2 e => ?_)
    exact eq_lists R (asL_some hx) (asL_some e2) ha hb e
  | none =>
    rw [hx] at e
    (refine xe1 (fun xs zq1 => ?_) (Option.bind_eq_some_iff.mp e); revert zq1; refine ae2 fun e1 e => ?_)
    (refine xe1 (fun ys zq1 => ?_) (Option.bind_eq_some_iff.mp e); revert zq1; refine ae2 fun e2 e => ?_)
    (refine xe1 (fun p zq1 => ?_) (Option.bind_eq_some_iff.mp e); revert zq1; refine ae2 fun e3 e => ?_)
    (refine xe1 (fun q zq1 => ?_) (Option.bind_eq_some_iff.mp e); revert zq1; refine ae2 fun e4 e => ?_)
    exact eq_pairs R ((asT_some e1).trans (congrArg (fun x => some (O.tuple x)) (asP_some e3))) ((asT_some e2).trans (congrArg (fun x => some (O.tuple x)) (asP_some e4))) ha hb e

theorem strs_of : ∀ {is : List Str} {vs : List Value}, VRs φ (is.map .str) vs → StrsAre vs is
  | [], _, h => by cases h; exact .nil
  | i :: is, _, h => by
    cases h with
    | cons h t => cases h; exact .cons _ _ (strs_of t)

theorem beqd {α : Type} [DecidableEq α] (a b : α) : (a == b) = decide (a = b) := by
  by_cases q : a = b <;> simp [q]
theorem any_mem_int (is : List Int) (i : Int) : is.any (· == i) = decide (i ∈ is) := by
  rw [List.any_beq']
  exact List.elem_eq_mem i is
theorem any_mem_str (is : List Str) (i : Str) : is.any (· == i) = decide (i ∈ is) := by
  rw [List.any_beq']
  exact List.elem_eq_mem i is

theorem cmpI_ok {f : Int → Int → Bool} {a b v : V} {ra rb : Value} {P : Value → Value → V → H → Prop} (ha : VR φ a ra) (hb : VR φ b rb) (e : cmpI f a b h = some (v, h'))
    (k : ∀ i j t u, P (.int i t) (.int j u) (.bool (f i j)) h) : P ra rb v h' := by
  cases ha with
  | int i t =>
    cases hb with
    | int j u => have e := Option.some.inj e; cases e; exact k _ _ _ _
    | _ => exact nomatch e
  | _ => exact nomatch e
theorem eqA_ok {a b : V} {r : Bool} {ra rb : Value} {P : Value → Value → Bool → Prop} (R : Rel C h₀ φ h s.heap) (ha : VR φ a ra) (hb : VR φ b rb) (e : eqA h a b = some r)
    (ki : ∀ i j t u, P (.int i t) (.int j u) (decide (i = j))) (ks : ∀ i j t u, P (.str i t) (.str j u) (decide (i = j))) (kb : ∀ i j, P (.bool i) (.bool j) (i == j)) (kr : ∀ x y, EqD s.heap (.ref x) (.ref y) r → P (.ref x) (.ref y) r) : P ra rb r := by
  cases ha with
  | int i t =>
    cases hb with
    | int j u => exact Option.some.inj e ▸ ki i j t u
    | _ => exact nomatch e
  | str i t =>
    cases hb with
    | str j u => exact Option.some.inj e ▸ ks i j t u
    | _ => exact nomatch e
  | bool i =>
    cases hb with
    | bool j => exact Option.some.inj e ▸ kb i j
    | _ => exact nomatch e
  | ref i a hi =>
    cases hb with
    | ref j b hj => exact kr a b (reads_eq R e hi hj)
    | _ => exact nomatch e
  | none => exact nomatch e
theorem inI_ok {i : Int} {o : Option O} {r : Bool} (e : inI i o = some r) : (∃ xs is, o = some (.list xs) ∧ intsOf xs = some is ∧ decide (i ∈ is) = r) ∨ ∃ kvs ep, o = some (.dict kvs ep) ∧ decide (i ∈ kvs.map (·.1)) = r := by
  cases o with
  | none => exact nomatch e
  | some o => cases o with
    | list xs =>
      (refine xe1 (fun is zq1 => ?_) (Option.map_eq_some_iff.mp e); revert zq1; refine ae2 fun e1 e2 => ?_)
      exact .inl ⟨xs, is, rfl, e1, e2⟩
    | dict kvs ep => exact .inr ⟨kvs, ep, rfl, Option.some.inj e⟩
    | _ => exact nomatch e
theorem inS_ok {i : Str} {o : Option O} {r : Bool} (e : inS i o = some r) : (∃ xs is, o = some (.list xs) ∧ strsOf xs = some is ∧ decide (i ∈ is) = r) ∨ ∃ xs is, o = some (.tuple xs) ∧ strsOf xs = some is ∧ decide (i ∈ is) = r := by
  cases o with
  | none => exact nomatch e
  | some o => cases o with
    | list xs =>
      (refine xe1 (fun is zq1 => ?_) (Option.map_eq_some_iff.mp e); revert zq1; refine ae2 fun e1 e2 => ?_)
      exact .inl ⟨xs, is, rfl, e1, e2⟩
    | tuple xs =>
      (refine xe1 (fun is zq1 => ?_) (Option.map_eq_some_iff.mp e); revert zq1; refine ae2 fun e1 e2 => ?_)
      exact .inr ⟨xs, is, rfl, e1, e2⟩
    | _ => exact nomatch e
theorem inA_ok {a b : V} {r : Bool} {ra rb : Value} {P : Value → Value → Prop} (R : Rel C h₀ φ h s.heap) (ha : VR φ a ra) (hb : VR φ b rb) (e : inA h a b = some r)
    (k1 : ∀ i t x vs is, s.heap.IsList x (List.toArray vs) → IntsAre vs is → is.any (· == i) = r → P (.int i t) (.ref x))
    (k2 : ∀ i t x f, s.heap.MapOf (intKind prog w) x f → h₀.objs.size ≤ x → (f i).isSome = r → P (.int i t) (.ref x))
    (k3 : ∀ i t x vs is, s.heap.IsList x (List.toArray vs) → StrsAre vs is → is.any (· == i) = r → P (.str i t) (.ref x))
    (k4 : ∀ i t x vs is, s.heap.IsTuple x (List.toArray vs) → StrsAre vs is → is.any (· == i) = r → P (.str i t) (.ref x)) : P ra rb := by
  cases hb with
  | ref j b hj =>
    cases ha with
    | int i t =>
      rcases inI_ok e with q | q
      · (revert q; refine xe2 fun xs is zq1 => ?_; revert zq1; refine ae3 fun q1 q2 q3 => ?_)
        (refine xe2 (fun vs n zq1 => ?_) (R.listAt q1 hj); revert zq1; refine ae2 fun g rr => ?_)
        rw [intsOf_map q2] at rr
        exact k1 i t b vs is (isList_of g) rr.ints ((any_mem_int _ _).trans q3)
      · (revert q; refine xe2 fun kvs ep zq1 => ?_; revert zq1; refine ae2 fun q1 q3 => ?_)
        (refine xe1 (fun es zq1 => ?_) (R.dictAt q1 hj); revert zq1; refine ae3 fun g D nd => ?_)
        (refine xe1 (fun f zq1 => ?_) (D.mapOf (prog := prog) (w := w) g); revert zq1; refine ae2 fun hm hf => ?_)
        exact k2 i t b f hm ((R.new _ _ hj).resolve_left fun q => by (revert q; refine xe1 fun xs q' => ?_); rw [q1] at q'; cases q') ((congrArg Option.isSome (hf i)).trans ((D.isSome _).trans q3))
    | str i t =>
      rcases inS_ok e with q | q
      · (revert q; refine xe2 fun xs is zq1 => ?_; revert zq1; refine ae3 fun q1 q2 q3 => ?_)
        (refine xe2 (fun vs n zq1 => ?_) (R.listAt q1 hj); revert zq1; refine ae2 fun g rr => ?_)
        rw [strsOf_map q2] at rr
        exact k3 i t b vs is (isList_of g) (strs_of rr) ((any_mem_str _ _).trans q3)
      · (revert q; refine xe2 fun xs is zq1 => ?_; revert zq1; refine ae3 fun q1 q2 q3 => ?_)
        (refine xe2 (fun vs n zq1 => ?_) (R.tupAt q1 hj); revert zq1; refine ae2 fun g rr => ?_)
        rw [strsOf_map q2] at rr
        exact k4 i t b vs is ⟨_, g, rfl, n, rfl⟩ (strs_of rr) ((any_mem_str _ _).trans q3)
    | _ => exact nomatch e
  | _ => exact nomatch e

set_option tactic.hygienic true in
theorem cmp_ok {op : CmpOp} {a b v : V} {ra rb : Value} (hs : 1 < h₀.objs.size) (hu : A.units + 64 < cLine) (R : Rel C h₀ φ h s.heap) (ha : VR φ a ra) (hb : VR φ b rb) (e : cmpA op a b h = some (v, h')) :
    wpAny (model prog w) A (compareOp op ra rb) (PV C h₀ F φ s h' v) E s := by
  have bb : ∀ c : Bool, PV C h₀ F φ s h (.bool c) (.bool c) s := fun c => PV_here R (.bool c)
  have be : ∀ (c d : Bool), c = d → PV C h₀ F φ s h (.bool d) (.bool c) s := fun c d q => q ▸ bb c
  have bn : ∀ (r c : Bool) (n : Nat), c = r → PV C h₀ F φ s h (.bool r) (.bool c) { s with toks := s.toks + n } := fun r c n q => q ▸ PV_same R (.bool c)
  cases op with
  | Lt => exact cmpI_ok (P := fun ra rb v h' => wpAny (model prog w) A (compareOp .Lt ra rb) (PV C h₀ F φ s h' v) E s) ha hb e fun zz zz zz zz => PyProof.Rows.lt_int (bb _)
  | LtE => exact cmpI_ok (P := fun ra rb v h' => wpAny (model prog w) A (compareOp .LtE ra rb) (PV C h₀ F φ s h' v) E s) ha hb e fun zz zz zz zz => PyProof.Rows.le_int (bb _)
  | Gt => exact cmpI_ok (P := fun ra rb v h' => wpAny (model prog w) A (compareOp .Gt ra rb) (PV C h₀ F φ s h' v) E s) ha hb e fun zz zz zz zz => PyProof.Rows.gt_int (bb _)
  | GtE => exact cmpI_ok (P := fun ra rb v h' => wpAny (model prog w) A (compareOp .GtE ra rb) (PV C h₀ F φ s h' v) E s) ha hb e fun zz zz zz zz => PyProof.Rows.ge_int (bb _)
  | Eq =>
    (refine xe1 (fun r zq1 => ?_) (Option.map_eq_some_iff.mp e); revert zq1; refine ae2 fun e1 q => ?_)
    clear e
    cases q
    refine eqA_ok (P := fun ra rb r => wpAny (model prog w) A (compareOp .Eq ra rb) (PV C h₀ F φ s h (.bool r)) E s) R ha hb e1 (fun zz zz zz zz => PyProof.Rows.eq_int (be _ _ (beqd _ _))) (fun zz zz zz zz => PyProof.Rows.eq_str (be _ _ (beqd _ _))) (fun zz zz => PyProof.Rows.eq_bool (bb _)) fun x y q => ?_
    (revert q; refine xe4 fun d1 d2 as bs zq1 => ?_; revert zq1; refine ae6 fun R1 R2 s1 s2 mx q => ?_)
    exact eq_dataH_same R1 R2 s1 s2 hu mx (be _ _ q)
  | NotEq =>
    (refine xe1 (fun r zq1 => ?_) (Option.map_eq_some_iff.mp e); revert zq1; refine ae2 fun e1 q => ?_)
    clear e
    cases q
    refine eqA_ok (P := fun ra rb r => wpAny (model prog w) A (compareOp .NotEq ra rb) (PV C h₀ F φ s h (.bool (!r))) E s) R ha hb e1 (fun zz zz zz zz => PyProof.Rows.ne_int (be _ _ (congrArg not (beqd _ _)))) (fun zz zz zz zz => PyProof.Rows.ne_str (be _ _ (congrArg not (beqd _ _)))) (fun zz zz => PyProof.Rows.ne_bool (bb _)) fun x y q => ?_
    (revert q; refine xe4 fun d1 d2 as bs zq1 => ?_; revert zq1; refine ae6 fun R1 R2 s1 s2 mx q => ?_)
    exact ne_dataH_same R1 R2 s1 s2 hu mx (be _ _ (congrArg not q))
  | In =>
    (refine xe1 (fun r zq1 => ?_) (Option.map_eq_some_iff.mp e); revert zq1; refine ae2 fun e1 q => ?_)
    clear e
    cases q
    exact inA_ok (prog := prog) (w := w) (P := fun ra rb => wpAny (model prog w) A (compareOp .In ra rb) (PV C h₀ F φ s h (.bool r)) E s) R ha hb e1 (fun zz zz zz zz zz g rr q => PyProof.Rows.in_list_ints g rr (bn _ _ 0 q))
      (fun zz zz zz zz hm z q => wpAny_in_of (knd := intKind prog w) (beq_self_eq_true _) (ge_ne z hs) hm (bn _ _ 1 q))
      (fun zz zz zz zz zz g rr q => PyProof.Rows.in_list_strs g rr (bn _ _ 0 q)) (fun zz zz zz zz zz g rr q => PyProof.Rows.in_tuple_strs g rr (bn _ _ 0 q))
  | NotIn =>
    (refine xe1 (fun r zq1 => ?_) (Option.map_eq_some_iff.mp e); revert zq1; refine ae2 fun e1 q => ?_)
    clear e
    cases q
    exact inA_ok (prog := prog) (w := w) (P := fun ra rb => wpAny (model prog w) A (compareOp .NotIn ra rb) (PV C h₀ F φ s h (.bool (!r))) E s) R ha hb e1 (fun zz zz zz zz zz g rr q => PyProof.Rows.notin_list_ints g rr (bn _ _ 0 (congrArg not q)))
      (fun zz zz zz zz hm z q => wpAny_notIn_of (knd := intKind prog w) (beq_self_eq_true _) (ge_ne z hs) hm (bn _ _ 1 (congrArg not q)))
      (fun zz zz zz zz zz g rr q => PyProof.Rows.notin_list_strs g rr (bn _ _ 0 (congrArg not q))) (fun zz zz zz zz zz g rr q => PyProof.Rows.notin_tuple_strs g rr (bn _ _ 0 (congrArg not q)))
  | Is =>
    cases hb with
    | none =>
      have e := Option.some.inj e
      cases e
      refine is_none_gen ?_
      exact be _ _ (by cases ha <;> rfl)
    | _ => exact nomatch e
  | IsNot => exact nomatch e
end
end

section
open PySem PySem.W PyProof.Rows PySem.SeqAt

section
variable {prog : Program} {w : World} {A : Around} {E : Value → Shared → Prop} {s : Shared} {C : Addr} {h₀ : Heap} {F φ : List Addr} {h h' : H}

theorem at_some {α : Type} {xs : List α} {i : Int} {v : α} (e : at? xs i = some v) : 0 ≤ i ∧ xs[i.toNat]? = some v := by
  unfold at? at e
  split at e
  · rename_i q; exact ⟨q, e⟩
  · cases e
theorem lim_small : lim = 1000 := rfl

/- reading an item, behind the evaluation of the two -/
set_option tactic.hygienic true in
theorem getItem_ok {value slice : Expr} {a b v : V} {ra rb : Value} (R : Rel C h₀ φ h s.heap) (ha : VR φ a ra) (hb : VR φ b rb) (e : getItemA a b h = some (v, h'))
    (hs : ∀ x k u, subscripted slice false (.ref x) (.int k u) = operate [.ref x, .int k u] (getItem (.ref x) (.int k u))) :
    wpAny (model prog w) A (subscriptTail value slice ra rb) (PV C h₀ F φ s h' v) E s := by
  unfold getItemA at e
  split at e
  · replace ha := VR.r ha
    (revert ha; refine xe1 fun x zq1 => ?_; revert zq1; refine ae2 fun zq2 hx => ?_; subst zq2)
    cases hb
    split at e
    · rename_i xs q
      split at e
      · rename_i hl
        simp only [Option.map_eq_some_iff, Prod.mk.injEq] at e
        (revert e; refine xe1 fun v' zq1 => ?_; revert zq1; refine ae3 fun e zq2 zq3 => ?_; subst zq2; subst zq3)
        (refine ae2 (fun h1 h2 => ?_) (at_some e))
        (refine xe2 (fun vs n zq1 => ?_) (R.listAt q hx); revert zq1; refine ae2 fun g r => ?_)
        (refine xe1 (fun y zq1 => ?_) (r.get h2); revert zq1; refine ae2 fun hy hv => ?_)
        have hlt := (List.getElem?_eq_some_iff.mp h2).1
        rw [lim_small] at hl
        exact tail_any (isList_of g).typeIs slot_list_getitem.lookup (wpAny_getItem_list (isList_of g) h1 (by omega) (by simpa using hy) (PV_here R hv)) (hs _ _ _)
      · cases e
    · rename_i xs q
      split at e
      · rename_i hl
        simp only [Option.map_eq_some_iff, Prod.mk.injEq] at e
        (revert e; refine xe1 fun v' zq1 => ?_; revert zq1; refine ae3 fun e zq2 zq3 => ?_; subst zq2; subst zq3)
        (refine ae2 (fun h1 h2 => ?_) (at_some e))
        (refine xe2 (fun vs n zq1 => ?_) (R.tupAt q hx); revert zq1; refine ae2 fun g r => ?_)
        (refine xe1 (fun y zq1 => ?_) (r.get h2); revert zq1; refine ae2 fun hy hv => ?_)
        have hlt := (List.getElem?_eq_some_iff.mp h2).1
        rw [lim_small] at hl
        have hlt' : _ < vs.length := r.length ▸ hlt
        exact item_tupleT ⟨_, g, rfl, n, rfl⟩ (by omega) (by omega) (PyProof.Rows.seqIndex_at h1 (by omega)) (by simpa using hy) (PV_here R hv) (hs _ _ _)
      · cases e
    · rename_i kvs ep q
      simp only [Option.map_eq_some_iff, Prod.mk.injEq] at e
      (revert e; refine xe1 fun v' zq1 => ?_; revert zq1; refine ae3 fun e zq2 zq3 => ?_; subst zq2; subst zq3)
      (refine xe1 (fun es zq1 => ?_) (R.dictAt q hx); revert zq1; refine ae3 fun g D nd => ?_)
      (refine xe1 (fun f zq1 => ?_) (D.mapOf (prog := prog) (w := w) g); revert zq1; refine ae2 fun hm hf => ?_)
      have := D.findBy ‹Int›
      rw [e] at this
      split at this
      · rename_i r v'' e1 e2
        cases e2
        exact tail_any hm.typeIs slot_dict_getitem.lookup (wpAny_getItem_of (knd := intKind prog w) (beq_self_eq_true _) hm ((hf _).trans e1) (PV_same R this.2)) (hs _ _ _)
      · rename_i e1 e2; cases e2
      · exact this.elim
    · cases e
  · cases e

theorem Rel.notRo {i : Nat} {a : Addr} {o : O} (R : Rel C h₀ φ h s.heap) (hi : φ[i]? = some a) (ho : h[i]? = some o) (hro : ∀ xs, o ≠ .ro xs) : h₀.objs.size ≤ a :=
  (R.new i a hi).resolve_left (by rintro ⟨xs, q⟩; rw [ho] at q; cases q; exact hro _ rfl)

theorem DRs.snoc {kvs : List (Int × V)} {es : List DictEntry} (D : DRs φ kvs es) {k : Int} {t : Tok} {v : V} {r : Value} (hv : VR φ v r) : DRs φ (kvs ++ [(k, v)]) (es ++ [⟨hashInt k, .int k t, r⟩]) := by
  induction D with
  | nil => exact .cons hv .nil
  | cons a _ ih => exact .cons a ih

/- an object is put in another's place -/
theorem PU_put {i : Nat} {a : Addr} {o o' : O} {ob : Obj} {hp : Heap} {tk : Nat} {X : List Addr → Heap → Prop} (R : Rel C h₀ φ h s.heap) (hi : φ[i]? = some a) (ho : h[i]? = some o) (hro : ∀ xs, o ≠ .ro xs)
    (hs : Heap.SameBut a s.heap hp) (ha : hp.get? a = some ob) (hd : OD C φ o' ob) (x : X φ hp) : P0 C h₀ F φ s (h.set i o') X { s with heap := hp, toks := tk } :=
  ⟨φ, hp, tk, rfl, Step.put hs (List.mem_of_getElem? hi) ha, R.put hi ho hro hs ha hd, x⟩

theorem seq_of_isList {a : Addr} {vs : List Value} {hp hp' : Heap} {n : Nat} {f : Array Value → Array Value} (e : hp.get? a = some (seqObj "list" (List.toArray vs) n)) (he : hp' = hp.update a (Obj.mapSeq f)) :
    ∃ n', hp'.get? a = some (seqObj "list" (f (List.toArray vs)) n') := by
  subst he
  exact ⟨_, PyProof.Rows.get?_update_seq e f⟩

set_option tactic.hygienic true in
theorem setItem_ok {a b c : V} {ra rb rc : Value} {u : Unit} (R : Rel C h₀ φ h s.heap) (ha : VR φ a ra) (hb : VR φ b rb) (hc : VR φ c rc) (e : setItemA a b c h = some (u, h')) :
    wpAny (model prog w) A (setItem ra rb rc) (fun zz s' => P0 C h₀ F φ s h' (fun zz zz => True) s') E s := by
  unfold setItemA at e
  split at e
  · rename_i a k
    cases ha with
    | ref i x hx =>
    cases hb with
    | int _ t =>
    (refine xe1 (fun o zq1 => ?_) (rd_bind e); revert zq1; refine ae2 fun q e1 => ?_)
    split at e1
    · rename_i xs
      (refine ae2 (fun zq1 e2 => ?_) (ite_some e1); revert zq1; refine ae3 fun q1 q2 q3 => ?_)
      (refine ae2 (fun q4 q5 => ?_) (wr_some e2))
      subst q5
      rw [lim_small] at q3
      (refine xe2 (fun vs n zq1 => ?_) (R.listAt q hx); revert zq1; refine ae2 fun g r => ?_)
      have hl := r.length
      refine ki_setAt (n := n) g q1 (by omega) (by rw [List.size_toArray]; omega) ?_
      obtain ⟨n', g'⟩ := seq_of_isList (f := (·.setIfInBounds _ rc)) g rfl
      refine PU_put (s := s) (tk := s.toks) R hx q (fun zz q => nomatch q) (Heap.SameBut.update ..) g' ⟨_, n', ?_, r.set _ hc⟩ trivial
      simp
    · rename_i kvs ep
      (refine ae2 (fun q1 e2 => ?_) (ite_some e1))
      (refine ae2 (fun q4 q5 => ?_) (wr_some e2))
      subst q5
      rw [lim_small] at q1
      (refine xe1 (fun es zq1 => ?_) (R.dictAt q hx); revert zq1; refine ae3 fun g D nd => ?_)
      have hl := D.length
      refine setItemX g D.keys (by rw [List.size_toArray, sizeLine_eq]; omega) ?_
      rw [List.findIdx?_toArray]
      unfold putD
      cases D.find k with
      | no h1 h2 h3 =>
        rw [h1, if_neg h2]
        refine PU_put (s := s) R hx q (fun zz q => nomatch q) (Heap.SameBut.update ..) (Heap.get?_update_self _ g rfl) ⟨es ++ [⟨hashInt k, .int k t, rc⟩], ?_, ?_, ?_⟩ trivial
        · simp [Obj.mapDictKeys]
        · exact D.snoc hc
        · rw [List.map_append, List.nodup_append]
          refine ⟨nd, by simp, fun x hx y hy e => h2 ?_⟩
          simp only [List.map_cons, List.map_nil, List.mem_singleton] at hy
          rw [← hy, ← e]; exact hx
      | yes j en v h1 h2 h3 h4 h5 h6 h7 =>
        rw [h1, if_pos h2]
        refine PU_put (s := s) R hx q (fun zz q => nomatch q) (Heap.SameBut.update ..) (Heap.get?_update_self _ g rfl) ⟨es.modify j fun e => { e with val := rc }, ?_, h6 nd _ _ hc, ?_⟩ trivial
        · simp [Obj.mapDict]
        · rw [setD_keys]; exact nd
    · cases e1
  · cases e

set_option tactic.hygienic true in
theorem delItem_ok {a b : V} {ra rb : Value} {u : Unit} (R : Rel C h₀ φ h s.heap) (ha : VR φ a ra) (hb : VR φ b rb) (e : delItemA a b h = some (u, h')) :
    wpAny (model prog w) A (delItem ra rb) (fun zz s' => P0 C h₀ F φ s h' (fun zz zz => True) s') E s := by
  unfold delItemA at e
  split at e
  · cases ha with
    | ref i x hx =>
    cases hb
    (refine xe1 (fun o zq1 => ?_) (rd_bind e); revert zq1; refine ae2 fun q e1 => ?_)
    split at e1
    · rename_i kvs ep
      (refine ae2 (fun zq1 e2 => ?_) (ite_some e1); revert zq1; refine ae2 fun q1 q2 => ?_)
      (refine ae2 (fun q4 q5 => ?_) (wr_some e2))
      subst q5
      rw [lim_small] at q2
      (refine xe1 (fun es zq1 => ?_) (R.dictAt q hx); revert zq1; refine ae3 fun g D nd => ?_)
      have hl := D.length
      cases D.find ‹Int› with
      | no h1 h2 h3 => exact absurd q1 h2
      | yes j en v h1 h2 h3 h4 h5 h6 h7 =>
        refine delItemX (i := j) g D.keys (by rw [List.size_toArray, sizeLine_eq]; omega) (by rw [List.findIdx?_toArray]; exact h1) ?_
        refine PU_put (s := s) R hx q (fun zz q => nomatch q) (Heap.SameBut.update ..) (Heap.get?_update_self _ g rfl) ⟨es.eraseIdx j, ?_, h7 nd, delD_nodup _ nd⟩ trivial
        have hlt := (List.getElem?_eq_some_iff.mp h4).1
        simp [Obj.mapDictKeys, Array.eraseIdxIfInBounds, hlt]
    · cases e1
  · cases e

/- what is asked of the class -/
structure Cls (K : Frag) (C : Addr) : Prop where
  ga : findIn K (.ref C) "__getattribute__" = some (some (.builtin "object.__getattribute__"))
  sa : findIn K (.ref C) "__setattr__" = some (some (.builtin "object.__setattr__"))
  near : findIn K (.ref C) sNear = some none
  mem : findIn K (.ref C) sMembers = some none
  cd : ∃ cd, clsIn K C = some cd ∧ cd.hasDict = true
  over : plainOver K C = true
  tnear : takerIn K C sNear = some none
  tmem : takerIn K C sMembers = some none

theorem sNear_ne : sNear ≠ sMembers := by decide
theorem strKeys_noRef {es : Array DictEntry} (k : StrKeys es) : es.toList.any (·.refKey) = false := by
  rw [List.any_eq_false]
  intro e he
  (refine xe2 (fun n t q => ?_) (k e (by simpa using he)))
  simp [DictEntry.refKey, q]
theorem lookIn_ns {ob : Obj} {es : Array DictEntry} {ep : Nat} (hd : ob.data = .dict es ep) (k : StrKeys es) (x : Str) : lookIn x ob = some (nsFind es x) := by
  unfold lookIn
  rw [hd]
  dsimp only
  unfold nsFind findBy
  rw [← Array.find?_toList]
  cases e : es.toList.find? (fun d => d.key.isStr x) with
  | some d => rfl
  | none =>
    dsimp only
    rw [strKeys_noRef k]; rfl

theorem Rel.instAt (R : Rel C h₀ φ h s.heap) {i d : Nat} {a : Addr} {n m : Option V} (q : h[i]? = some (.inst d)) (qd : h[d]? = some (.ns n m)) (hi : φ[i]? = some a) :
    ∃ b ob es ep, φ[d]? = some b ∧ s.heap.get? b = some ob ∧ ob.data = .dict es ep ∧ StrKeys es ∧ UniqKeys es ∧ ORel φ n (nsFind es sNear) ∧ ORel φ m (nsFind es sMembers) ∧ (∀ x, x ≠ sNear → x ≠ sMembers → nsFind es x = none) ∧ InstAt s.heap a (instObj C b) C (some ob) := by
  (refine xe1 (fun o1 zq1 => ?_) (R.get q hi); revert zq1; refine ae2 fun g1 zq2 => ?_; revert zq2; refine xe1 fun b zq3 => ?_; revert zq3; refine ae2 fun hb zq4 => ?_; subst zq4)
  (refine xe1 (fun ob zq1 => ?_) (R.get qd hb); revert zq1; refine ae2 fun g2 zq2 => ?_; revert zq2; refine xe2 fun es ep zq3 => ?_; revert zq3; refine ae6 fun h1 h2 hu h3 h4 h5 => ?_)
  exact ⟨b, ob, es, ep, hb, g2, h1, h2, hu, h3, h4, h5, g1, rfl, rfl, g2⟩

theorem get_own {K : Frag} {x : Addr} {ox ob : Obj} {name : Str} {v : Value} {expr : Bool} {Q : Value → Shared → Prop} (k : Cls K C) (X : K.In s.heap) (I : InstAt s.heap x ox C (some ob)) (hn : findIn K (.ref C) name = some none)
    (hl : lookIn name ob = some (some v)) (hv : handedIn v = true) (h : Q v { s with toks := s.toks + 1 }) : wpAny (model prog w) A (getAttr (.ref x) name expr) Q E s := by
  obtain ⟨cd, hc, hd⟩ := k.cd
  refine get_value X I k.ga ?_ hv h
  unfold findObj
  rw [hc, Option.bind_some, hn]
  simp only [Option.bind_some]
  unfold PySem.W.ownOf
  rw [hd]
  simp only [if_true]
  rw [hl]
  rfl

theorem VR.handed {v : V} {r : Value} (h : VR φ v r) : handedIn r = true := by cases h <;> rfl

set_option tactic.hygienic true in
theorem getAttr_ok {K : Frag} {x : Str} {a v : V} {ra : Value} {expr : Bool} (k : Cls K C) (X : K.In s.heap) (R : Rel C h₀ φ h s.heap) (ha : VR φ a ra) (e : getAttrA x a h = some (v, h')) :
    wpAny (model prog w) A (getAttr ra x expr) (PV C h₀ F φ s h' v) E s := by
  unfold getAttrA at e
  split at e
  · replace ha := VR.r ha
    (revert ha; refine xe1 fun y zq1 => ?_; revert zq1; refine ae2 fun zq2 hy => ?_; subst zq2)
    (refine xe1 (fun o zq1 => ?_) (rd_bind e); revert zq1; refine ae2 fun q e1 => ?_)
    split at e1
    · (refine xe1 (fun o2 zq1 => ?_) (rd_bind e1); revert zq1; refine ae2 fun q2 e2 => ?_)
      split at e2
      · rename_i d n m
        (refine xe4 (fun b ob es ep zq1 => ?_) (R.instAt q q2 hy); revert zq1; refine ae8 fun hb g hd hk huk r1 r2 zq2 => ?_; revert zq2; refine ae2 fun r3 I => ?_)
        split at e2
        · rename_i hx
          subst hx
          simp only [Option.map_eq_some_iff, Prod.mk.injEq] at e2
          (revert e2; refine xe1 fun v' zq1 => ?_; revert zq1; refine ae3 fun e3 zq2 zq3 => ?_; subst zq2; subst zq3)
          subst e3
          cases hn : nsFind es sNear with
          | none => rw [hn] at r1; cases r1
          | some r =>
            rw [hn] at r1
            cases r1 with
            | some r1 => exact get_own k X I k.near (by rw [lookIn_ns hd hk, hn]) r1.handed (PV_same R r1)
        · split at e2
          · rename_i hx
            subst hx
            simp only [Option.map_eq_some_iff, Prod.mk.injEq] at e2
            (revert e2; refine xe1 fun v' zq1 => ?_; revert zq1; refine ae3 fun e3 zq2 zq3 => ?_; subst zq2; subst zq3)
            subst e3
            cases hn : nsFind es sMembers with
            | none => rw [hn] at r2; cases r2
            | some r =>
              rw [hn] at r2
              cases r2 with
              | some r2 => exact get_own k X I k.mem (by rw [lookIn_ns hd hk, hn]) r2.handed (PV_same R r2)
          · cases e2
      · cases e2
    · cases e1
  · cases e

theorem set_own' {K : Frag} {x dx : Addr} {ob : Obj} {name : Str} {v : Value} {Q : Unit → Shared → Prop} {m : Str → Option Value} (k : Cls K C) (X : K.In s.heap) (I : InstAt s.heap x (instObj C dx) C (some ob)) (ht : takerIn K C name = some none)
    (hm : s.heap.Ns1 dx m) (hw : Within m [sNear, sMembers])
    (h : ∀ h', h'.Ns1 dx (fun y => if y = name then some v else m y) → Heap.SameBut dx s.heap h' → Q () { s with heap := h', toks := s.toks + 1 + 1 }) : wpAny (model prog w) A (setAttr (.ref x) name v) Q E s := by
  obtain ⟨cd, hc, hd⟩ := k.cd
  refine set_plain X I k.sa ?_
  refine osa_open (s := { s with toks := s.toks + 1 }) X I k.over ht fun b => ?_
  obtain ⟨hx, -, -, -⟩ := I
  refine wpAny_bind (wpAny_pure (wpAny_bind (wpAny_bind (wpAny_loadPart hx (wpAny_bind (looks_clsIn X hc _ _ _ _ (fun zz zz e => e) ?_))))))
  rw [hd]
  refine wpAny_pure (a := some dx) (wpAny_bind (wpAny_pure (wpAny_bind ?_)))
  refine wpAny_nsSet1 (s := { s with toks := s.toks + 1 }) hm fun h' h1 h2 => ?_
  (refine xe3 (fun o es ep zq1 => ?_) (h1.count (hw.cons name v)); revert zq1; refine ae3 fun e1 e2 e3 => ?_)
  refine wpAny_bind (wpAny_lookBehind (s := { s with heap := h', toks := s.toks + 1 + 1 }) e1 (by rw [e2]; exact pastItsLine_dict (by simp at e3; rw [sizeLine_eq]; omega)) ?_)
  exact wpAny_pure (h h' h1 h2)

set_option tactic.hygienic true in
theorem setAttr_ok {K : Frag} {x : Str} {a v : V} {ra rv : Value} {u : Unit} (k : Cls K C) (X : K.In s.heap) (R : Rel C h₀ φ h s.heap) (ha : VR φ a ra) (hv : VR φ v rv) (e : setAttrA x v a h = some (u, h')) :
    wpAny (model prog w) A (setAttr ra x rv) (fun zz s' => P0 C h₀ F φ s h' (fun zz zz => True) s') E s := by
  unfold setAttrA at e
  split at e
  · replace ha := VR.r ha
    (revert ha; refine xe1 fun y zq1 => ?_; revert zq1; refine ae2 fun zq2 hy => ?_; subst zq2)
    (refine xe1 (fun o zq1 => ?_) (rd_bind e); revert zq1; refine ae2 fun q e1 => ?_)
    split at e1
    · (refine xe1 (fun o2 zq1 => ?_) (rd_bind e1); revert zq1; refine ae2 fun q2 e2 => ?_)
      split at e2
      · rename_i d n m
        (refine xe4 (fun b ob es ep zq1 => ?_) (R.instAt q q2 hy); revert zq1; refine ae8 fun hb g hd hk huk r1 r2 zq2 => ?_; revert zq2; refine ae2 fun r3 I => ?_)
        have hm : s.heap.Ns1 b (nsFind es) := ⟨ob, es, ep, g, hd, hk, huk, fun zz => rfl⟩
        have hw : Within (nsFind es) [sNear, sMembers] := fun y hy => by
          by_cases y1 : y = sNear
          · simp [y1]
          · by_cases y2 : y = sMembers
            · simp [y2]
            · exact absurd (r3 y y1 y2) hy
        split at e2
        · rename_i hx
          subst hx
          (refine ae2 (fun q4 q5 => ?_) (wr_some e2))
          subst q5
          refine set_own' k X I k.tnear hm hw fun h1 n1 s1 => ?_
          (revert n1; refine xe3 fun ob' es' ep' zq1 => ?_; revert zq1; refine ae5 fun g' hd' hk' hu' hf => ?_)
          refine PU_put (s := s) R hb q2 (fun zz q => nomatch q) s1 g' ⟨es', ep', hd', hk', hu', ?_, ?_, fun z h1 h2 => ?_⟩ trivial
          · rw [hf]; dsimp only; rw [if_pos rfl]; exact .some hv
          · rw [hf]; dsimp only; rw [if_neg (fun e => sNear_ne e.symm)]; exact r2
          · rw [hf]; dsimp only; rw [if_neg h1]; exact r3 z h1 h2
        · split at e2
          · rename_i hx
            subst hx
            (refine ae2 (fun q4 q5 => ?_) (wr_some e2))
            subst q5
            refine set_own' k X I k.tmem hm hw fun h1 n1 s1 => ?_
            (revert n1; refine xe3 fun ob' es' ep' zq1 => ?_; revert zq1; refine ae5 fun g' hd' hk' hu' hf => ?_)
            refine PU_put (s := s) R hb q2 (fun zz q => nomatch q) s1 g' ⟨es', ep', hd', hk', hu', ?_, ?_, fun z h1 h2 => ?_⟩ trivial
            · rw [hf]; dsimp only; rw [if_neg sNear_ne]; exact r1
            · rw [hf]; dsimp only; rw [if_pos rfl]; exact .some hv
            · rw [hf]; dsimp only; rw [if_neg h2]; exact r3 z h1 h2
          · cases e2
      · cases e2
    · cases e1
  · cases e
end
end

section
open PySem PySem.W PyProof.Rows PySem.SeqAt

section
variable {prog : Program} {w : World} {A : Around} {E : Value → Shared → Prop} {s : Shared} {C : Addr} {h₀ : Heap} {F φ : List Addr} {h h' : H}

theorem dictOf_of {a : Addr} {es : List DictEntry} {ep : Nat} {kvs : List (Int × V)} (D : DRs φ kvs es) (nd : (kvs.map (·.1)).Nodup) {hp : Heap} (e : hp.get? a = some ⟨.type "dict", none, .dict (List.toArray es) ep, #[]⟩) :
    ∃ ks : List (Int × Value), ks.map (·.1) = kvs.map (·.1) ∧ hp.DictAt (intKind prog w) a ks ep := by
  have : ∃ ks : List (Int × Value), ks.map (·.1) = kvs.map (·.1) ∧ Pairs (intKind prog w) es ks := by
    clear e nd
    induction D with
    | nil => exact ⟨[], rfl, .nil⟩
    | @cons k t v r vs rs h tl ih =>
      (revert ih; refine xe1 fun ks zq1 => ?_; revert zq1; refine ae2 fun e1 e2 => ?_)
      exact ⟨(k, r) :: ks, by simp [e1], .cons (beq_self_eq_true k) rfl e2⟩
  (revert this; refine xe1 fun ks zq1 => ?_; revert zq1; refine ae2 fun e1 e2 => ?_)
  exact ⟨ks, e1, _, List.toArray es, e, ⟨rfl, rfl, rfl⟩, rfl, fun en he => by (refine xe2 (fun k t zq1 => ?_) (D.keys en he); revert zq1; refine ae2 fun h1 h2 => ?_); exact ⟨k, by rw [h1]; exact beq_self_eq_true k, h2⟩, by simpa using e2, by rw [e1]; exact nd⟩

theorem PV_grow {h1 : Heap} {tk : Nat} {v : V} {rv : Value} (R : Rel C h₀ φ h s.heap) (k : ∀ b o, s.heap.get? b = some o → h1.get? b = some o) (hv : VR φ v rv) : PV C h₀ F φ s h v rv { s with heap := h1, toks := tk } :=
  ⟨φ, h1, tk, rfl, Step.grow k, R.grow k, hv⟩
/- a new told object stands at a place that was empty -/
theorem PV_at {o : O} {ob : Obj} {h1 : Heap} {tk : Nat} {a : Addr} (R : Rel C h₀ φ h s.heap) (k : ∀ b o, s.heap.get? b = some o → h1.get? b = some o) (ha : s.heap.get? a = none) (z : h₀.objs.size ≤ a)
    (g : h1.get? a = some ob) (hd : OD C (φ ++ [a]) o ob) : PV C h₀ F φ s (h ++ [o]) (.ref h.length) (.ref a) { s with heap := h1, toks := tk } :=
  ⟨φ ++ [a], h1, tk, rfl, Step.alloc k ha, (R.grow k).alloc g (fun q => by
      have := R.lt q
      (refine xe1 (fun i hi => ?_) (List.mem_iff_getElem?.mp q))
      have hl := (List.getElem?_eq_some_iff.mp hi).1
      rw [R.len] at hl
      (refine xe2 (fun b ob' zq1 => ?_) (R.obj i h[i] (List.getElem?_eq_getElem hl)); revert zq1; refine ae3 fun h1 h2 zz => ?_)
      rw [hi] at h1; cases h1; rw [ha] at h2; cases h2) z hd,
    .ref _ _ (by rw [← R.len, List.getElem?_concat_length])⟩

theorem newL_ok {vs : List V} {v : V} {rs : List Value} (z : h₀.objs.size ≤ s.heap.objs.size) (R : Rel C h₀ φ h s.heap) (hv : VRs φ vs rs) (e : newL vs h = some (v, h')) : wpAny (model prog w) A (newList rs) (PV C h₀ F φ s h' v) E s := by
  unfold newL at e
  (refine ae2 (fun q e => ?_) (ite_some e))
  have e := new_bind e
  (refine ae2 (fun zq1 zq2 => ?_) (pure_some e); subst zq1; subst zq2)
  rw [lim_small] at q
  refine wpAny_newList ?_ (by rw [← hv.length, sizeLine_eq]; omega)
  exact PV_new (ob := seqObj "list" (List.toArray rs) 0) (o := .list _) (tk := s.toks) z R ⟨rs, 0, rfl, hv.mono (List.prefix_append _ _)⟩
theorem newT_ok {vs : List V} {v : V} {rs : List Value} (z : h₀.objs.size ≤ s.heap.objs.size) (R : Rel C h₀ φ h s.heap) (hv : VRs φ vs rs) (e : newT vs h = some (v, h')) : wpAny (model prog w) A (newTuple rs) (PV C h₀ F φ s h' v) E s := by
  unfold newT at e
  (refine ae2 (fun q e => ?_) (ite_some e))
  have e := new_bind e
  (refine ae2 (fun zq1 zq2 => ?_) (pure_some e); subst zq1; subst zq2)
  rw [lim_small] at q
  refine wpAny_newTuple ?_ (by rw [← hv.length, sizeLine_eq]; omega)
  exact PV_new (ob := seqObj "tuple" (List.toArray rs) 0) (o := .tuple _) (tk := s.toks) z R ⟨rs, 0, rfl, hv.mono (List.prefix_append _ _)⟩
theorem newD_ok {v : V} {pos : Pos} {env : Env} (z : h₀.objs.size ≤ s.heap.objs.size) (R : Rel C h₀ φ h s.heap) (e : newD h = some (v, h')) : wpAny (model prog w) A (eval (.Dict [] [] pos) env) (PV C h₀ F φ s h' v) E s := by
  unfold newD at e
  have e := new_bind e
  (refine ae2 (fun zq1 zq2 => ?_) (pure_some e); subst zq1; subst zq2)
  refine wpAny_Dict_empty ?_
  exact PV_new (ob := { cls := .type "dict", data := .dict #[] }) (o := .dict [] 0) (tk := s.toks) z R ⟨[], rfl, .nil, by simp⟩

theorem len_ok {a v : V} {ra : Value} (hs : 1 < h₀.objs.size) (R : Rel C h₀ φ h s.heap) (ha : VR φ a ra) (e : lenA a h = some (v, h')) : wpAny (model prog w) A (call (.builtin "len") [ra]) (PV C h₀ F φ s h' v) E s := by
  unfold lenA at e
  split at e
  · replace ha := VR.r ha
    (revert ha; refine xe1 fun x zq1 => ?_; revert zq1; refine ae2 fun zq2 hx => ?_; subst zq2)
    (refine xe1 (fun o zq1 => ?_) (rd_bind e); revert zq1; refine ae2 fun q e => ?_)
    split at e
    · (refine ae2 (fun q1 e => ?_) (ite_some e))
      (refine ae2 (fun zq1 zq2 => ?_) (pure_some e); subst zq1; subst zq2)
      (refine xe2 (fun vs n zq1 => ?_) (R.listAt q hx); revert zq1; refine ae2 fun g r => ?_)
      rw [lim_small] at q1
      have hl := r.length
      refine Calls.call_len_list (isList_of g) (by rw [List.size_toArray]; omega) ?_
      rw [List.size_toArray, ← hl]
      exact PV_same R (.int _ _)
    · (refine ae2 (fun q1 e => ?_) (ite_some e))
      (refine ae2 (fun zq1 zq2 => ?_) (pure_some e); subst zq1; subst zq2)
      (refine xe1 (fun es zq1 => ?_) (R.dictAt q hx); revert zq1; refine ae3 fun g D nd => ?_)
      rw [lim_small] at q1
      (refine xe1 (fun ks zq1 => ?_) (dictOf_of (prog := prog) (w := w) D nd g); revert zq1; refine ae2 fun e1 e2 => ?_)
      have hl := congrArg List.length e1
      rw [List.length_map, List.length_map] at hl
      refine call_len_dict (ge_ne (R.notRo hx q (fun zz q => nomatch q)) hs) e2.dictOf (by rw [hl]; omega) ?_
      rw [hl]
      exact PV_same R (.int _ _)
    · cases e
  · cases e

theorem copy_ok {a v : V} {ra : Value} (z : h₀.objs.size ≤ s.heap.objs.size) (R : Rel C h₀ φ h s.heap) (ha : VR φ a ra) (e : copyA a h = some (v, h')) : wpAny (model prog w) A (call (.type "list") [ra]) (PV C h₀ F φ s h' v) E s := by
  unfold copyA at e
  split at e
  · replace ha := VR.r ha
    (revert ha; refine xe1 fun x zq1 => ?_; revert zq1; refine ae2 fun zq2 hx => ?_; subst zq2)
    (refine xe1 (fun o zq1 => ?_) (rd_bind e); revert zq1; refine ae2 fun q e => ?_)
    have main : ∀ (xs vs : List _) (n : Nat) (ob : Obj), s.heap.get? x = some ob → ob.cls = .type "list" → ob.data = .seq (List.toArray vs) n → VRs φ xs vs → xs.length ≤ lim →
        (do let c ← new (.list xs); pure (V.ref c) : M V) h = some (v, h') → wpAny (model prog w) A (call (.type "list") [.ref x]) (PV C h₀ F φ s h' v) E s := by
      intro xs vs n ob g hc hd r q1 e
      have e := new_bind e
      (refine ae2 (fun zq1 zq2 => ?_) (pure_some e); subst zq1; subst zq2)
      rw [lim_small] at q1
      refine call_list_seq x (.inl rfl) g hc hd (fun h1 c' k g' => ?_) (by rw [List.size_toArray, ← r.length, sizeLine_eq]; omega)
      exact PV_at (tk := s.toks) R k (get_size _) z g' ⟨vs, c', rfl, r.mono (List.prefix_append _ _)⟩
    split at e
    · (refine ae2 (fun q1 e => ?_) (ite_some e))
      (refine xe2 (fun vs n zq1 => ?_) (R.listAt q hx); revert zq1; refine ae2 fun g r => ?_)
      exact main _ vs n _ g rfl rfl r q1 e
    · (refine ae2 (fun q1 e => ?_) (ite_some e))
      (refine xe1 (fun ob zq1 => ?_) (R.get q hx); revert zq1; refine ae3 fun g hc zq2 => ?_; revert zq2; refine xe2 fun vs n zq3 => ?_; revert zq3; refine ae2 fun hd r => ?_)
      exact main _ vs n _ g hc hd r q1 e
    · cases e
  · cases e

theorem min_ok {a b : Int} {t u : Tok} (hh : A.handled = none) (R : Rel C h₀ φ h s.heap) : wpAny (model prog w) A (call (.builtin "min") [.int a t, .int b u]) (PV C h₀ F φ s h (.int (if b < a then b else a))) E s :=
  min_two_ints hh fun h1 tk k => by
    split
    · exact PV_grow R k (.int _ _)
    · exact PV_grow R k (.int _ _)
theorem max_ok {a b : Int} {t u : Tok} (hh : A.handled = none) (R : Rel C h₀ φ h s.heap) : wpAny (model prog w) A (call (.builtin "max") [.int a t, .int b u]) (PV C h₀ F φ s h (.int (if a < b then b else a))) E s :=
  max_two_ints hh fun h1 tk k => by
    show PV C h₀ F φ s h (.int (if a < b then b else a)) (if b > a then _ else _) _
    by_cases q : a < b
    · rw [if_pos q, if_pos q]; exact PV_grow R k (.int _ _)
    · rw [if_neg q, if_neg q]; exact PV_grow R k (.int _ _)

theorem slice_ok {a v : V} {ra : Value} {n : Int} {value : Expr} {k : Nat} {p1 p2 : Pos} {env : Env} (z : h₀.objs.size ≤ s.heap.objs.size) (R : Rel C h₀ φ h s.heap) (ha : VR φ a ra) (e : sliceA n a h = some (v, h'))
    (hs : ∀ x y, subscripted (.Slice none (some (.Constant (.int n) k p1)) none p2) false (.ref x) (.ref y) = operate [.ref y, .ref x] (getItem (.ref x) (.ref y))) :
    wpAny (model prog w) A (eval (.Slice none (some (.Constant (.int n) k p1)) none p2) env) (fun i s₂ => wpAny (model prog w) A (subscriptTail value (.Slice none (some (.Constant (.int n) k p1)) none p2) ra i) (PV C h₀ F φ s h' v) E s₂) E s := by
  unfold sliceA at e
  split at e
  · replace ha := VR.r ha
    (revert ha; refine xe1 fun x zq1 => ?_; revert zq1; refine ae2 fun zq2 hx => ?_; subst zq2)
    (refine xe1 (fun o zq1 => ?_) (rd_bind e); revert zq1; refine ae2 fun q e => ?_)
    split at e
    · (refine ae2 (fun zq1 e => ?_) (ite_some e); revert zq1; refine ae3 fun q1 q2 q3 => ?_)
      have e := new_bind e
      (refine ae2 (fun zq1 zq2 => ?_) (pure_some e); subst zq1; subst zq2)
      (refine xe2 (fun vs m zq1 => ?_) (R.listAt q hx); revert zq1; refine ae2 fun g r => ?_)
      rw [lim_small] at q3
      have hl := r.length
      refine wpAny_Slice (wpAny_pure (wpAny_Constant_int (pos := p1) (k := k) (wpAny_pure ?_)))
      dsimp only
      have g1 := Heap.get?_push_of_some { cls := .type "slice", data := .fields #[.none, .int n s.toks, .none] } g
      refine tail_any (s := { s with heap := s.heap.push { cls := .type "slice", data := .fields #[.none, .int n s.toks, .none] }, toks := s.toks + 1 }) (isList_of g1).typeIs slot_list_getitem.lookup
        (wpAny_getItem_list_slice (isList_of g1) (Heap.IsSliceOf.new _ _ _ _) .none (.int n s.toks) .none (fun q => nomatch q) ?_ (by rw [List.size_toArray, sizeLine_eq]; omega)) (hs _ _)
      rw [kms_pick_eq]
      have hp : kms_pick (List.toArray vs).toList none (some n) = vs.take n.toNat := by
        simp only [kms_pick, kms_lo, kms_hi, List.drop_zero, Nat.sub_zero]
        rw [if_neg (by omega)]
        rw [Nat.min_def]
        split
        · rfl
        · rename_i hc
          rw [List.take_of_length_le (Nat.le_refl _), List.take_of_length_le (Nat.le_of_lt (Nat.not_le.mp hc))]
      rw [hp]
      have hz : h₀.objs.size ≤ (s.heap.push { cls := .type "slice", data := .fields #[.none, .int n s.toks, .none] }).objs.size := by rw [Heap.size_push]; omega
      refine PV_at (s := s) (ob := seqObj "list" (List.toArray (vs.take n.toNat)) 0) (tk := s.toks + 1) R (fun b o e => Heap.get?_push_of_some _ (Heap.get?_push_of_some _ e)) ?_ hz (Heap.get?_push_size _ rfl) ⟨_, 0, rfl, (r.take _).mono (List.prefix_append _ _)⟩
      cases q : s.heap.get? (s.heap.push { cls := .type "slice", data := .fields #[.none, .int n s.toks, .none] }).objs.size with
      | none => rfl
      | some o => have := Heap.lt_size q; rw [Heap.size_push] at this; exact absurd this (Nat.not_lt.mpr (Nat.le_succ _))
    · cases e
  · cases e

/-! the methods of a list -/
theorem append_ok {x v : V} {i : Nat} {a : Addr} {xs : List V} {rx : Value} (R : Rel C h₀ φ h s.heap) (hi : φ[i]? = some a) (q : h[i]? = some (.list xs)) (hx : VR φ x rx) (ql : xs.length < lim)
    (e : (do wr i (.list (xs ++ [x])); pure V.none : M V) h = some (v, h')) : wpAny (model prog w) A (call (.builtin "list.append") [.ref a, rx]) (PV C h₀ F φ s h' v) E s := by
  (refine ae2 (fun zz e => ?_) (wr_bind e))
  (refine ae2 (fun zq1 zq2 => ?_) (pure_some e); subst zq1; subst zq2)
  (refine xe2 (fun vs n zq1 => ?_) (R.listAt q hi); revert zq1; refine ae2 fun g r => ?_)
  have hl := r.length
  rw [lim_small] at ql
  refine append_at (n := n) g (fun h1 hs g1 => ?_) (by rw [List.size_toArray, sizeLine_eq]; omega)
  exact PU_put (s := s) (tk := s.toks) (X := fun φ' zz => VR φ' .none .none) R hi q (fun zz q => nomatch q) hs g1 ⟨vs ++ [rx], n + 1, by simp [seqObj], r.append (.one hx)⟩ .none

theorem extend_ok {v : V} {i j : Nat} {a b : Addr} {xs ys : List V} (R : Rel C h₀ φ h s.heap) (hi : φ[i]? = some a) (hj : φ[j]? = some b) (q : h[i]? = some (.list xs)) (q' : h[j]? = some (.list ys)) (ql : xs.length < lim) (ql' : ys.length < lim)
    (e : (do wr i (.list (xs ++ ys)); pure V.none : M V) h = some (v, h')) : wpAny (model prog w) A (call (.builtin "list.extend") [.ref a, .ref b]) (PV C h₀ F φ s h' v) E s := by
  (refine ae2 (fun zz e => ?_) (wr_bind e))
  (refine ae2 (fun zq1 zq2 => ?_) (pure_some e); subst zq1; subst zq2)
  (refine xe2 (fun vs n zq1 => ?_) (R.listAt q hi); revert zq1; refine ae2 fun g r => ?_)
  (refine xe2 (fun us m zq1 => ?_) (R.listAt q' hj); revert zq1; refine ae2 fun g' r' => ?_)
  have hl := r.length
  have hl' := r'.length
  rw [lim_small] at ql ql'
  have z1 : (List.toArray vs).size + (List.toArray us).size ≤ sizeLine := by rw [List.size_toArray, List.size_toArray, sizeLine_eq]; omega
  refine call_meets PySem.F.slot_list_extend ⟨_, g, rfl⟩ PySem.F.entry_list_extend (PySem.F.args_list_extend_2 _ _)
    (AutoSeq1.list_extend_list_list_0 a (List.toArray vs) n b (List.toArray us) m (extend_door z1) (by omega) (by omega)) ⟨g, g', ?_⟩
  (refine xe1 (fun n' g1 => ?_) (seq_of_isList (f := (· ++ List.toArray us)) g rfl))
  exact PU_put (s := s) (tk := s.toks) (o' := .list (xs ++ ys)) (X := fun φ' zz => VR φ' .none .none) R hi q (fun zz q => nomatch q) (Heap.SameBut.update ..) g1 ⟨vs ++ us, n', by simp, r.append r'⟩ .none

theorem toVal_lt {vs : List Value} {i : Nat} {y : Value} (e : vs[i]? = some y) : i < (List.toArray vs).size := by
  rw [List.size_toArray]; exact (List.getElem?_eq_some_iff.mp e).1

theorem plain_remove : plainId "list.remove.loop" = true := by decide +kernel
theorem ls1 {a i k : Nat} (h : a - i = k + 1) : a - (i + 1) = k := by omega
theorem ls2 {a i k : Nat} (h : a - i = k + 1) : i + 1 ≤ a := by omega
theorem le_line {a : Nat} (h : a ≤ 1000) : a ≤ sizeLine := by rw [sizeLine_eq]; omega
/- the walk of remove: what == says of each item is known at this heap -/
theorem removeLoop_ok {a : Addr} {vs : List Value} {n : Nat} {x : Value} {es : List Bool} {R : Result → Shared → Prop} (g : s.heap.get? a = some (seqObj "list" (List.toArray vs) n)) (hl : es.length = vs.length) (hz : vs.length ≤ 1000)
    (he : ∀ (i : Nat) (y : Value) (b : Bool), vs[i]? = some y → es[i]? = some b → EqAt A.in1 s y x b) :
    ∀ (k i j : Nat), j - i = k → i ≤ j → es[j]? = some true → (∀ m : Nat, i ≤ m → m < j → es[m]? = some false) →
      R (.ok (.ret .none)) { s with heap := s.heap.update a (Obj.mapSeq fun xs => xs.eraseIdxIfInBounds j) } → codeAny (model prog w) A (.builtin "list.remove.loop" ⟨[.ref a, x, rawInt i], []⟩) R s := by
  intro k
  induction k with
  | zero =>
    intro i j hk hij hj hno h
    have e : i = j := Nat.le_antisymm hij (Nat.le_of_sub_eq_zero hk)
    subst e
    obtain ⟨y, hy⟩ : ∃ y, vs[i]? = some y := ⟨vs[i]'(by rw [← hl]; exact (List.getElem?_eq_some_iff.mp hj).1), List.getElem?_eq_getElem _⟩
    refine codeAny_builtin MeetsSeq.entry_remove_loop ?_
    rw [Around.under_plainId plain_remove _]
    unfold Builtin.«list.remove.loop»
    refine wpAny_bind (listItems_at g rfl ?_)
    show wpAny _ _ (match (List.toArray vs)[((i : Nat) : Int).toNat]? with | none => _ | some x => _) _ _ _
    rw [Int.toNat_natCast, List.getElem?_toArray, hy]
    refine wpAny_bind (he i y true hy hj prog w _ _ ?_)
    refine wpAny_bind (listUpdate_at g rfl ?_ (by rw [List.size_toArray]; exact le_line hz) ?_)
    · exact wpAny_pure h
    · unfold Array.eraseIdxIfInBounds
      rw [dif_pos (toVal_lt hy), Array.size_eraseIdx, List.size_toArray]; exact Nat.le_succ_of_le (le_line (Nat.le_trans (Nat.sub_le _ _) hz))
  | succ k ih =>
    intro i j hk hij hj hno h
    have hf := hno i (Nat.le_refl _) (ls2 hk)
    obtain ⟨y, hy⟩ : ∃ y, vs[i]? = some y := ⟨vs[i]'(by rw [← hl]; exact (List.getElem?_eq_some_iff.mp hf).1), List.getElem?_eq_getElem _⟩
    refine codeAny_builtin MeetsSeq.entry_remove_loop ?_
    rw [Around.under_plainId plain_remove _]
    unfold Builtin.«list.remove.loop»
    refine wpAny_bind (listItems_at g rfl ?_)
    show wpAny _ _ (match (List.toArray vs)[((i : Nat) : Int).toNat]? with | none => _ | some x => _) _ _ _
    rw [Int.toNat_natCast, List.getElem?_toArray, hy]
    refine wpAny_bind (he i y false hy hf prog w _ _ ?_)
    have := ih (i + 1) j (ls1 hk) (ls2 hk) hj (fun m h1 h2 => hno m (Nat.le_of_succ_le h1) h2) h
    exact wpAny_pure ⟨plainId_quiet plain_remove _, by simpa [rawInt] using this⟩

theorem listsOf_get : ∀ {xs : List V} {ls : List (List Int)}, listsOf h xs = some ls → ls.length = xs.length ∧ ∀ (i : Nat) (x : V), xs[i]? = some x → ∃ l, ls[i]? = some l ∧ Mine.listAt h x = some l
  | [], ls, e => by simp only [listsOf, Option.some.injEq] at e; subst e; exact ⟨rfl, fun i x q => by simp at q⟩
  | y :: ys, ls, e => by
    simp only [listsOf, Option.bind_eq_some_iff, Option.map_eq_some_iff] at e
    (revert e; refine xe1 fun l zq1 => ?_; revert zq1; refine ae2 fun hl zq2 => ?_; revert zq2; refine xe1 fun js zq3 => ?_; revert zq3; refine ae2 fun hj zq4 => ?_; subst zq4)
    (refine ae2 (fun h1 h2 => ?_) (listsOf_get hj))
    refine ⟨by simp [h1], fun i x q => ?_⟩
    cases i with
    | zero => simp only [List.getElem?_cons_zero, Option.some.injEq] at q; subst q; exact ⟨l, rfl, hl⟩
    | succ i => simpa using h2 i x (by simpa using q)

theorem eqAt_lists (R : Rel C h₀ φ h s.heap) {x y : V} {rx ry : Value} {l c : List Int} (hx : Mine.listAt h x = some l) (hy : Mine.listAt h y = some c) (vx : VR φ x rx) (vy : VR φ y ry) (hu : A.units + 64 < cLine) :
    EqAt A s rx ry (decide (l = c)) := by
  (refine xe1 (fun a ra => ?_) (reads_list R hx vx))
  (refine xe1 (fun b rb => ?_) (reads_list R hy vy))
  have q := eqAt_reads _ _ A s rx ry _ _ ra rb (canLay_of_shaped (shaped_ints l)) (canLay_of_shaped (shaped_ints c)) (room_of_shaped (shaped_ints l) hu)
  have mx : noMix (.list (l.map .int)) (.list (c.map .int)) = true := by simp only [noMix]; exact noMix_ints _ _
  rw [← same_eq_eqv _ _ mx] at q
  have e : PySem.Spec.same (.list (l.map .int)) (.list (c.map .int)) = decide (l = c) := by simp only [PySem.Spec.same]; exact same_ints _ _
  rw [e] at q
  exact q

set_option tactic.hygienic true in
theorem remove_ok {x v : V} {i : Nat} {a : Addr} {xs : List V} {rx : Value} (hu : A.units + 65 < cLine) (R : Rel C h₀ φ h s.heap) (hi : φ[i]? = some a) (q : h[i]? = some (.list xs)) (hx : VR φ x rx)
    (e : removeA i xs x h = some (v, h')) : wpAny (model prog w) A (call (.builtin "list.remove") [.ref a, rx]) (PV C h₀ F φ s h' v) E s := by
  unfold removeA at e
  split at e
  · rename_i ls c e1 e2
    split at e
    · rename_i q1
      (revert q1; refine ae2 fun q1 q2 => ?_)
      (refine ae2 (fun zz e => ?_) (wr_bind e))
      (refine ae2 (fun zq1 zq2 => ?_) (pure_some e); subst zq1; subst zq2)
      rw [lim_small] at q2
      (refine xe2 (fun vs n zq1 => ?_) (R.listAt q hi); revert zq1; refine ae2 fun g r => ?_)
      have hl := r.length
      (refine ae2 (fun l1 l2 => ?_) (listsOf_get e1))
      have hj : ls.idxOf c < ls.length := List.idxOf_lt_length_of_mem q1
      refine wpAny_call (codeAny_call_builtin PySem.F.slot_list_remove.plain PySem.F.entry_list_remove (PySem.F.slot_list_remove.check _ _ _ _ _ _ _ _ ⟨_, g, rfl⟩ (PySem.F.args_list_remove_2 _ _) ?_))
      show wpAny _ _ (again (.builtin "list.remove.loop" ⟨[.ref a, rx, rawInt 0], []⟩)) _ _ _
      refine wpAny_pure ⟨plainId_quiet plain_remove _, ?_⟩
      refine removeLoop_ok (es := ls.map fun l => decide (l = c)) g (by rw [List.length_map, l1, hl]) (by omega) (fun k y b hy hb => ?_) _ 0 (ls.idxOf c) rfl (Nat.zero_le _) ?_ (fun m zz hm => ?_) ?_
      · obtain ⟨z, hz, vz⟩ : ∃ z, xs[k]? = some z ∧ VR φ z y := by
          have hk := (List.getElem?_eq_some_iff.mp hy).1
          (refine xe1 (fun y' zq1 => ?_) (r.get (List.getElem?_eq_getElem (l := xs) (i := k) (by omega))); revert zq1; refine ae2 fun hy' vy' => ?_)
          rw [hy] at hy'; cases hy'
          exact ⟨_, List.getElem?_eq_getElem _, vy'⟩
        (refine xe1 (fun l zq1 => ?_) (l2 k z hz); revert zq1; refine ae2 fun hl2 hl3 => ?_)
        rw [List.getElem?_map, hl2] at hb
        cases hb
        exact eqAt_lists (A := A.in1) R hl3 e2 vz hx (by show A.units + 1 + 64 < cLine; omega)
      · rw [List.getElem?_map, List.getElem?_eq_getElem hj]
        simp
      · rw [List.getElem?_map, List.getElem?_eq_getElem (by omega)]
        simp only [Option.map_some, Option.some.injEq, decide_eq_false_iff_not]
        intro q3
        have := List.not_of_lt_findIdx (p := (· == c)) (xs := ls) (i := m) hm
        simp at this
        exact this q3
      · (refine xe1 (fun n' g1 => ?_) (seq_of_isList (f := (·.eraseIdxIfInBounds (ls.idxOf c))) g rfl))
        refine PU_put (s := s) (tk := s.toks) (o' := .list (xs.eraseIdx (ls.idxOf c))) (X := fun φ' zz => VR φ' .none .none) R hi q (fun zz q => nomatch q) (Heap.SameBut.update ..) g1 ⟨vs.eraseIdx (ls.idxOf c), n', ?_, r.eraseIdx _⟩ .none
        have : ls.idxOf c < vs.length := by omega
        simp [Array.eraseIdxIfInBounds, this]
    · cases e
  · cases e
end
end

section
open PySem PySem.W PyProof.Rows PySem.SeqAt

section
variable {prog : Program} {w : World} {A : Around} {E : Value → Shared → Prop} {s : Shared} {C : Addr} {h₀ : Heap} {F φ : List Addr} {h h' : H}

theorem ints_drop {vs : List Value} {is : List Int} (hi : IntsAre vs is) {i : Nat} : (∃ v t n, vs[i]? = some v ∧ v = .int n t ∧ is.drop i = n :: is.drop (i + 1)) ∨ (vs[i]? = none ∧ is.drop i = []) := by
  have hl := hi.length
  by_cases q : i < is.length
  · (refine xe1 (fun t ht => ?_) (hi.get i is[i] (List.getElem?_eq_getElem q)))
    exact .inl ⟨_, t, is[i], ht, rfl, List.drop_eq_getElem_cons q⟩
  · exact .inr ⟨List.getElem?_eq_none (by omega), List.drop_eq_nil_of_le (by omega)⟩

theorem ls3 {v u a b i : Nat} (h1 : v = a) (h2 : u = b) (h3 : b ≤ i) (h4 : i ≤ a) : ¬ v < u := by omega
theorem ls4 {v u a b i : Nat} (h1 : v = a) (h2 : u = b) (h3 : ¬ b ≤ i) (h4 : a ≤ i) : v < u := by omega
theorem ltLoop_ok {a b : Addr} {vs us : List Value} {is js : List Int} {n m : Nat} {R : Result → Shared → Prop} (ga : s.heap.get? a = some (seqObj "list" (List.toArray vs) n)) (gb : s.heap.get? b = some (seqObj "list" (List.toArray us) m))
    (hi : IntsAre vs is) (hj : IntsAre us js) : ∀ (k i : Nat), is.length - i = k → i ≤ is.length → i ≤ js.length → R (.ok (.ret (.bool (lexLt (is.drop i) (js.drop i))))) s →
      codeAny (model prog w) A (.builtin "list.__eq__.loop" ⟨[.ref a, .ref b, rawInt i, rawInt 0], []⟩) R s := by
  intro k
  induction k with
  | zero =>
    intro i hk h1 h2 h
    refine codeAny_builtin PySem.MeetsSeq3.entry_eq_loop ?_
    rw [Around.under_plainId PySem.MeetsSeq3.plain_eq_loop _]
    have hn : vs[i]? = none := List.getElem?_eq_none (by rw [hi.length]; exact Nat.le_of_sub_eq_zero hk)
    have hd : is.drop i = [] := List.drop_eq_nil_of_le (Nat.le_of_sub_eq_zero hk)
    have hli := hi.length
    have hlj := hj.length
    unfold Builtin.«list.__eq__.loop»
    show wpAny _ _ (Builtin.List.listItems (.ref a) >>= _) _ _ _
    refine wpAny_bind (listItems_at ga rfl (wpAny_bind (listItems_at gb rfl ?_)))
    simp only [rawInt, Int.toNat_natCast, List.getElem?_toArray, hn]
    refine wpAny_bind (listItems_at ga rfl (wpAny_bind (listItems_at gb rfl ?_)))
    refine wpAny_pure ?_
    show R (.ok (.ret (.bool (decide ((List.toArray vs).size < (List.toArray us).size))))) s
    rw [hd] at h
    have e : decide ((List.toArray vs).size < (List.toArray us).size) = lexLt [] (js.drop i) := by
      rw [List.size_toArray, List.size_toArray]
      cases q : js.drop i with
      | nil =>
        have := List.drop_eq_nil_iff.mp q
        simp only [lexLt, decide_eq_false_iff_not]; exact ls3 hli hlj this h1
      | cons x r =>
        have : ¬ js.length ≤ i := fun z => by rw [List.drop_eq_nil_of_le z] at q; cases q
        simp only [lexLt, decide_eq_true_eq]; exact ls4 hli hlj this (Nat.le_of_sub_eq_zero hk)
    rw [e]; exact h
  | succ k ih =>
    intro i hk h1 h2 h
    refine codeAny_builtin PySem.MeetsSeq3.entry_eq_loop ?_
    rw [Around.under_plainId PySem.MeetsSeq3.plain_eq_loop _]
    have hli := hi.length
    have hlj := hj.length
    unfold Builtin.«list.__eq__.loop»
    show wpAny _ _ (Builtin.List.listItems (.ref a) >>= _) _ _ _
    refine wpAny_bind (listItems_at ga rfl (wpAny_bind (listItems_at gb rfl ?_)))
    simp only [rawInt, Int.toNat_natCast, List.getElem?_toArray]
    rcases ints_drop hi (i := i) with ⟨v, t, x, e1, rfl, d1⟩ | ⟨e1, d1⟩
    · rw [e1]
      rcases ints_drop hj (i := i) with ⟨u, t', y, e2, rfl, d2⟩ | ⟨e2, d2⟩
      · rw [e2]
        dsimp only
        refine wpAny_bind (wpAny_eqBool_int ?_)
        rw [d1, d2] at h
        by_cases q : x = y
        · subst q
          simp only [beq_self_eq_true, if_true]
          simp only [lexLt, if_true] at h
          have hj' : i < js.length := by
            rcases Nat.lt_or_ge i js.length with z | z
            · exact z
            · rw [List.drop_eq_nil_of_le z] at d2; cases d2
          exact wpAny_pure ⟨plainId_quiet PySem.MeetsSeq3.plain_eq_loop _, ih (i + 1) (ls1 hk) (ls2 hk) hj' h⟩
        · have qb : (x == y) = false := beq_eq_false_iff_ne.mpr q
          simp only [qb, Bool.false_eq_true, if_false]
          simp only [lexLt, if_neg q] at h
          refine wpAny_bind (listItems_at ga rfl (wpAny_bind (listItems_at gb rfl ?_)))
          simp only [List.getElem?_toArray]
          rw [e1, e2]
          refine wpAny_bind (show wpAny _ _ (richCompare .Lt (.int x t) (.int y t')) _ _ _ from wpAny_lt_int (wpAny_pure h))
      · rw [e2]
        dsimp only
        refine wpAny_bind (listItems_at ga rfl (wpAny_bind (listItems_at gb rfl ?_)))
        refine wpAny_pure ?_
        show R (.ok (.ret (.bool (decide ((List.toArray vs).size < (List.toArray us).size))))) s
        rw [d1, d2] at h
        simp only [lexLt] at h
        rw [List.size_toArray, List.size_toArray, decide_eq_false (ls3 hli hlj (List.drop_eq_nil_iff.mp d2) h1)]
        exact h
    · exfalso
      exact Nat.not_succ_le_self _ (Nat.le_trans (ls2 hk) (List.drop_eq_nil_iff.mp d1))

theorem call_list_lt {a b : Addr} {vs us : List Value} {is js : List Int} {n m : Nat} {Q : Value → Shared → Prop} (ga : s.heap.get? a = some (seqObj "list" (List.toArray vs) n)) (gb : s.heap.get? b = some (seqObj "list" (List.toArray us) m))
    (hi : IntsAre vs is) (hj : IntsAre us js) (h : Q (.bool (lexLt is js)) s) : wpAny (model prog w) A (call (.builtin "list.__lt__") [.ref a, .ref b]) Q E s := by
  refine wpAny_call (codeAny_call_builtin PySem.F.slot_list_lt.plain PySem.F.entry_list_lt (PySem.F.slot_list_lt.check _ _ _ _ _ _ _ _ ⟨_, ga, rfl⟩ (PySem.F.args_list_lt_2 _ _) ?_))
  show wpAny _ _ (isInstance (.ref b) (.type "list") >>= _) _ _ _
  refine wpAny_bind (wpAny_isInstance (T := "list") (b := true) ⟨_, gb, rfl⟩ AutoSeq1.sub_list_list ?_)
  simp only [Bool.not_true, Bool.false_eq_true, if_false]
  refine wpAny_pure ⟨plainId_quiet PySem.MeetsSeq3.plain_eq_loop _, ?_⟩
  exact ltLoop_ok ga gb hi hj _ 0 rfl (Nat.zero_le _) (Nat.zero_le _) h

theorem oneLt_lists {a b : Addr} {vs us : List Value} {is js : List Int} {n m : Nat} {Q : Bool → Shared → Prop} (hu : A.units < cLine) (ga : s.heap.get? a = some (seqObj "list" (List.toArray vs) n)) (gb : s.heap.get? b = some (seqObj "list" (List.toArray us) m))
    (hi : IntsAre vs is) (hj : IntsAre us js) (h : Q (lexLt is js) s) : wpAny (model prog w) A (oneLt' true (.ref a) (.ref b)) Q E s := by
  rw [oneLt'_eq]
  simp only [if_true]
  refine wpAny_bind (wpAny_cRoomFor hu ?_)
  refine wpAny_bind (wpAny_callSpecialIfBound?_slot (name := "__lt__") ⟨_, ga, rfl⟩ PySem.F.slot_list_lt (call_list_lt ga gb hi hj ?_))
  exact wpAny_truthy_bool h
end
end

section
open PySem PySem.W PyProof.Rows PySem.SeqAt

theorem o1 {n f N : Nat} (h : n + (f + 1) ≤ N) : n < N ∧ n - 1 < N ∧ n + 1 + f ≤ N := by omega
theorem o2 {n i j : Nat} (a : n + 1 - (0 + 1) ≤ i) (b : i < n + 1) (c : n + 1 - (0 + 1) ≤ j) (d : j < n + 1) : i = j := by omega
theorem o3 {n : Nat} (h : 1 ≤ n) (q : Nat) : n - (q + 1) ≤ n - 1 ∧ n - 1 < n := by omega
theorem o5 {n f r : Nat} (a : n + 1 ≤ r) (b : r ≤ n + 1 + f) : n ≤ r ∧ r ≤ n + (f + 1) := by omega
theorem o6 {n q j : Nat} (a : n + 1 - (q + 1 + 1) ≤ j) (b : j < n + 1) (c : ¬ j = n) : n - (q + 1) ≤ j ∧ j < n := by omega
theorem o7 {a n i : Nat} (h : a ≤ i ∧ i < n) : a ≤ a + n - 1 - i ∧ a + n - 1 - i < n := by omega
theorem o8 {a n i j : Nat} (c1 : ¬ (a ≤ i ∧ i < n)) (hij : i ≤ j) (c2 : a ≤ j ∧ j < n) : i ≤ a + n - 1 - j := by omega
theorem o11 {n k f : Nat} (h : k + (f + 1) = n) : k < n ∧ k + 1 + f = n := by omega
theorem o12 {l r k : Nat} (h : ¬ l ≥ r) (hr : r ≤ k) : l ≤ (l + r) / 2 ∧ (l + r) / 2 < r ∧ (l + r) / 2 ≤ k ∧ (l + r) / 2 < k ∧ (l + r) / 2 + 1 ≤ r := by omega
theorem o13 {l r f : Nat} (h : ¬ l ≥ r) (h3 : r - l ≤ f + 1) : (l + r) / 2 - l ≤ f ∧ r - ((l + r) / 2 + 1) ≤ f := by omega
theorem o14 {k m : Nat} (h : m ≤ k) : k - (k - m) = m := by omega
theorem o15 {i j m k : Nat} (i2 : m < i ∧ i ≤ k) (hij : i ≤ j) (hj : j < k + 1) : ¬ j = m ∧ (m < j ∧ j ≤ k) ∧ i - 1 ≤ j - 1 ∧ j - 1 < k := by omega
theorem o16 {i j m k : Nat} (i1 : ¬ i = m) (i2 : ¬ (m < i ∧ i ≤ k)) (hij : i ≤ j) (hj : j < k + 1) : i < m := by omega
theorem o17 {i j m k : Nat} (e : i < m) (j2 : m < j ∧ j ≤ k) : i ≤ j - 1 ∧ j - 1 < k := by omega
theorem o18 {j m k : Nat} (j1 : ¬ j = m) (hj : j < k + 1) (j2 : ¬ (m < j ∧ j ≤ k)) (hm : m ≤ k) : j < k := by omega
theorem o19 {j m k : Nat} (j1 : ¬ j = m) (h : m ≤ j) (hj : j < k + 1) : (m < j ∧ j ≤ k) ∧ m ≤ j - 1 ∧ j - 1 < k := by omega
theorem o20 {n N m : Nat} (h2 : n ≤ N) (b : m ≤ n + (N - n)) : m ≤ N := by omega
theorem o21 {n N : Nat} (h2 : n ≤ N) : n + (N - n) = N := by omega
theorem o22 {n N : Nat} (h : n ≤ N) (e : n ≠ N) : n < N ∧ n + 1 ≤ N := by omega
theorem o23 {n : Nat} (h : 1 ≤ n) (h1 : ¬ n > 1) : n = 1 := by omega
theorem o9 {j k : Nat} (h : j < k + 1) (e : ¬ j = k) : j < k := by omega
theorem o10 {i j : Nat} (h : i ≤ j) (e : ¬ i = j) (hk : 1 ≤ j) : i ≤ j - 1 ∧ j - 1 < j := by omega

section sort
variable (lt : Nat → Nat → Bool) (N : Nat)

/- a walk of the sort's tree where the answers are known -/
noncomputable def KP {α : Type} : KasT α → (α → Prop) → Prop
  | .ret a, Q => Q a
  | .ask i j k, Q => i < N ∧ j < N ∧ KP (k (lt i j)) Q

theorem KP_bind {α β : Type} {f : α → KasT β} {Q : β → Prop} : ∀ {t : KasT α}, KP lt N t (fun a => KP lt N (f a) Q) → KP lt N (t.bind f) Q
  | .ret _, h => h
  | .ask i j k, h => ⟨h.1, h.2.1, KP_bind h.2.2⟩
theorem KP_mono {α : Type} {Q Q' : α → Prop} (hq : ∀ a, Q a → Q' a) : ∀ {t : KasT α}, KP lt N t Q → KP lt N t Q'
  | .ret a, h => hq a h
  | .ask _ _ _, h => ⟨h.1, h.2.1, KP_mono hq h.2.2⟩
theorem KP_wp {α : Type} {Q : α → Prop} {cmp : Nat → Nat → (Bool → Shared → Prop) → Shared → Prop} {G : α → Shared → Prop} {s : Shared} (hc : ∀ i j C, i < N → j < N → C (lt i j) s → cmp i j C s) (hq : ∀ a, Q a → G a s) :
    ∀ {t : KasT α}, KP lt N t Q → t.kasWp cmp G s
  | .ret a, h => hq a h
  | .ask i j _, h => hc i j _ h.1 h.2.1 (KP_wp hc hq h.2.2)

noncomputable def le (a b : Nat) : Prop := lt b a = false
structure IsOrd : Prop where
  tr : ∀ a b c, le lt a b → le lt b c → le lt a c
  as : ∀ a b, lt a b = true → le lt a b

noncomputable def Okp (p : Array Nat) : Prop := p.size = N ∧ p.Perm (List.toArray (List.range N))
noncomputable def at0 (p : Array Nat) (i : Nat) : Nat := p.getD i 0
theorem at0_eq (p : Array Nat) (i : Nat) : at0 p i = (p[i]?).getD 0 := by
  unfold at0 Array.getD
  by_cases h : i < p.size <;> simp [h]

variable {lt N}
theorem okp_lt {p : Array Nat} (h : Okp N p) {i : Nat} (hi : i < N) : p.getD i 0 < N := by
  have e : p.getD i 0 = p[i]'(by rw [h.1]; exact hi) := by unfold Array.getD; rw [dif_pos (by rw [h.1]; exact hi)]; rfl
  rw [e]
  have m : p[i]'(by rw [h.1]; exact hi) ∈ p := Array.getElem_mem _
  have := (h.2.mem_iff).mp m
  simpa using this

/- sorted up to k -/
noncomputable def Srt (lt : Nat → Nat → Bool) (p : Array Nat) (k : Nat) : Prop := ∀ i j, i ≤ j → j < k → le lt (at0 p i) (at0 p j)
/- not rising up to k -/
noncomputable def Dsc (lt : Nat → Nat → Bool) (p : Array Nat) (k : Nat) : Prop := ∀ i j, i ≤ j → j < k → le lt (at0 p j) (at0 p i)

theorem le_refl' (O : IsOrd lt) (a : Nat) : le lt a a := by
  unfold le
  cases h : lt a a with
  | false => rfl
  | true => exact absurd (O.as a a h) (by unfold le; rw [h]; simp)
theorem le_of_not (O : IsOrd lt) {a b : Nat} (h : ¬ le lt a b) : le lt b a := by
  unfold le at h
  exact O.as b a (by simpa using h)

theorem Srt.step (O : IsOrd lt) {p : Array Nat} {k : Nat} (h : Srt lt p k) (hk : 1 ≤ k) (hl : le lt (at0 p (k - 1)) (at0 p k)) : Srt lt p (k + 1) := by
  intro i j hij hj
  by_cases e : j = k
  · subst e
    by_cases e2 : i = j
    · subst e2; exact le_refl' O _
    · exact O.tr _ _ _ (h i (j - 1) (o10 hij e2 hk).1 (o10 hij e2 hk).2) hl
  · exact h i j hij (o9 hj e)
theorem Dsc.step (O : IsOrd lt) {p : Array Nat} {k : Nat} (h : Dsc lt p k) (hk : 1 ≤ k) (hl : le lt (at0 p k) (at0 p (k - 1))) : Dsc lt p (k + 1) := by
  intro i j hij hj
  by_cases e : j = k
  · subst e
    by_cases e2 : i = j
    · subst e2; exact le_refl' O _
    · exact O.tr _ _ _ hl (h i (j - 1) (o10 hij e2 hk).1 (o10 hij e2 hk).2)
  · exact h i j hij (o9 hj e)

theorem asc_ok (O : IsOrd lt) {p : Array Nat} (hp : Okp N p) : ∀ (f n : Nat), 1 ≤ n → n + f ≤ N → Srt lt p n →
    KP lt N (kas_asc p f n) fun m => n ≤ m ∧ m ≤ n + f ∧ Srt lt p m ∧ (m < n + f → lt (at0 p m) (at0 p (m - 1)) = true)
  | 0, n, h1, h2, hs => ⟨Nat.le_refl _, Nat.le_refl _, hs, fun h => absurd h (Nat.lt_irrefl _)⟩
  | f + 1, n, h1, h2, hs => by
    have z := o1 h2
    refine ⟨okp_lt hp z.1, okp_lt hp z.2.1, ?_⟩
    cases q : lt (p.getD n 0) (p.getD (n - 1) 0) with
    | true => exact ⟨Nat.le_refl _, Nat.le_add_right .., hs, fun zz => q⟩
    | false =>
      refine KP_mono lt N (fun m hm => ?_) (asc_ok O hp f (n + 1) (Nat.succ_le_succ (Nat.zero_le n)) z.2.2 (hs.step O h1 q))
      exact ⟨(o5 hm.1 hm.2.1).1, (o5 hm.1 hm.2.1).2, hm.2.2.1, fun h => hm.2.2.2 (Nat.add_right_comm n 1 f ▸ h)⟩

theorem rev_at {p : Array Nat} {i j : Nat} (hj : j ≤ p.size) (k : Nat) : at0 (kas_rev p i j) k = if i ≤ k ∧ k < j then at0 p (i + j - 1 - k) else at0 p k := by
  unfold kas_rev
  rw [at0_eq, getElem?_mirror_all (i := i) hj k]
  split <;> rw [at0_eq]
theorem rev_okp {p : Array Nat} (hp : Okp N p) (i j : Nat) : Okp N (kas_rev p i j) := ⟨by rw [kas_rev_size]; exact hp.1, (mirror_perm p i j _).trans hp.2⟩

/- the last q + 1 of the first n stand for the same -/
noncomputable def Eqs (lt : Nat → Nat → Bool) (p : Array Nat) (n q : Nat) : Prop := ∀ i j, n - (q + 1) ≤ i → i < n → n - (q + 1) ≤ j → j < n → le lt (at0 p i) (at0 p j)

theorem Dsc.revEq {p : Array Nat} {n q : Nat} (hn : n ≤ p.size) (h : Dsc lt p n) (e : Eqs lt p n q) : Dsc lt (kas_rev p (n - (q + 1)) n) n := by
  intro i j hij hj
  rw [rev_at hn, rev_at hn]
  by_cases c1 : n - (q + 1) ≤ i ∧ i < n
  · have c2 : n - (q + 1) ≤ j ∧ j < n := ⟨Nat.le_trans c1.1 hij, hj⟩
    rw [if_pos c1, if_pos c2]
    exact e _ _ (o7 c2).1 (o7 c2).2 (o7 c1).1 (o7 c1).2
  · rw [if_neg c1]
    by_cases c2 : n - (q + 1) ≤ j ∧ j < n
    · rw [if_pos c2]
      exact h _ _ (o8 c1 hij c2) (o7 c2).2
    · rw [if_neg c2]; exact h i j hij hj
theorem Srt.revAll {p : Array Nat} {n : Nat} (hn : n ≤ p.size) (h : Dsc lt p n) : Srt lt (kas_rev p 0 n) n := by
  intro i j hij hj
  have ci : 0 ≤ i ∧ i < n := ⟨Nat.zero_le _, Nat.lt_of_le_of_lt hij hj⟩
  rw [rev_at hn, rev_at hn, if_pos ci, if_pos ⟨Nat.zero_le _, hj⟩]
  exact h _ _ (Nat.sub_le_sub_left hij _) (o7 ci).2

theorem desc_ok (O : IsOrd lt) : ∀ (f : Nat) (p : Array Nat) (n q : Nat), Okp N p → 1 ≤ n → q + 1 ≤ n → n + f ≤ N → Dsc lt p n → Eqs lt p n q →
    KP lt N (kas_desc f p n q) fun r => Okp N r.1 ∧ n ≤ r.2.1 ∧ r.2.1 ≤ n + f ∧ r.2.2 + 1 ≤ r.2.1 ∧ Dsc lt r.1 r.2.1 ∧ Eqs lt r.1 r.2.1 r.2.2
  | 0, p, n, q, hp, h1, hq, h2, hd, he => ⟨hp, Nat.le_refl _, Nat.le_refl _, hq, hd, he⟩
  | f + 1, p, n, q, hp, h1, hq, h2, hd, he => by
    have z := o1 h2
    have z1 : 1 ≤ n + 1 := Nat.succ_le_succ (Nat.zero_le n)
    refine ⟨okp_lt hp z.1, okp_lt hp z.2.1, ?_⟩
    have hsz : n ≤ p.size := hp.1 ▸ Nat.le_of_lt z.1
    have one : ∀ (p' : Array Nat), Eqs lt p' (n + 1) 0 := fun p' i j a b c d => o2 a b c d ▸ le_refl' O _
    cases c : lt (p.getD n 0) (p.getD (n - 1) 0) with
    | true =>
      dsimp only
      rw [if_pos rfl]
      by_cases hq0 : q > 0
      · rw [if_pos hq0]
        have hn : at0 (kas_rev p (n - (q + 1)) n) n = at0 p n := by rw [rev_at hsz, if_neg fun z => Nat.lt_irrefl _ z.2]
        have hl : le lt (at0 (kas_rev p (n - (q + 1)) n) n) (at0 (kas_rev p (n - (q + 1)) n) (n - 1)) := by
          have y := o3 h1 q
          rw [hn, rev_at hsz, if_pos y]
          exact O.tr _ _ _ (O.as _ _ c) (he _ _ y.1 y.2 (o7 y).1 (o7 y).2)
        refine KP_mono lt N (fun r hr => ?_) (desc_ok O f _ (n + 1) 0 (rev_okp hp _ _) z1 z1 z.2.2 ((hd.revEq hsz he).step O h1 hl) (one _))
        exact ⟨hr.1, (o5 hr.2.1 hr.2.2.1).1, (o5 hr.2.1 hr.2.2.1).2, hr.2.2.2.1, hr.2.2.2.2⟩
      · rw [if_neg hq0]
        refine KP_mono lt N (fun r hr => ?_) (desc_ok O f _ (n + 1) 0 hp z1 z1 z.2.2 (hd.step O h1 (O.as _ _ c)) (one _))
        exact ⟨hr.1, (o5 hr.2.1 hr.2.2.1).1, (o5 hr.2.1 hr.2.2.1).2, hr.2.2.2.1, hr.2.2.2.2⟩
    | false =>
      dsimp only
      rw [if_neg (by simp)]
      refine ⟨okp_lt hp z.2.1, okp_lt hp z.1, ?_⟩
      cases d : lt (p.getD (n - 1) 0) (p.getD n 0) with
      | true => exact ⟨hp, Nat.le_refl _, Nat.le_add_right _ _, hq, hd, he⟩
      | false =>
        dsimp only
        rw [if_neg (by simp)]
        have c' : le lt (at0 p (n - 1)) (at0 p n) := c
        have d' : le lt (at0 p n) (at0 p (n - 1)) := d
        have he' : Eqs lt p (n + 1) (q + 1) := fun i j a1 a2 a3 a4 => by
          by_cases ei : i = n
          · subst ei
            by_cases ej : j = i
            · subst ej; exact le_refl' O _
            · exact O.tr _ _ _ d' (he _ _ (o3 h1 q).1 (o3 h1 q).2 (o6 a3 a4 ej).1 (o6 a3 a4 ej).2)
          · by_cases ej : j = n
            · subst ej
              exact O.tr _ _ _ (he i (j - 1) (o6 a1 a2 ei).1 (o6 a1 a2 ei).2 (o3 h1 q).1 (o3 h1 q).2) c'
            · exact he i j (o6 a1 a2 ei).1 (o6 a1 a2 ei).2 (o6 a3 a4 ej).1 (o6 a3 a4 ej).2
        refine KP_mono lt N (fun r hr => ?_) (desc_ok O f p (n + 1) (q + 1) hp z1 (Nat.succ_le_succ hq) z.2.2 (hd.step O h1 d') he')
        exact ⟨hr.1, (o5 hr.2.1 hr.2.2.1).1, (o5 hr.2.1 hr.2.2.1).2, hr.2.2.2.1, hr.2.2.2.2⟩

/- what the look for a first run gives -/
noncomputable def Run (lt : Nat → Nat → Bool) (N : Nat) (r : Nat × Array Nat) : Prop := Okp N r.2 ∧ 1 ≤ r.1 ∧ r.1 ≤ N ∧ Srt lt r.2 r.1

theorem tail3_ok (O : IsOrd lt) {p : Array Nat} {n : Nat} (hp : Okp N p) (h1 : 1 ≤ n) (h2 : n ≤ N) (hd : Dsc lt p n) : KP lt N (kas_tail3 n N p) (Run lt N) := by
  unfold kas_tail3
  refine KP_bind lt N (KP_mono lt N (fun m hm => ?_) (asc_ok O (rev_okp hp 0 n) (N - n) n h1 (Nat.le_of_eq (o21 h2)) (Srt.revAll (by rw [hp.1]; exact h2) hd)))
  exact ⟨rev_okp hp 0 n, Nat.le_trans h1 hm.1, o20 h2 hm.2.1, hm.2.2.1⟩

theorem descPart_ok (O : IsOrd lt) {p : Array Nat} {n : Nat} (hp : Okp N p) (h1 : 1 ≤ n) (h2 : n + 1 ≤ N) (hd : Dsc lt p (n + 1)) : KP lt N (kas_descPart n N p) (Run lt N) := by
  unfold kas_descPart
  have one : Eqs lt p (n + 1) 0 := fun i j a b c d => o2 a b c d ▸ le_refl' O _
  have z1 : 1 ≤ n + 1 := Nat.succ_le_succ (Nat.zero_le n)
  refine KP_bind lt N (KP_mono lt N (fun r hr => ?_) (desc_ok O (N - (n + 1)) p (n + 1) 0 hp z1 z1 (Nat.le_of_eq (o21 h2)) hd one))
  (revert hr; refine ae6 fun a1 a2 a3 a4 a5 a6 => ?_)
  have b1 := Nat.le_trans z1 a2
  have b2 := o20 h2 a3
  split
  · exact tail3_ok O (rev_okp a1 _ _) b1 b2 (a5.revEq (by rw [a1.1]; exact b2) a6)
  · exact tail3_ok O a1 b1 b2 a5

theorem count_ok (O : IsOrd lt) {p : Array Nat} (hp : Okp N p) (h1 : 1 ≤ N) : KP lt N (kas_count N p) (Run lt N) := by
  unfold kas_count
  have all1 : ∀ i j, i ≤ j → j < 1 → i = j := fun i j a b => by omega
  have s1 : Srt lt p 1 := fun i j a b => all1 i j a b ▸ le_refl' O _
  refine KP_bind lt N (KP_mono lt N (fun n hn => ?_) (asc_ok O hp (N - 1) 1 (Nat.le_refl _) (Nat.le_of_eq (o21 h1)) s1))
  (revert hn; refine ae4 fun a1 a2 a3 a4 => ?_)
  rw [o21 h1] at a2 a4
  by_cases e : (n == N) = true
  · rw [if_pos e]; exact ⟨hp, a1, a2, a3⟩
  · rw [if_neg e]
    have hne : n ≠ N := fun q => e (by simp [q])
    have z := o22 a2 hne
    have st := a4 z.1
    by_cases e1 : n > 1
    · rw [if_pos e1]
      have pn : n - 1 < n := Nat.sub_lt a1 Nat.one_pos
      refine ⟨okp_lt hp (Nat.lt_of_lt_of_le (Nat.lt_of_lt_of_le Nat.one_pos a1) a2), okp_lt hp (Nat.lt_trans pn z.1), ?_⟩
      cases c : lt (p.getD 0 0) (p.getD (n - 1) 0) with
      | true => exact ⟨hp, a1, a2, a3⟩
      | false =>
        dsimp only
        rw [if_neg (by simp)]
        have c' : le lt (at0 p (n - 1)) (at0 p 0) := c
        have hsz : n ≤ p.size := hp.1 ▸ a2
        have all : ∀ i j, i < n → j < n → le lt (at0 p i) (at0 p j) := fun i j x y => O.tr _ _ _ (a3 i (n - 1) (Nat.le_sub_one_of_lt x) pn) (O.tr _ _ _ c' (a3 0 j (Nat.zero_le _) y))
        refine descPart_ok O (rev_okp hp _ _) a1 z.2 ?_
        have hd : Dsc lt (kas_rev p 0 n) n := fun i j x y => by
          have ci : 0 ≤ i ∧ i < n := ⟨Nat.zero_le _, Nat.lt_of_le_of_lt x y⟩
          have cj : 0 ≤ j ∧ j < n := ⟨Nat.zero_le _, y⟩
          rw [rev_at hsz, rev_at hsz, if_pos cj, if_pos ci]
          exact all _ _ (o7 cj).2 (o7 ci).2
        refine hd.step O a1 ?_
        have cp : 0 ≤ n - 1 ∧ n - 1 < n := ⟨Nat.zero_le _, pn⟩
        rw [rev_at hsz, rev_at hsz, if_neg fun z => Nat.lt_irrefl _ z.2, if_pos cp]
        exact O.tr _ _ _ (O.as _ _ st) (all _ _ pn (o7 cp).2)
    · rw [if_neg e1]
      have e := o23 a1 e1
      subst e
      have hd : Dsc lt p 1 := fun i j a b => all1 i j a b ▸ le_refl' O _
      exact descPart_ok O hp a1 z.2 (hd.step O a1 (O.as _ _ st))

theorem place_ok (O : IsOrd lt) {p : Array Nat} {k : Nat} (hp : Okp N p) (hk : k < N) (hs : Srt lt p k) : ∀ (f l r : Nat), l ≤ r → r ≤ k → r - l ≤ f → (∀ i, i < l → le lt (at0 p i) (at0 p k)) → (∀ i, r ≤ i → i < k → le lt (at0 p k) (at0 p i)) →
    KP lt N (kas_place p k f l r) fun m => m ≤ k ∧ (∀ i, i < m → le lt (at0 p i) (at0 p k)) ∧ (∀ i, m ≤ i → i < k → le lt (at0 p k) (at0 p i))
  | 0, l, r, h1, h2, h3, a, b => by
    have : l = r := by omega
    subst this
    exact ⟨h2, a, b⟩
  | f + 1, l, r, h1, h2, h3, a, b => by
    unfold kas_place
    by_cases c : l ≥ r
    · rw [if_pos c]
      have : l = r := by omega
      subst this
      exact ⟨h2, a, b⟩
    · rw [if_neg c]
      have z := o12 c h2
      have y := o13 c h3
      refine ⟨okp_lt hp hk, okp_lt hp (Nat.lt_trans z.2.2.2.1 hk), ?_⟩
      cases d : lt (p.getD k 0) (p.getD ((l + r) / 2) 0) with
      | true =>
        dsimp only
        rw [if_pos rfl]
        refine place_ok O hp hk hs f l ((l + r) / 2) z.1 z.2.2.1 y.1 a fun i x y => ?_
        exact O.tr _ _ _ (O.as _ _ d) (hs _ _ x y)
      | false =>
        dsimp only
        rw [if_neg (by simp)]
        refine place_ok O hp hk hs f ((l + r) / 2 + 1) r z.2.2.2.2 h2 y.2 (fun i x => ?_) b
        exact O.tr _ _ _ (hs i ((l + r) / 2) (Nat.le_of_lt_succ x) z.2.2.2.1) d

theorem bubble_at {p : Array Nat} {src d : Nat} (hs : src < p.size) (hd : d ≤ src) (k : Nat) : at0 (bubble p src d) k = if k = src - d then at0 p src else if src - d < k ∧ k ≤ src then at0 p (k - 1) else at0 p k := by
  rw [at0_eq, getElem?_bubble hs d hd k]
  split
  · rw [at0_eq]
  · split <;> rw [at0_eq]

theorem bin_ok (O : IsOrd lt) : ∀ (f : Nat) (p : Array Nat) (k : Nat), Okp N p → k + f = N → Srt lt p k → KP lt N (kas_bin f p k) fun r => Okp N r ∧ Srt lt r N
  | 0, p, k, hp, hk, hs => by
    have : k = N := by omega
    subst this
    exact ⟨hp, hs⟩
  | f + 1, p, k, hp, hk, hs => by
    unfold kas_bin
    have hsz := hp.1
    have z := o11 hk
    have hkp : k < p.size := hsz ▸ z.1
    refine KP_bind lt N (KP_mono lt N (fun m hm => ?_) (place_ok O hp z.1 hs k 0 k (Nat.zero_le _) (Nat.le_refl _) (Nat.sub_le ..) (fun i h => absurd h (Nat.not_lt_zero _)) (fun i h1 h2 => absurd h2 (Nat.not_lt.mpr h1))))
    (revert hm; refine ae3 fun m1 m2 m3 => ?_)
    refine bin_ok O f _ (k + 1) ⟨by rw [bubble_size]; exact hsz, (bubble_perm p k _).trans hp.2⟩ z.2 fun i j hij hj => ?_
    rw [bubble_at hkp (Nat.sub_le ..), bubble_at hkp (Nat.sub_le ..), o14 m1]
    by_cases i1 : i = m
    · rw [if_pos i1]
      by_cases j1 : j = m
      · rw [if_pos j1]; exact le_refl' O _
      · have y := o19 j1 (i1 ▸ hij) hj
        rw [if_neg j1, if_pos y.1]; exact m3 _ y.2.1 y.2.2
    · rw [if_neg i1]
      by_cases i2 : m < i ∧ i ≤ k
      · have y := o15 i2 hij hj
        rw [if_pos i2, if_neg y.1, if_pos y.2.1]; exact hs _ _ y.2.2.1 y.2.2.2
      · rw [if_neg i2]
        by_cases j1 : j = m
        · rw [if_pos j1]; exact m2 _ (o16 i1 i2 hij hj)
        · rw [if_neg j1]
          by_cases j2 : m < j ∧ j ≤ k
          · rw [if_pos j2]; exact hs _ _ (o17 (o16 i1 i2 hij hj) j2).1 (o17 (o16 i1 i2 hij hj) j2).2
          · rw [if_neg j2]; exact hs _ _ hij (o18 j1 hj j2 m1)

theorem sort_ok (O : IsOrd lt) (h1 : 1 ≤ N) : KP lt N (kas_sort N) fun r => Okp N r ∧ Srt lt r N := by
  unfold kas_sort
  refine KP_bind lt N (KP_mono lt N (fun r hr => ?_) (count_ok O (p := List.toArray (List.range N)) ⟨by simp, Array.Perm.refl _⟩ h1))
  (revert hr; refine ae4 fun a1 a2 a3 a4 => ?_)
  split
  · rename_i c
    have : max r.1 1 = r.1 := by omega
    rw [this]
    exact bin_ok O _ _ _ a1 (by omega) a4
  · rename_i c
    have e : r.1 = N := by omega
    rw [e] at a4
    exact ⟨a1, a4⟩
end sort
end

section
open PySem PySem.W PyProof.Rows PySem.SeqAt

theorem sortI_eq {a b : List Int} (p : a.Perm b) (h : a.Pairwise (· ≤ ·)) : a = sortI b := by
  refine ksm_same (p.trans (List.mergeSort_perm b _).symm) h ?_
  have := List.pairwise_mergeSort (le := fun a b : Int => decide (a ≤ b)) (fun a b c h1 h2 => by simp at *; omega) (fun a b => by simp; omega) b
  exact this.imp fun h => by simpa using h

theorem lexLt_irr : ∀ a : List Int, lexLt a a = false
  | [] => rfl
  | x :: xs => by simp [lexLt, lexLt_irr xs]
theorem lexLt_as : ∀ a b : List Int, lexLt a b = true → lexLt b a = false
  | [], [], h => by simp [lexLt] at h
  | [], _ :: _, _ => rfl
  | _ :: _, [], h => by simp [lexLt] at h
  | x :: xs, y :: ys, h => by
    simp only [lexLt] at h ⊢
    by_cases e : x = y
    · subst e; simp only [if_true] at h ⊢; exact lexLt_as xs ys h
    · rw [if_neg e] at h
      rw [if_neg (fun q => e q.symm)]
      simp at h ⊢; omega
theorem lexLt_anti : ∀ a b : List Int, lexLt a b = false → lexLt b a = false → a = b
  | [], [], _, _ => rfl
  | [], _ :: _, h, _ => by simp [lexLt] at h
  | _ :: _, [], _, h => by simp [lexLt] at h
  | x :: xs, y :: ys, h, h' => by
    simp only [lexLt] at h h'
    by_cases e : x = y
    · subst e; simp only [if_true] at h h'; rw [lexLt_anti xs ys h h']
    · rw [if_neg e] at h
      rw [if_neg (fun q => e q.symm)] at h'
      simp at h h'; omega
/- not more, and not more: not more -/
theorem lexLt_tr : ∀ a b c : List Int, lexLt b a = false → lexLt c b = false → lexLt c a = false
  | [], [], [], _, _ => rfl
  | [], [], _ :: _, _, _ => by simp [lexLt]
  | [], _ :: _, [], _, h => by simp [lexLt] at h
  | [], _ :: _, _ :: _, _, _ => by simp [lexLt]
  | _ :: _, [], _, h, _ => by simp [lexLt] at h
  | _ :: _, _ :: _, [], _, h => by simp [lexLt] at h
  | x :: xs, y :: ys, z :: zs, h, h' => by
    simp only [lexLt] at h h' ⊢
    by_cases e1 : y = x
    · subst e1
      simp only [if_true] at h
      by_cases e2 : z = y
      · subst e2; simp only [if_true] at h' ⊢; exact lexLt_tr xs ys zs h h'
      · rw [if_neg e2] at h' ⊢; exact h'
    · rw [if_neg e1] at h
      simp at h
      by_cases e2 : z = y
      · subst e2; rw [if_neg e1]; simp; exact h
      · rw [if_neg e2] at h'
        simp at h'
        rw [if_neg (by omega)]
        simp; omega

theorem lex_ord (key : Nat → List Int) : IsOrd (fun i j => lexLt (key i) (key j)) :=
  ⟨fun a b c h1 h2 => lexLt_tr (key a) (key b) (key c) h1 h2, fun a b h => lexLt_as (key a) (key b) h⟩

theorem mem_zip_getD {α β : Type} {a : α} {b : β} : ∀ {xs : List α} {ys : List β}, xs.length = ys.length → (List.range xs.length).map (fun i => (xs.getD i a, ys.getD i b)) = xs.zip ys
  | [], [], _ => rfl
  | x :: xs, y :: ys, h => by
    simp only [List.length_cons, Nat.add_right_cancel_iff] at h
    rw [List.length_cons, List.range_succ_eq_map, List.map_cons, List.map_map]
    have := mem_zip_getD (a := a) (b := b) h
    rw [List.zip_cons_cons, ← this]
    rfl

theorem nodup_inj {α : Type} {l : List α} (h : l.Nodup) {i j : Nat} {x : α} (hi : l[i]? = some x) (hj : l[j]? = some x) : i = j :=
  (List.getElem?_inj (List.getElem?_eq_some_iff.mp hi).1 h).mp (hi.trans hj.symm)

/- a permutation that sorts distinct keys is THE sorting -/
theorem sortP_eq {ls : List (List Int)} {xs : List V} (hl : ls.length = xs.length) (nd : ls.Nodup) {p : Array Nat} (hp : Okp ls.length p) (hs : Srt (fun i j => lexLt (ls.getD i []) (ls.getD j [])) p ls.length) :
    p.toList.map (fun i => xs.getD i .none) = (sortP (ls.zip xs)).map (·.2) := by
  have key : p.toList.map (fun i => (ls.getD i [], xs.getD i V.none)) = sortP (ls.zip xs) := by
    refine List.Perm.eq_of_pairwise (le := fun a b => lexLt b.1 a.1 = false) ?_ ?_ ?_ ?_
    · intro a b ha hb h1 h2
      have e1 := lexLt_anti _ _ h2 h1
      have ma : a ∈ ls.zip xs := by
        rw [← mem_zip_getD (a := []) (b := V.none) hl]
        (refine xe1 (fun i zq1 => ?_) (List.mem_map.mp ha); revert zq1; refine ae2 fun hi zq2 => ?_; subst zq2)
        refine List.mem_map.mpr ⟨i, ?_, rfl⟩
        have := (hp.2.mem_iff (a := i)).mp (Array.mem_toList_iff.mp hi)
        simpa using this
      have mb : b ∈ ls.zip xs := (List.mergeSort_perm _ _).mem_iff.mp hb
      (refine xe1 (fun i hi => ?_) (List.mem_iff_getElem?.mp ma))
      (refine xe1 (fun j hj => ?_) (List.mem_iff_getElem?.mp mb))
      rw [List.getElem?_zip_eq_some] at hi hj
      have : i = j := nodup_inj nd hi.1 (by rw [e1]; exact hj.1)
      subst this
      rw [hi.2] at hj
      exact Prod.ext e1 (Option.some.inj hj.2)
    · rw [List.pairwise_map]
      rw [List.pairwise_iff_getElem]
      intro i j hi hj hij
      have hsz := hp.1
      have h1 : at0 p i = p.toList[i] := by rw [at0_eq]; simp at hi; simp [hi]
      have h2 : at0 p j = p.toList[j] := by rw [at0_eq]; simp at hj; simp [hj]
      have := hs i j (Nat.le_of_lt hij) (by simp at hj; omega)
      rw [h1, h2] at this
      exact this
    · have := List.pairwise_mergeSort (le := fun a b : List Int × V => !lexLt b.1 a.1) (fun a b c h1 h2 => by
          simp only [Bool.not_eq_true'] at *; exact lexLt_tr _ _ _ h1 h2) (fun a b => by
          cases q : lexLt b.1 a.1 with
          | false => rfl
          | true => simp [lexLt_as _ _ q]) (ls.zip xs)
      exact this.imp fun h => by simpa using h
    · refine List.Perm.trans ?_ (List.mergeSort_perm _ _).symm
      rw [← mem_zip_getD (a := []) (b := V.none) hl]
      refine List.Perm.map _ ?_
      have := hp.2
      have h2 := Array.perm_iff_toList_perm.mp this
      simpa using h2
  rw [← key, List.map_map]
  rfl

section
variable {prog : Program} {w : World} {A : Around} {E : Value → Shared → Prop} {s : Shared} {C : Addr} {h₀ : Heap} {F φ : List Addr} {h h' : H}

theorem ints_vrs : ∀ {is : List Int} {vs : List Value}, IntsAre vs is → VRs φ (is.map .int) vs
  | _, _, .nil => .nil
  | _, _, .cons _ _ t => .cons (.int _ _) (ints_vrs t)

theorem zip_few {vs : List Value} (h2 : vs.length < 2) : ((List.toArray vs).zip (List.toArray vs)).map (·.2) = List.toArray ((List.toArray (List.range vs.length)).toList.map fun i => vs.getD i Value.none) := by
  cases vs with
  | nil => simp
  | cons v vs =>
    cases vs with
    | nil => simp [List.range_succ]
    | cons _ _ => exact absurd h2 (by simp)
/- list.sort upon a list of lists of ints -/
theorem list_sort_lists {a : Addr} {vs : List Value} {ls : List (List Int)} {n : Nat} {P : PySem.Fin → Shared → Prop} (hu : A.units < cLine) (ho : s.heap.get? a = some (seqObj "list" (List.toArray vs) n)) (hl : ls.length = vs.length) (h64 : vs.length < 64)
    (hr : ∀ (i : Nat) (v : Value), vs[i]? = some v → ∃ b us m is, v = .ref b ∧ b ≠ a ∧ s.heap.get? b = some (seqObj "list" (List.toArray us) m) ∧ IntsAre us is ∧ ls[i]? = some is)
    (hP : ∀ p : Array Nat, Okp ls.length p → Srt (fun i j => lexLt (ls.getD i []) (ls.getD j [])) p ls.length → P (.done (.ret .none)) { s with heap := sortedHeap s.heap a vs (List.toArray (p.toList.map fun i => vs.getD i Value.none)) }) :
    wpAny (model prog w) A (Builtin.«list.sort» ⟨[.ref a], []⟩) P E s := by
  rw [list_sort_plain]
  have ha : a < s.heap.objs.size := Heap.lt_size ho
  refine wpAny_bind (listItems_at ho rfl ?_)
  refine wpAny_bind (listUpdate_at ho rfl ?_ (by rw [List.size_toArray, sizeLine_eq]; omega) (Nat.zero_le _))
  obtain ⟨e1, ho1⟩ : ∃ e1, (s.heap.update a (Obj.mapSeq fun zz => (#[] : Array Value))).get? a = some (seqObj "list" #[] e1) := ⟨_, get?_update_seq ho (fun zz => #[])⟩
  refine wpAny_bind (seqEpoch_at ho1 rfl ?_)
  refine wpAny_bind (wpAny_newTuple ?_ (by show vs.length ≤ _; rw [sizeLine_eq]; omega))
  refine wpAny_bind (wpAny_newList ?_ (Nat.zero_le _))
  refine wpAny_holding ?_
  have ho6 : (((s.heap.update a (Obj.mapSeq fun zz => (#[] : Array Value))).push (seqObj "tuple" (List.toArray vs) 0)).push (seqObj "list" #[] 0)).get? a = some (seqObj "list" #[] e1) :=
    Heap.get?_push_of_some _ (Heap.get?_push_of_some _ ho1)
  show wpAny (model prog w) A _ P E { s with heap := ((s.heap.update a (Obj.mapSeq fun zz => #[])).push (seqObj "tuple" (List.toArray vs) 0)).push (seqObj "list" #[] 0) }
  dsimp only
  have keep : ∀ b o, b ≠ a → s.heap.get? b = some o → (((s.heap.update a (Obj.mapSeq fun zz => (#[] : Array Value))).push (seqObj "tuple" (List.toArray vs) 0)).push (seqObj "list" #[] 0)).get? b = some o := fun b o hb e =>
    Heap.get?_push_of_some _ (Heap.get?_push_of_some _ ((Heap.get?_update_ne _ _ _ _ hb).trans e))
  have hP : ∀ p : Array Nat, Okp ls.length p → Srt (fun i j => lexLt (ls.getD i []) (ls.getD j [])) p ls.length → P (.done (.ret .none)) { s with heap := Heap.update (((s.heap.update a (Obj.mapSeq fun zz => (#[] : Array Value))).push (seqObj "tuple" (List.toArray vs) 0)).push (seqObj "list" #[] 0)) a (Obj.mapSeq fun zz => List.toArray (p.toList.map fun i => vs.getD i Value.none)) } := hP
  clear ho1 ho
  generalize ((s.heap.update a (Obj.mapSeq fun zz => (#[] : Array Value))).push (seqObj "tuple" (List.toArray vs) 0)).push (seqObj "list" #[] 0) = hp at ho6 keep hP ⊢
  have fin : ∀ (st' : SortSt) (p : Array Nat), (arrOf st').map (·.2) = List.toArray (p.toList.map fun i => vs.getD i Value.none) → failedOf st' = none → Okp ls.length p → Srt (fun i j => lexLt (ls.getD i []) (ls.getD j [])) p ls.length →
      wpAny (model prog w) A (do
        let touched := (← seqEpoch a) != e1
        Builtin.List.listUpdate (.ref a) fun zz => (arrOf st').map (·.2)
        if let some e := failedOf st' then rule "list.sort.comparison-raised"; throw e
        if touched then rule "list.sort.modified"; raiseError "ValueError" "list modified during sort"
        ret .none) P E { s with heap := hp } := by
    intro st' p ho2 hf hp hs
    refine wpAny_bind (seqEpoch_at ho6 rfl ?_)
    rw [ho2]
    refine wpAny_bind (listUpdate_at ho6 rfl ?_ (Nat.zero_le _) (by rw [List.size_toArray, List.length_map, Array.length_toList, hp.1, sizeLine_eq]; omega))
    rw [hf]
    simp only [bne_self_eq_false, Bool.false_eq_true, if_false]
    exact wpAny_pure (hP p hp hs)
  by_cases h2 : (List.toArray vs).size < 2
  · rw [if_pos h2, if_pos h2]
    refine wpAny_bind (wpAny_pure ?_)
    rw [StateT.run_pure]
    refine wpAny_bind (wpAny_pure ?_)
    rw [List.size_toArray] at h2
    refine fin (SortSt.mk' general' ((List.toArray vs).zip (List.toArray vs)) #[] 7 none) (List.toArray (List.range ls.length)) ?_ rfl ⟨by simp, Array.Perm.refl _⟩ ?_
    · show ((List.toArray vs).zip (List.toArray vs)).map (·.2) = _
      rw [hl]
      exact zip_few h2
    · intro i j hij hj
      have : i = j := by omega
      subst this
      exact lexLt_irr _
  · rw [if_neg h2, if_neg h2]
    rw [List.size_toArray] at h2
    refine wpAny_bind (kas_kind (s := { s with heap := hp }) (T := .type "list") (by omega) (fun v hv => ?_) (by decide) (by decide) ?_)
    · (refine xe1 (fun i hi => ?_) (List.mem_iff_getElem?.mp hv))
      (refine xe4 (fun b us m is zq1 => ?_) (hr i v hi); revert zq1; refine ae2 fun zq2 zq3 => ?_; subst zq2; revert zq3; refine ae3 fun hb g zz => ?_)
      exact (Looks.ld (part := none) (keep b _ hb g)).andThen .now
    · refine wpAny_bind (wpAny_mono (kat_run (ks := vs) (κ := oneType') (Q := fun st' s' => s' = { s with heap := hp } ∧
            ∃ p : Array Nat, (arrOf st').map (·.2) = List.toArray (p.toList.map fun i => vs.getD i Value.none) ∧ failedOf st' = none ∧ Okp ls.length p ∧ Srt (fun i j => lexLt (ls.getD i []) (ls.getD j [])) p ls.length)
          (G := fun p s' => s' = { s with heap := hp } ∧ Okp ls.length p ∧ Srt (fun i j => lexLt (ls.getD i []) (ls.getD j [])) p ls.length)
          rfl (by omega) h64 (fun p st' s' q1 q2 q3 q4 => ⟨q4.1, p, kat_snds rfl q2, q3, q4.2.1, q4.2.2⟩) ?_) ?_ fun zz zz e => e)
      · rw [← hl]
        refine KP_wp (fun i j => lexLt (ls.getD i []) (ls.getD j [])) ls.length (fun i j Cc hi hj hc => ?_) (fun p hp => ⟨rfl, hp.1, hp.2⟩) (sort_ok (lex_ord fun i => ls.getD i []) (by omega))
        have gi : vs[i]? = some (vs[i]'(by omega)) := List.getElem?_eq_getElem _
        have gj : vs[j]? = some (vs[j]'(by omega)) := List.getElem?_eq_getElem _
        (refine xe4 (fun b1 us1 m1 is1 zq1 => ?_) (hr i _ gi); revert zq1; refine ae5 fun v1 n1 g1 i1 l1 => ?_)
        (refine xe4 (fun b2 us2 m2 is2 zq1 => ?_) (hr j _ gj); revert zq1; refine ae5 fun v2 n2 g2 i2 l2 => ?_)
        have d1 : vs.getD i Value.none = .ref b1 := by rw [List.getD_eq_getElem?_getD, gi, v1]; rfl
        have d2 : vs.getD j Value.none = .ref b2 := by rw [List.getD_eq_getElem?_getD, gj, v2]; rfl
        have k1 : ls.getD i [] = is1 := by rw [List.getD_eq_getElem?_getD, l1]; rfl
        have k2 : ls.getD j [] = is2 := by rw [List.getD_eq_getElem?_getD, l2]; rfl
        unfold kas_ask
        rw [d1, d2, keyLt'_oneType]
        rw [k1, k2] at hc
        exact oneLt_lists hu (keep _ _ n1 g1) (keep _ _ n2 g2) i1 i2 hc
      · intro u s' q
        (revert q; refine ae2 fun q0 zq1 => ?_; revert zq1; refine xe1 fun p zq2 => ?_; revert zq2; refine ae4 fun q1 q2 q3 q4 => ?_)
        subst q0
        exact fin u.2 p q1 q2 q3 q4

/- the road of sorted upon a list, its sort shown -/
theorem sorted_road {x : Addr} {vs : List Value} {Q : Value → Shared → Prop} (hl : s.heap.IsList x (List.toArray vs)) (h64 : vs.length < 64)
    (hS : ∀ hp : Heap, (∀ b o, s.heap.get? b = some o → hp.get? b = some o) → hp.get? (s.heap.objs.size + 1) = some (seqObj "list" (List.toArray vs) 0) → hp.objs.size = s.heap.objs.size + 2 →
      wpAny (model prog w) A.in1.in1 (Builtin.«list.sort» ⟨[.ref (s.heap.objs.size + 1)], []⟩) (fun fin s' => fin = .done (.ret .none) ∧ Q (.ref (s.heap.objs.size + 1)) s') E { s with heap := hp }) :
    wpAny (model prog w) A (call (.builtin "sorted") [.ref x]) Q E s := by
  refine Calls.call_function_entry kind_sorted plain_sorted entry_sorted (args_sorted1 _) ?_
  unfold Builtin.«sorted»
  refine wpAny_bind (m := checkCount "sorted" 1 1 _) (wpAny_pure ?_)
  refine wpAny_bind (collect_list hl ?_ (by rw [sizeLine_eq]; omega))
  refine wpAny_bind (wpAny_newList ?_ (by rw [sizeLine_eq]; omega))
  have hsz : ((s.heap.push (seqObj "list" #[] 0)).update s.heap.objs.size (Obj.mapSeq (· ++ List.toArray vs))).objs.size = s.heap.objs.size + 1 := by
    rw [Heap.size_update, size_push']
  have hoL : (((s.heap.push (seqObj "list" #[] 0)).update s.heap.objs.size (Obj.mapSeq (· ++ List.toArray vs))).push (seqObj "list" (List.toArray vs) 0)).get? (s.heap.objs.size + 1) = some (seqObj "list" (List.toArray vs) 0) := by
    rw [← hsz]; exact Heap.get?_push_size _ rfl
  show wpAny _ _ _ _ _ { s with heap := ((s.heap.push (seqObj "list" #[] 0)).update s.heap.objs.size (Obj.mapSeq (· ++ List.toArray vs))).push (seqObj "list" (List.toArray vs) 0) }
  rw [hsz]
  have k1 := hS _ (fun b o e => Heap.get?_push_of_some _ ((Heap.get?_update_ne _ _ _ _ (Nat.ne_of_lt (Heap.lt_size e))).trans (Heap.get?_push_of_some _ e))) hoL (by rw [size_push', hsz])
  refine wpAny_bind (wpAny_holding (wpAny_call_entry slot_list_sort ⟨_, hoL, rfl⟩ entry_list_sort (wpAny_mono k1 (fun fin s' q => ?_) fun zz zz e => e) (args_list_sort _)))
  (revert q; refine ae2 fun zq1 q => ?_; subst zq1)
  exact ⟨_, rfl, wpAny_pure ⟨_, rfl, q⟩⟩

theorem vrs_getD {xs : List V} {vs : List Value} (r : VRs φ xs vs) : ∀ l : List Nat, (∀ i ∈ l, i < xs.length) → VRs φ (l.map fun i => xs.getD i .none) (l.map fun i => vs.getD i Value.none)
  | [], _ => .nil
  | i :: l, hl => by
    have hi := hl i (.head _)
    (refine xe1 (fun y zq1 => ?_) (r.get (List.getElem?_eq_getElem hi)); revert zq1; refine ae2 fun hy hv => ?_)
    refine .cons ?_ (vrs_getD r l fun j hj => hl j (.tail _ hj))
    show VR φ (xs.getD i .none) (vs.getD i Value.none)
    rw [List.getD_eq_getElem?_getD, List.getD_eq_getElem?_getD, hy, List.getElem?_eq_getElem hi]
    exact hv

set_option tactic.hygienic true in
theorem sorted_ok {a v : V} {ra : Value} (hh : A.handled = none) (hs : 1 < h₀.objs.size) (hu : A.units + 2 < cLine) (z : h₀.objs.size ≤ s.heap.objs.size) (R : Rel C h₀ φ h s.heap) (ha : VR φ a ra) (e : sortedA a h = some (v, h')) :
    wpAny (model prog w) A (call (.builtin "sorted") [ra]) (PV C h₀ F φ s h' v) E s := by
  unfold sortedA at e
  split at e
  · replace ha := VR.r ha
    (revert ha; refine xe1 fun x zq1 => ?_; revert zq1; refine ae2 fun zq2 hx => ?_; subst zq2)
    (refine xe1 (fun o zq1 => ?_) (rd_bind e); revert zq1; refine ae2 fun q e => ?_)
    split at e
    · rename_i kvs ep
      (refine ae2 (fun q1 e => ?_) (ite_some e))
      have e := new_bind e
      (refine ae2 (fun zq1 zq2 => ?_) (pure_some e); subst zq1; subst zq2)
      (refine xe1 (fun es zq1 => ?_) (R.dictAt q hx); revert zq1; refine ae3 fun g D nd => ?_)
      (refine xe1 (fun ks zq1 => ?_) (dictOf_of (prog := prog) (w := w) D nd g); revert zq1; refine ae2 fun e1 e2 => ?_)
      have hl := congrArg List.length e1
      rw [List.length_map, List.length_map] at hl
      have lo := ge_ne (R.notRo hx q (fun zz q => nomatch q)) hs
      refine Calls.call_function_entry kind_sorted plain_sorted entry_sorted (args_sorted1 _) ?_
      unfold Builtin.«sorted»
      refine wpAny_bind (m := checkCount "sorted" 1 1 _) (wpAny_pure ?_)
      refine wpAny_bind (kdu_collect (A := A.in1) (kdl_dict (knd := intKind prog w) (kvs := ks) (ep := ep) lo) hh e2 (by rw [sizeLine_eq]; omega) fun h1 tk acc hk hacc => ?_)
      have hla : acc.toList.length = ks.length := by rw [Array.length_toList]; exact hacc.1
      have hia : IntsAre acc.toList (kvs.map (·.1)) := by
        rw [← e1]
        have gen : ∀ (vs : List Value) (ks : List (Int × Value)), vs.length = ks.length → (∀ (i : Nat) (v : Value), vs[i]? = some v → ∃ k x, ks[i]? = some (k, x) ∧ (intKind prog w).is k v = true) → IntsAre vs (ks.map (·.1)) := by
          intro vs
          induction vs with
          | nil => intro ks hl _; cases ks with
            | nil => exact .nil
            | cons _ _ => cases hl
          | cons v vs ih =>
            intro ks hl hv
            cases ks with
            | nil => cases hl
            | cons k ks =>
              (refine xe2 (fun k' x zq1 => ?_) (hv 0 v rfl); revert zq1; refine ae2 fun h1 h2 => ?_)
              simp only [List.getElem?_cons_zero, Option.some.injEq] at h1
              subst h1
              have h2' : Value.isInt k' v = true := h2
              cases v <;> try cases h2'
              rename_i j t
              have : j = k' := eq_of_beq h2'
              subst this
              exact .cons _ _ (ih ks (by simpa using hl) fun i v q => by simpa using hv (i + 1) v (by simpa using q))
        exact gen acc.toList ks hla fun i v q => by
          exact hacc.2 i v (by simpa using q)
      refine wpAny_bind (wpAny_newList ?_ (by rw [hla, sizeLine_eq]; omega))
      have hoL : (h1.push (seqObj "list" (List.toArray acc.toList) 0)).get? h1.objs.size = some (seqObj "list" (List.toArray acc.toList) 0) := Heap.get?_push_size _ rfl
      refine wpAny_bind (wpAny_holding (wpAny_call_entry slot_list_sort ⟨_, hoL, rfl⟩ entry_list_sort (list_sort_tree (s := { s with heap := h1.push (seqObj "list" (List.toArray acc.toList) 0), toks := tk }) hoL hia (by omega) fun out ns' a1 a2 a3 => ⟨_, rfl, ?_⟩) (args_list_sort _)))
      refine wpAny_pure ⟨_, rfl, ?_⟩
      (refine xe1 (fun e4 g4 => ?_) (sortedHeap_at (out := out) hoL))
      have hne : s.heap.get? h1.objs.size = none := by
        cases q9 : s.heap.get? h1.objs.size with
        | none => rfl
        | some o => exact absurd (Heap.lt_size (hk _ _ q9)) (Nat.lt_irrefl _)
      have hz1 : h₀.objs.size ≤ h1.objs.size := by
        have q9 := Heap.lt_size (hk _ _ g)
        have q8 := R.notRo hx q (fun zz q => nomatch q)
        exact Nat.le_of_lt (Nat.lt_of_le_of_lt q8 q9)
      rw [sortI_eq a2 a3] at a1
      exact PV_at (s := s) (tk := tk) R (fun b o e => by
        have l1 := Heap.lt_size (hk _ _ e)
        rw [sortedHeap_old (Nat.ne_of_lt l1) (by rw [Heap.size_push]; exact Nat.lt_succ_of_lt l1)]
        exact Heap.get?_push_of_some _ (hk _ _ e)) hne hz1 g4 ⟨out.toList, e4, rfl, ints_vrs a1⟩
    · rename_i xs
      (refine xe2 (fun vs n zq1 => ?_) (R.listAt q hx); revert zq1; refine ae2 fun g r => ?_)
      have hl := r.length
      split at e
      · rename_i q1
        split at e
        · rename_i is q2
          have e := new_bind e
          (refine ae2 (fun zq1 zq2 => ?_) (pure_some e); subst zq1; subst zq2)
          have e0 := intsOf_map q2
          rw [e0] at r
          refine sorted_ints (isList_of g) r.ints (by omega) fun out ns' a1 a2 a3 => ?_
          (refine xe1 (fun e4 g4 => ?_) (sortedAll_at s.heap vs out))
          rw [sortI_eq a2 a3] at a1
          refine PV_at (s := s) (tk := s.toks) R (fun b o e => sortedAll_old e) ?_ (Nat.le_succ_of_le z) g4 ⟨out.toList, e4, rfl, ints_vrs a1⟩
          cases q9 : s.heap.get? (s.heap.objs.size + 1) with
          | none => rfl
          | some o => exact absurd (Heap.lt_size q9) (Nat.not_lt.mpr (Nat.le_succ _))
        · split at e
          · rename_i ls q2
            split at e
            · rename_i q3
              have e := new_bind e
              (refine ae2 (fun zq1 zq2 => ?_) (pure_some e); subst zq1; subst zq2)
              (refine ae2 (fun l1 l2 => ?_) (listsOf_get q2))
              refine sorted_road (isList_of g) (by omega) fun hp k g1 hsz => ?_
              refine list_sort_lists (ls := ls) (s := { s with heap := hp }) (by show A.units + 1 + 1 < cLine; omega) g1 (by rw [l1, hl]) (by omega) (fun i v hv => ?_) (fun p hp1 hp2 => ⟨rfl, ?_⟩)
              · obtain ⟨y, hy, vy⟩ : ∃ y, xs[i]? = some y ∧ VR φ y v := by
                  have hi := (List.getElem?_eq_some_iff.mp hv).1
                  (refine xe1 (fun v' zq1 => ?_) (r.get (List.getElem?_eq_getElem (l := xs) (i := i) (by omega))); revert zq1; refine ae2 fun hv' vv => ?_)
                  rw [hv] at hv'; cases hv'
                  exact ⟨_, List.getElem?_eq_getElem _, vv⟩
                (refine xe1 (fun l zq1 => ?_) (l2 i y hy); revert zq1; refine ae2 fun hl1 hl2 => ?_)
                (refine xe2 (fun j zs zq1 => ?_) (listAt_some hl2); revert zq1; refine ae2 fun zq2 zq3 => ?_; subst zq2; revert zq3; refine ae2 fun hz zq4 => ?_; subst zq4)
                replace vy := VR.r vy
                (revert vy; refine xe1 fun b zq1 => ?_; revert zq1; refine ae2 fun zq2 hb => ?_; subst zq2)
                (refine xe2 (fun us m zq1 => ?_) (R.listAt hz hb); revert zq1; refine ae2 fun g2 r2 => ?_)
                exact ⟨b, us, m, l, rfl, fun e => absurd (Heap.lt_size g2) (Nat.not_lt.mpr (e ▸ Nat.le_succ _)), k _ _ g2, r2.ints, hl1⟩
              · (refine xe1 (fun e4 g4 => ?_) (sortedHeap_at (out := List.toArray (p.toList.map fun i => vs.getD i Value.none)) g1))
                have hlt : ∀ i ∈ p.toList, i < xs.length := fun i hi => by
                  have := (hp1.2.mem_iff (a := i)).mp (Array.mem_toList_iff.mp hi)
                  rw [← l1]; simpa using this
                have vv := vrs_getD r p.toList hlt
                rw [sortP_eq l1 q3 hp1 hp2] at vv
                refine PV_at (s := s) (tk := s.toks) R (fun b o e => ?_) ?_ (Nat.le_succ_of_le z) g4 ⟨_, e4, rfl, vv.mono (List.prefix_append _ _)⟩
                · have l1 := Heap.lt_size e
                  rw [sortedHeap_old (Nat.ne_of_lt (Nat.lt_succ_of_lt l1)) (by rw [hsz]; exact Nat.lt_succ_of_lt (Nat.lt_succ_of_lt l1))]
                  exact k _ _ e
                · cases q9 : s.heap.get? (s.heap.objs.size + 1) with
                  | none => rfl
                  | some o => exact absurd (Heap.lt_size q9) (Nat.not_lt.mpr (Nat.le_succ _))
            · cases e
          · cases e
      · cases e
    · cases e
  · cases e
end
end

section
open PySem PySem.W PyProof.Rows PySem.SeqAt

theorem Heap.IsCell.at' {h h' : Heap} {c : Addr} {v : Option Value} (x : h.IsCell c v) (k : ∀ o, h.get? c = some o → h'.get? c = some o) : h'.IsCell c v :=
  let ⟨o, ho, hd⟩ := x; ⟨o, k o ho, hd⟩

/- what is told is there -/
noncomputable def LR (φ : List Addr) (a : Option V) (b : Option Value) : Prop := ∀ v, a = some v → ∃ r, b = some r ∧ VR φ v r
theorem LR.mono {φ φ' : List Addr} (p : φ <+: φ') {a : Option V} {b : Option Value} (h : LR φ a b) : LR φ' a b := fun v e => let ⟨r, e', q⟩ := h v e; ⟨r, e', q.mono p⟩
theorem LR.some {φ : List Addr} {v : V} {r : Value} (h : VR φ v r) : LR φ (Option.some v) (Option.some r) := fun zz e => by cases e; exact ⟨_, rfl, h⟩
theorem ORel.lr {φ : List Addr} {a : Option V} {b : Option Value} (h : ORel φ a b) : LR φ a b := by
  cases h with
  | none => intro v e; cases e
  | some h => exact .some h

noncomputable def ownE (env : Env) : List Addr := env.locals :: env.cells.map (·.2)

/- a frame and what it holds -/
structure EnvOk (h₀ : Heap) (env : Env) (m : L) (φ : List Addr) (h : Heap) : Prop where
  kind : env.scope.kind = .function
  globals : env.globals = mainGlobals
  builtins : env.builtins = builtinsNs
  loc : ∃ rm, h.Ns env.locals rm ∧ ∀ x, env.kindOf x = some .local → LR φ (m x) (rm x)
  cell : ∀ x, (env.kindOf x = some .cell ∨ env.kindOf x = some .free) → ∃ c r, env.cells.lookup x = some c ∧ h.IsCell c r ∧ LR φ (m x) r
  new : env.locals ∉ φ ∧ h₀.objs.size ≤ env.locals
  cnew : ∀ x c, (x, c) ∈ env.cells → c ∉ φ ∧ h₀.objs.size ≤ c ∧ c ≠ env.locals ∧ ∃ r, h.IsCell c r
  inj : ∀ x y c, env.cells.lookup x = some c → env.cells.lookup y = some c → x = y

section
variable {C : Addr} {h₀ : Heap} {env : Env} {m : L} {φ φ' : List Addr} {h h' : Heap}

theorem EnvOk.z (x : EnvOk h₀ env m φ h) : h₀.objs.size ≤ h.objs.size := by
  obtain ⟨rm, n, _⟩ := x.loc
  exact Nat.le_of_lt (Nat.lt_of_le_of_lt x.new.2 n.lt)
theorem EnvOk.own (x : EnvOk h₀ env m φ h) : ∀ a ∈ ownE env, a ∉ φ ∧ h₀.objs.size ≤ a ∧ ∃ o, h.get? a = some o := by
  intro a ha
  rcases List.mem_cons.mp ha with rfl | ha
  · obtain ⟨rm, ⟨o, _, _, e, _⟩, _⟩ := x.loc
    exact ⟨x.new.1, x.new.2, o, e⟩
  · (refine xe1 (fun zq1 zq2 => ?_) (List.mem_map.mp ha); rcases zq1 with ⟨y, c⟩; revert zq2; refine ae2 fun hy zq3 => ?_; subst zq3)
    (refine ae4 (fun a1 a2 zz zq1 => ?_) (x.cnew y c hy); revert zq1; refine xe2 fun r o zq2 => ?_; revert zq2; refine ae2 fun e zz => ?_)
    exact ⟨a1, a2, o, e⟩

theorem EnvOk.step' {F : List Addr} (x : EnvOk h₀ env m φ h) (st : Step F φ h φ' h') (hF : ∀ a ∈ F, a ∉ ownE env) : EnvOk h₀ env m φ' h' := by
  have kp : ∀ a ∈ ownE env, (∀ o, h.get? a = some o → h'.get? a = some o) ∧ a ∉ φ' := fun a ha => by
    (refine ae3 (fun a1 a2 zq1 => ?_) (x.own a ha); revert zq1; refine xe1 fun o e => ?_)
    refine ⟨fun o e => st.keep a o e a1 (fun q => hF a q ha), fun q => ?_⟩
    rcases st.fresh a q with q | q
    · exact a1 q
    · rw [e] at q; cases q
  have kc : ∀ y c, (y, c) ∈ env.cells → c ∈ ownE env := fun y c hc => List.mem_cons_of_mem _ (List.mem_map.mpr ⟨(y, c), hc, rfl⟩)
  obtain ⟨rm, n, hr⟩ := x.loc
  exact ⟨x.kind, x.globals, x.builtins, ⟨rm, n.at' (kp _ (List.mem_cons_self)).1, fun y hy => (hr y hy).mono st.pre⟩,
    fun y hy => by
      (refine xe2 (fun c r zq1 => ?_) (x.cell y hy); revert zq1; refine ae3 fun e1 e2 e3 => ?_)
      exact ⟨c, r, e1, Heap.IsCell.at' e2 (kp c (kc _ _ (mem_of_lookup e1))).1, e3.mono st.pre⟩,
    ⟨(kp _ (List.mem_cons_self)).2, x.new.2⟩,
    fun y c hc => by
      (refine ae4 (fun a1 a2 a3 zq1 => ?_) (x.cnew y c hc); revert zq1; refine xe1 fun r a4 => ?_)
      exact ⟨(kp c (kc _ _ hc)).2, a2, a3, r, Heap.IsCell.at' a4 (kp c (kc _ _ hc)).1⟩, x.inj⟩
theorem EnvOk.step (x : EnvOk h₀ env m φ h) (st : Step [] φ h φ' h') : EnvOk h₀ env m φ' h' := x.step' st fun zz q => nomatch q
theorem EnvOk.less {m' : L} (x : EnvOk h₀ env m φ h) (hm : ∀ y v, m' y = some v → m y = some v) : EnvOk h₀ env m' φ h :=
  ⟨x.kind, x.globals, x.builtins, let ⟨rm, n, hr⟩ := x.loc; ⟨rm, n, fun y hy v e => hr y hy v (hm y v e)⟩,
    fun y hy => let ⟨c, r, e1, e2, e3⟩ := x.cell y hy; ⟨c, r, e1, e2, fun v e => e3 v (hm y v e)⟩, x.new, x.cnew, x.inj⟩
end

section
variable {prog : Program} {w : World} {A : Around} {E : Value → Shared → Prop} {s : Shared} {C : Addr} {h₀ : Heap} {F φ : List Addr} {h : H} {M : Model} {env : Env} {m : L}

theorem load_ok {x : Str} {v : V} {Q : Value → Shared → Prop} (e : EnvOk h₀ env m φ s.heap) (hk : env.kindOf x = some .local ∨ env.kindOf x = some .cell ∨ env.kindOf x = some .free) (hc : (x == ("__classdict__" : Str)) = false)
    (hv : m x = some v) (h : ∀ rv, VR φ v rv → Q rv s) : wpAny M A (loadName env x) Q E s := by
  rcases hk with hk | hk | hk
  · obtain ⟨rm, n, hr⟩ := e.loc
    (refine xe1 (fun r zq1 => ?_) (hr x hk v hv); revert zq1; refine ae2 fun hx q => ?_)
    exact wpAny_loadName_local e.kind hk n hx (h r q)
  · (refine xe2 (fun c r zq1 => ?_) (e.cell x (.inl hk)); revert zq1; refine ae3 fun e1 e2 e3 => ?_)
    (refine xe1 (fun r zq1 => ?_) (e3 v hv); revert zq1; refine ae2 fun zq2 q => ?_; subst zq2)
    exact wpAny_loadName_cell e.kind hk e1 e2 (h _ q)
  · (refine xe2 (fun c r zq1 => ?_) (e.cell x (.inr hk)); revert zq1; refine ae3 fun e1 e2 e3 => ?_)
    (refine xe1 (fun r zq1 => ?_) (e3 v hv); revert zq1; refine ae2 fun zq2 q => ?_; subst zq2)
    exact wpAny_loadName_free e.kind hk e1 e2 (h _ q) hc

theorem store_ok {x : Str} {v : V} {rv : Value} (R : Rel C h₀ φ h s.heap) (e : EnvOk h₀ env m φ s.heap) (hk : env.kindOf x = some .local ∨ env.kindOf x = some .cell) (hv : VR φ v rv) :
    wpAny M A (storeName env x rv) (fun zz s' => ∃ h1 tk, s' = { s with heap := h1, toks := tk } ∧ Step (ownE env) φ s.heap φ h1 ∧ (env.kindOf x = some .local → Step [env.locals] φ s.heap φ h1) ∧ Rel C h₀ φ h h1 ∧ EnvOk h₀ env (upd m x v) φ h1) E s := by
  rcases hk with hk | hk
  · obtain ⟨rm, n, hr⟩ := e.loc
    refine wpAny_storeName_local hk n (fun h1 n1 s1 => ?_) (by rw [e.kind]; rfl)
    (refine xe3 (fun o1 zz zz zq1 => ?_) (id n1); revert zq1; refine ae2 fun g1 zz => ?_)
    refine ⟨h1, _, rfl, Step.own s1 (List.mem_cons_self) g1, fun zz => Step.own s1 (List.mem_singleton.mpr rfl) g1, R.other s1 e.new.1 e.new.2, e.kind, e.globals, e.builtins, ⟨_, n1, fun y hy => ?_⟩, fun y hy => ?_, e.new, fun y c hc => ?_, e.inj⟩
    · dsimp only [upd]
      split
      · exact LR.some hv
      · exact hr y hy
    · (refine xe2 (fun c r zq1 => ?_) (e.cell y hy); revert zq1; refine ae3 fun e1 e2 e3 => ?_)
      (refine ae4 (fun zz zz a3 zz => ?_) (e.cnew y c (mem_of_lookup e1)))
      refine ⟨c, r, e1, e2.sameBut s1 a3, ?_⟩
      unfold upd
      rw [if_neg]
      · exact e3
      · rintro rfl; rcases hy with q | q <;> (rw [hk] at q; cases q)
    · (refine ae4 (fun a1 a2 a3 zq1 => ?_) (e.cnew y c hc); revert zq1; refine xe1 fun r a4 => ?_)
      exact ⟨a1, a2, a3, r, a4.sameBut s1 a3⟩
  · (refine xe2 (fun c r zq1 => ?_) (e.cell x (.inl hk)); revert zq1; refine ae3 fun e1 e2 e3 => ?_)
    (refine ae4 (fun a1 a2 a3 zz => ?_) (e.cnew x c (mem_of_lookup e1)))
    refine wpAny_storeName_cell e.kind hk e1 e2 fun h1 c1 s1 => ?_
    (refine xe1 (fun o1 zq1 => ?_) (id c1); revert zq1; refine ae2 fun g1 d1 => ?_)
    refine ⟨h1, s.toks, rfl, Step.own s1 (List.mem_cons_of_mem _ (List.mem_map.mpr ⟨(x, c), mem_of_lookup e1, rfl⟩)) g1, (fun q => by rw [hk] at q; cases q), R.other s1 a1 a2, e.kind, e.globals, e.builtins, ?_, fun y hy => ?_, e.new, fun y c' hc => ?_, e.inj⟩
    · obtain ⟨rm, n, hr⟩ := e.loc
      refine ⟨rm, n.sameBut s1 (Ne.symm a3), fun y hy => ?_⟩
      unfold upd
      rw [if_neg]
      · exact hr y hy
      · rintro rfl; rw [hk] at hy; cases hy
    · (refine xe2 (fun c' r' zq1 => ?_) (e.cell y hy); revert zq1; refine ae3 fun e1' e2' e3' => ?_)
      by_cases hyx : y = x
      · subst hyx
        rw [e1] at e1'; cases e1'
        exact ⟨c, some rv, e1, c1, by unfold upd; rw [if_pos rfl]; exact LR.some hv⟩
      · refine ⟨c', r', e1', e2'.sameBut s1 fun q => hyx (e.inj y x c' e1' (by rw [q]; exact e1)), ?_⟩
        unfold upd
        rw [if_neg hyx]; exact e3'
    · (refine ae4 (fun b1 b2 b3 zq1 => ?_) (e.cnew y c' hc); revert zq1; refine xe1 fun r' b4 => ?_)
      by_cases q : c' = c
      · subst q; exact ⟨b1, b2, b3, _, c1⟩
      · exact ⟨b1, b2, b3, r', b4.sameBut s1 q⟩
end
end

section
open PySem PySem.W PyProof.Rows PySem.SeqAt

/- what came new stays the callee's own -/
theorem Step.enter {F φ φ' : List Addr} {s s1 s' : Heap} (k : ∀ b o, s.get? b = some o → s1.get? b = some o) (st : Step F φ s1 φ' s') (hn : ∀ a ∈ F, s.get? a = none) : Step [] φ s φ' s' :=
  ⟨st.pre, fun b o e h1 zz => st.keep b o (k b o e) h1 fun q => (by rw [hn b q] at e; cases e),
    fun b o e => st.alive b o (k b o e), fun b hb => by
      rcases st.fresh b hb with q | q
      · exact .inl q
      · right
        cases e : s.get? b with
        | none => rfl
        | some o => rw [k b o e] at q; cases q⟩

theorem bindL_eq (k : Str → Option NameKind) : ∀ (bs : List (Str × Value)) (m : Str → Option Value) (x : Str), (bs.map (·.1)).Nodup → k x = some .local → bindL k bs m x = (bs.lookup x).or (m x)
  | [], m, x, _, _ => rfl
  | (n, v) :: r, m, x, nd, hk => by
    simp only [List.map_cons, List.nodup_cons] at nd
    unfold bindL
    rw [bindL_eq k r _ x nd.2 hk]
    by_cases hx : x = n
    · subst hx
      have hl : r.lookup x = none := by
        rw [List.lookup_eq_none_iff]
        intro p hp
        have : p.1 ≠ x := fun q => nd.1 (q ▸ List.mem_map_of_mem hp)
        simpa using fun q => this q.symm
      rw [hl, if_pos hk, List.lookup_cons]
      simp
    · rw [List.lookup_cons]
      have hb : (x == n) = false := beq_eq_false_iff_ne.mpr hx
      rw [hb]
      dsimp only
      congr 1
      split
      · exact if_neg hx
      · rfl
theorem bindC_eq (k : Str → Option NameKind) : ∀ (bs : List (Str × Value)) (m : Str → Option Value) (x : Str), (bs.map (·.1)).Nodup → k x = some .cell → bindC k bs m x = (bs.lookup x).or (m x)
  | [], m, x, _, _ => rfl
  | (n, v) :: r, m, x, nd, hk => by
    simp only [List.map_cons, List.nodup_cons] at nd
    unfold bindC
    rw [bindC_eq k r _ x nd.2 hk]
    by_cases hx : x = n
    · subst hx
      have hl : r.lookup x = none := by
        rw [List.lookup_eq_none_iff]
        intro p hp
        have : p.1 ≠ x := fun q => nd.1 (q ▸ List.mem_map_of_mem hp)
        simpa using fun q => this q.symm
      rw [hl, if_neg (by rw [hk]; decide), List.lookup_cons]
      simp
    · rw [List.lookup_cons]
      have hb : (x == n) = false := beq_eq_false_iff_ne.mpr hx
      rw [hb]
      dsimp only
      congr 1
      split
      · rfl
      · exact if_neg hx

theorem cellsFrom_keys : ∀ (names : List (Str × NameKind)) (n : Nat) (acc : List (Str × Addr)), (cellsFrom n names acc).map (·.1) = ((names.filter fun x => x.2 == .cell).map (·.1)).reverse ++ acc.map (·.1)
  | [], _, _ => rfl
  | (name, kind) :: r, n, acc => by
    unfold cellsFrom
    by_cases hk : (kind == NameKind.cell) = true
    · rw [if_pos hk, cellsFrom_keys r (n + 1) _, List.filter_cons_of_pos (by exact hk)]
      simp
    · rw [if_neg hk, cellsFrom_keys r n _, List.filter_cons_of_neg (by exact hk)]
theorem lookup_of_mem {α : Type} : ∀ {l : List (Str × α)} {x : Str} {c : α}, (l.map (·.1)).Nodup → (x, c) ∈ l → l.lookup x = some c
  | (k, v) :: r, x, c, nd, h => by
    simp only [List.map_cons, List.nodup_cons] at nd
    rw [List.lookup_cons]
    rcases List.mem_cons.mp h with e | h
    · cases e; simp
    · have : (x == k) = false := beq_eq_false_iff_ne.mpr fun q => nd.1 (q ▸ List.mem_map.mpr ⟨(x, c), h, rfl⟩)
      rw [this]
      exact lookup_of_mem nd.2 h

theorem zip_orel {φ : List Addr} : ∀ {ps : List Str} {vs : List V} {rs : List Value}, VRs φ vs rs → ∀ x, ORel φ ((ps.zip vs).lookup x) ((ps.zip rs).lookup x)
  | [], _, _, _, _ => .none
  | p :: ps, _, _, .nil, x => .none
  | p :: ps, _, _, .cons h t, x => by
    simp only [List.zip_cons_cons, List.lookup_cons]
    cases x == p with
    | true => exact .some h
    | false => exact zip_orel t x

/- how deep a run may stand -/
noncomputable def Bd (A : Around) (n : Nat) : Prop := A.handled = none ∧ A.depth + 10 * n < 900 ∧ A.units + 50 * n + 200 < cLine
theorem Bd.deeper {A : Around} {n : Nat} (b : Bd A (n + 1)) (env : Env) : Bd (A.deeper env) n := by
  (revert b; refine ae3 fun a b c => ?_)
  refine ⟨a, ?_, ?_⟩
  · show A.depth + 1 + 10 * n < 900; omega
  · show A.units + 3 + 50 * n + 200 < cLine; omega
theorem Bd.in1 {A : Around} {n : Nat} (b : Bd A (n + 1)) : Bd A.in1 n := by
  (revert b; refine ae3 fun a b c => ?_)
  refine ⟨a, ?_, ?_⟩
  · show A.depth + 10 * n < 900; omega
  · show A.units + 1 + 50 * n + 200 < cLine; omega

/- the scope of a function, with no name of an outer one -/
structure ScOk (g : Fd) : Prop where
  kind : g.scope.kind = .function
  co : g.scope.isCoroutine = false
  gen : g.scope.isGenerator = false
  nodup : (g.scope.names.map (·.1)).Nodup
  nofree : ∀ x ∈ g.scope.names, x.2 ≠ .free
  pars : ∀ x ∈ g.params, g.scope.names.lookup x = some .local ∨ g.scope.names.lookup x = some .cell
  pnodup : g.params.Nodup

/- the function stands in the part of the heap that is known -/
structure FnOk (K : Frag) (a : Addr) (g : Fd) : Prop where
  sc : ScOk g
  ex : ∃ ob fd, K.lookup a = some ob ∧ ob.data = .func fd ∧ fd.body = .stmts g.body ∧ fd.scope = g.scope ∧ fd.closure = [] ∧ fd.globals = mainGlobals ∧ fd.builtins = builtinsNs ∧ codeIn K fd.code fd.qualname = true ∧
    ∀ vals : List Value, g.params.length = vals.length → bindArgs fd ⟨vals, []⟩ = pure (g.params.zip vals)

section
variable {prog : Program} {w : World} {A : Around} {E : Value → Shared → Prop} {s : Shared} {C : Addr} {h₀ : Heap} {φ : List Addr} {h h' : H} {K : Frag}

/- where a call's code ends -/
noncomputable def CB (Q : Value → Shared → Prop) (E : Value → Shared → Prop) (r : Result) (s' : Shared) : Prop := match r with | .ok (.ret v) => Q v s' | .ok _ => False | .error e => E e s'

theorem call_fn_code {a : Addr} {g : Fd} {n : Nat} {vs : List V} {rvs : List Value} {v : V} {cl : Str → List V → M V} (X : K.In h₀) (nl : h₀.NoLimit) (ok : FnOk K a g) (b : Bd A (n + 1)) (R : Rel C h₀ φ h s.heap) (z : h₀.objs.size ≤ s.heap.objs.size)
    (hv : VRs φ vs rvs) (e : runA cl g vs h = some (v, h'))
    (body : ∀ (env : Env) (E' : Value → Shared → Prop) (s1 : Shared) (fl : Fl) (m' : L), env.scope = g.scope → Rel C h₀ φ h s1.heap → EnvOk h₀ env (fun x => (g.params.zip vs).lookup x) φ s1.heap →
      execsA cl g.body (fun x => (g.params.zip vs).lookup x) h = some ((fl, m'), h') →
      wpAny (model prog w) (A.deeper env) (execs g.body env) (fun f s' => P0 C h₀ (ownE env) φ s1 h' (fun φ' h1 => match fl, f with | .ret v, .ret rv => VR φ' v rv | .ret _, _ => False | _, .ret _ => False | _, _ => True) s') E' s1) :
    codeAny (model prog w) A (.call (.ref a) ⟨rvs, []⟩) (CB (PV C h₀ [] φ s h' v) E) s := by
  obtain ⟨ob, fd, hK, hd, hbody, hsc, hclo, hgl, hbi, hcd, hbind⟩ := ok.ex
  have XK := X.keeps R.keep
  have NL := nl.keeps R.keep
  unfold runA at e
  (refine ae2 (fun hlen e => ?_) (ite_some e))
  (refine xe2 (fun q h1 zq1 => ?_) (bind_some e); revert zq1; refine ae2 fun e1 e2 => ?_)
  have hlen' : g.params.length = rvs.length := by rw [hlen, hv.length]
  have sc := ok.sc
  refine codeAny_call_function (by have := b.2.1; show A.depth < 1000; omega) (XK _ _ hK) hd (by rw [hsc]; exact sc.co) (by rw [hsc]; exact sc.gen) hbody (codeRec_of XK hcd) ?_
  rw [hbind rvs hlen', hclo]
  refine wpAny_pure ?_
  rw [hsc, hgl, hbi]
  have hks : ∀ x, g.scope.names.lookup x = some .cell → ∀ n, ((cellsFrom n g.scope.names []).lookup x).isSome = true := fun x hx n => by
    have : x ∈ (cellsFrom n g.scope.names []).map (·.1) := by
      rw [cellsFrom_keys]
      simp only [List.map_nil, List.append_nil, List.mem_reverse]
      exact List.mem_map.mpr ⟨(x, .cell), List.mem_filter.mpr ⟨mem_of_lookup hx, by rfl⟩, rfl⟩
    (refine xe1 (fun zq1 zq2 => ?_) (List.mem_map.mp this); rcases zq1 with ⟨y, c⟩; revert zq2; refine ae2 fun hy zq3 => ?_; subst zq3)
    cases q : (cellsFrom n g.scope.names []).lookup y with
    | some _ => rfl
    | none => rw [List.lookup_eq_none_iff] at q; have := q _ hy; simp at this
  have hbk : (g.params.zip rvs).map (·.1) = g.params := List.map_fst_zip (Nat.le_of_eq hlen')
  refine wpAny_newFunctionEnv_cells sc.kind (fun x hx => ?_) fun env he s1 I => ?_
  · have hm : x.1 ∈ g.params := by rw [← hbk]; exact List.mem_map_of_mem hx
    rcases sc.pars _ hm with q | q
    · exact .inl q
    · exact .inr ⟨q, hks _ q _⟩
  · have henv : env.scope = g.scope ∧ env.locals = s.heap.objs.size ∧ env.globals = mainGlobals ∧ env.builtins = builtinsNs ∧ env.cells = cellsFrom (s.heap.objs.size + 1) g.scope.names [] := by subst he; exact ⟨rfl, rfl, rfl, rfl, rfl⟩
    (revert henv; refine ae5 fun he1 he2 he3 he4 he5 => ?_)
    have cnd : (env.cells.map (·.1)).Nodup := by
      rw [he5, cellsFrom_keys, List.map_nil, List.append_nil, (List.reverse_perm _).nodup_iff]
      exact (sc.nodup.sublist (List.Sublist.map _ (List.filter_sublist)))
    have hnew : ∀ c ∈ ownE env, s.heap.get? c = none := fun c hc => by
      have hge : s.heap.objs.size ≤ c := by
        rcases List.mem_cons.mp hc with rfl | hc
        · exact Nat.le_of_eq he2.symm
        · (refine xe1 (fun zq1 zq2 => ?_) (List.mem_map.mp hc); rcases zq1 with ⟨y, c⟩; revert zq2; refine ae2 fun hy zq3 => ?_; subst zq3)
          have := I.above y c hy
          rw [he2] at this
          exact Nat.le_of_lt this
      cases q : s.heap.get? c with
      | none => rfl
      | some o => exact absurd (Heap.lt_size q) (Nat.not_lt.mpr hge)
    have hnφ : ∀ c ∈ ownE env, c ∉ φ := fun c hc q => by
      (refine xe1 (fun i hi => ?_) (List.mem_iff_getElem?.mp q))
      have hl := (List.getElem?_eq_some_iff.mp hi).1
      rw [R.len] at hl
      (refine xe2 (fun b ob zq1 => ?_) (R.obj i h[i] (List.getElem?_eq_getElem hl)); revert zq1; refine ae3 fun h1 h2 zz => ?_)
      rw [hi] at h1; cases h1; rw [hnew c hc] at h2; cases h2
    have kp := I.toInCall.keep
    obtain ⟨hh1, tk1, hs1⟩ := I.toInCall.same
    have R1 : Rel C h₀ φ h s1.heap := R.grow kp
    have EO : EnvOk h₀ env (fun x => (g.params.zip vs).lookup x) φ s1.heap := by
      refine ⟨by rw [he1]; exact sc.kind, he3, he4, ⟨_, I.toInCall.ns, fun x hx => ?_⟩, fun x hx => ?_, ⟨hnφ _ (List.mem_cons_self), by rw [he2]; exact z⟩, fun x c hc => ?_, fun x y c h1 h2 => name_of_addr I.apart (mem_of_lookup h1) (mem_of_lookup h2)⟩
      · rw [bindL_eq _ _ _ _ (by rw [hbk]; exact sc.pnodup) hx, Option.or_none]
        exact (zip_orel hv x).lr
      · have hx' : env.kindOf x = some .cell := by
          rcases hx with q | q
          · exact q
          · unfold Env.kindOf at q; rw [he1] at q; exact absurd rfl (sc.nofree _ (mem_of_lookup q))
        have hsome : (env.cells.lookup x).isSome = true := by rw [he5]; exact hks x (by rw [← he1]; exact hx') _
        (refine xe1 (fun c hc => ?_) (Option.isSome_iff_exists.mp hsome))
        refine ⟨c, _, hc, I.cell x c hc, ?_⟩
        rw [bindC_eq _ _ _ _ (by rw [hbk]; exact sc.pnodup) hx', Option.or_none]
        exact (zip_orel hv x).lr
      · have hm : c ∈ ownE env := List.mem_cons_of_mem _ (List.mem_map.mpr ⟨(x, c), hc, rfl⟩)
        have hlt := I.above x c hc
        exact ⟨hnφ c hm, Nat.le_trans z (by rw [he2] at hlt; exact Nat.le_of_lt hlt), fun q => absurd hlt (by rw [q]; exact Nat.lt_irrefl _), _, I.cell x c (lookup_of_mem cnd hc)⟩
    obtain ⟨fl, m'⟩ := q
    have hh : h1 = h' ∧ (match fl with | .ret u => v = u | _ => v = .none) := by
      cases fl <;> ((refine ae2 (fun p1 p2 => ?_) (pure_some e2)); exact ⟨p2.symm, p1⟩)
    (revert hh; refine ae2 fun zq1 hvv => ?_; subst zq1)
    refine ⟨NL.keeps kp, codeAny_func (wpAny_mono (body env _ s1 fl m' he1 R1 EO e1) (fun f s' p => ?_) fun zz zz e => e)⟩
    (revert p; refine xe3 fun φ' h2 tk2 zq1 => ?_; revert zq1; refine ae2 fun zq2 zq3 => ?_; subst zq2; revert zq3; refine ae3 fun st R2 x => ?_)
    refine ⟨φ', h2, tk2, by rw [hs1], Step.enter kp st hnew, R2, ?_⟩
    cases fl <;> cases f <;> dsimp only at hvv <;> subst hvv <;> first | exact x | exact x.elim | exact .none

theorem call_fn {a : Addr} {g : Fd} {n : Nat} {vs : List V} {rvs : List Value} {v : V} {cl : Str → List V → M V} (X : K.In h₀) (nl : h₀.NoLimit) (ok : FnOk K a g) (b : Bd A (n + 1)) (R : Rel C h₀ φ h s.heap) (z : h₀.objs.size ≤ s.heap.objs.size)
    (hv : VRs φ vs rvs) (e : runA cl g vs h = some (v, h'))
    (body : ∀ (env : Env) (E' : Value → Shared → Prop) (s1 : Shared) (fl : Fl) (m' : L), env.scope = g.scope → Rel C h₀ φ h s1.heap → EnvOk h₀ env (fun x => (g.params.zip vs).lookup x) φ s1.heap →
      execsA cl g.body (fun x => (g.params.zip vs).lookup x) h = some ((fl, m'), h') →
      wpAny (model prog w) (A.deeper env) (execs g.body env) (fun f s' => P0 C h₀ (ownE env) φ s1 h' (fun φ' h1 => match fl, f with | .ret v, .ret rv => VR φ' v rv | .ret _, _ => False | _, .ret _ => False | _, _ => True) s') E' s1) :
    wpAny (model prog w) A (call (.ref a) rvs) (PV C h₀ [] φ s h' v) E s := wpAny_call (call_fn_code X nl ok b R z hv e body)
end
end

section
open PySem PySem.W PyProof.Rows PySem.SeqAt

/- what an iteration goes over -/
inductive Src where
  | lst (i : Nat) (xs : List V)
  | dct (i : Nat) (kvs : List (Int × V)) (ep : Nat)
  | rng (n : Nat)

noncomputable def Src.vals : Src → List V
  | .lst _ xs => xs
  | .dct _ kvs _ => keysV kvs
  | .rng n => (List.range n).map fun (i : Nat) => .int i
noncomputable def Src.heaped : Src → Prop
  | .rng _ => False
  | _ => True
noncomputable def Src.chk : Src → H → Prop
  | .lst i xs, h => h[i]? = some (.list xs)
  | .dct i kvs ep, h => h[i]? = some (.dict kvs ep)
  | .rng _, _ => True
noncomputable def Src.At (φ : List Addr) (it : Addr) (k : Nat) (h : Heap) : Src → Prop
  | .lst i _ => ∃ a, φ[i]? = some a ∧ h.IsListIter it a k
  | .dct i kvs ep => ∃ a, φ[i]? = some a ∧ h.IsKeyIter it a k kvs.length ep
  | .rng n => k ≤ n ∧ IsRangeIter h it k ((n : Int) - k) 1

theorem Src.At.keep {φ φ' : List Addr} {it : Addr} {k : Nat} {h h' : Heap} {src : Src} (x : src.At φ it k h) (p : φ <+: φ') (e : ∀ o, h.get? it = some o → h'.get? it = some o) : src.At φ' it k h' := by
  cases src with
  | lst i xs => (revert x; refine xe1 fun a zq1 => ?_; revert zq1; refine ae2 fun h1 zq2 => ?_; revert zq2; refine xe1 fun o zq3 => ?_; revert zq3; refine ae2 fun h2 r => ?_); exact ⟨a, pre_get p h1, o, e o h2, r⟩
  | dct i kvs ep => (revert x; refine xe1 fun a zq1 => ?_; revert zq1; refine ae2 fun h1 zq2 => ?_; revert zq2; refine xe1 fun o zq3 => ?_; revert zq3; refine ae2 fun h2 r => ?_); exact ⟨a, pre_get p h1, o, e o h2, r⟩
  | rng n => exact ⟨x.1, e _ x.2⟩
theorem Src.At.live {φ : List Addr} {it : Addr} {k : Nat} {h : Heap} {src : Src} (x : src.At φ it k h) : ∃ o, h.get? it = some o := by
  cases src with
  | lst i xs => (revert x; refine xe1 fun a zq1 => ?_; revert zq1; refine ae2 fun h1 zq2 => ?_; revert zq2; refine xe1 fun o zq3 => ?_; revert zq3; refine ae2 fun h2 r => ?_); exact ⟨o, h2⟩
  | dct i kvs ep => (revert x; refine xe1 fun a zq1 => ?_; revert zq1; refine ae2 fun h1 zq2 => ?_; revert zq2; refine xe1 fun o zq3 => ?_; revert zq3; refine ae2 fun h2 r => ?_); exact ⟨o, h2⟩
  | rng n => exact ⟨_, x.2⟩

theorem EnvOk.keeps {h₀ : Heap} {env : Env} {m : L} {φ : List Addr} {h h' : Heap} (x : EnvOk h₀ env m φ h) (k : ∀ a ∈ ownE env, ∀ o, h.get? a = some o → h'.get? a = some o) : EnvOk h₀ env m φ h' := by
  have kc : ∀ y c, (y, c) ∈ env.cells → c ∈ ownE env := fun y c hc => List.mem_cons_of_mem _ (List.mem_map.mpr ⟨(y, c), hc, rfl⟩)
  obtain ⟨rm, n, hr⟩ := x.loc
  exact ⟨x.kind, x.globals, x.builtins, ⟨rm, n.at' (k _ (List.mem_cons_self)), hr⟩,
    fun y hy => by
      (refine xe2 (fun c r zq1 => ?_) (x.cell y hy); revert zq1; refine ae3 fun e1 e2 e3 => ?_)
      exact ⟨c, r, e1, Heap.IsCell.at' e2 (k c (kc _ _ (mem_of_lookup e1))), e3⟩, x.new,
    fun y c hc => by
      (refine ae4 (fun a1 a2 a3 zq1 => ?_) (x.cnew y c hc); revert zq1; refine xe1 fun r a4 => ?_)
      exact ⟨a1, a2, a3, r, Heap.IsCell.at' a4 (k c (kc _ _ hc))⟩, x.inj⟩

theorem Step.drop {F F' φ φ' : List Addr} {s s1 s' : Heap} (k : ∀ b o, s.get? b = some o → s1.get? b = some o) (st : Step F φ s1 φ' s') (hn : ∀ a ∈ F, a ∈ F' ∨ s.get? a = none) : Step F' φ s φ' s' :=
  ⟨st.pre, fun b o e h1 h2 => st.keep b o (k b o e) h1 fun q => ((hn b q).elim h2 fun q => (by rw [q] at e; cases e)),
    fun b o e => st.alive b o (k b o e), fun b hb => by
      rcases st.fresh b hb with q | q
      · exact .inl q
      · right
        cases e : s.get? b with
        | none => rfl
        | some o => rw [k b o e] at q; cases q⟩
theorem Step.last {F φ φ' : List Addr} {s s2 s3 : Heap} {it : Addr} (st : Step F φ s φ' s2) (x : Heap.ExtBut it s2 s3) (hn : s.get? it = none) : Step F φ s φ' s3 :=
  ⟨st.pre, fun b o e h1 h2 => x b o (fun q => by rw [q, hn] at e; cases e) (st.keep b o e h1 h2),
    fun b o e => let ⟨o', e'⟩ := st.alive b o e; ⟨o', x b o' (fun q => by rw [q, hn] at e; cases e) e'⟩, st.fresh⟩
theorem Rel.ext {C : Addr} {h₀ s s' : Heap} {φ : List Addr} {h : H} (R : Rel C h₀ φ h s) {it : Addr} (x : Heap.ExtBut it s s') (h1 : it ∉ φ) (h2 : h₀.objs.size ≤ it) : Rel C h₀ φ h s' :=
  R.others (F := [it]) (fun b o e q => x b o (fun r => q (List.mem_singleton.mpr r)) e) (fun x hx => by rw [List.mem_singleton] at hx; rw [hx]; exact h1) (fun x hx => by rw [List.mem_singleton] at hx; rw [hx]; exact h2)

theorem chk_some {a : Nat} {o : O} {h h' : H} {u : Unit} (e : Mine.chk a o h = some (u, h')) : h[a]? = some o ∧ h' = h := by
  unfold Mine.chk at e
  split at e
  · rename_i q; cases e; exact ⟨q, rfl⟩
  · cases e

section
variable {prog : Program} {w : World} {A : Around} {E : Value → Shared → Prop} {s : Shared} {C : Addr} {h₀ : Heap} {F φ : List Addr} {h h' : H}

theorem next_item {src : Src} {it : Addr} {k : Nat} {v : V} (hs : 1 < h₀.objs.size) (R : Rel C h₀ φ h s.heap) (ck : src.chk h) (x : src.At φ it k s.heap) (e : src.vals[k]? = some v) :
    wpAny (model prog w) A (pyNext (.ref it)) (fun r s' => ∃ rv h1 tk, r = some rv ∧ VR φ v rv ∧ s' = { s with heap := h1, toks := tk } ∧ Heap.SameBut it s.heap h1 ∧ src.At φ it (k + 1) h1) E s := by
  cases src with
  | lst i xs =>
    (revert x; refine xe1 fun a zq1 => ?_; revert zq1; refine ae2 fun h1 h2 => ?_)
    (refine xe2 (fun vs n zq1 => ?_) (R.listAt ck h1); revert zq1; refine ae2 fun g r => ?_)
    (refine xe1 (fun y zq1 => ?_) (r.get e); revert zq1; refine ae2 fun hy hv => ?_)
    exact wpAny_pyNext_list_item h2 (isList_of g) (x := y) (by simpa using hy) fun h3 h4 h5 => ⟨y, h3, s.toks, rfl, hv, rfl, h5, a, h1, h4⟩
  | dct i kvs ep =>
    (revert x; refine xe1 fun a zq1 => ?_; revert zq1; refine ae2 fun h1 h2 => ?_)
    (refine xe1 (fun es zq1 => ?_) (R.dictAt ck h1); revert zq1; refine ae3 fun g D nd => ?_)
    (refine xe1 (fun ks zq1 => ?_) (dictOf_of (prog := prog) (w := w) D nd g); revert zq1; refine ae2 fun e1 e2 => ?_)
    have hl : ks.length = kvs.length := by have := congrArg List.length e1; simpa using this
    unfold Src.vals keysV at e
    rw [List.getElem?_map, Option.map_eq_some_iff] at e
    (revert e; refine xe1 fun zq1 zq2 => ?_; rcases zq1 with ⟨key, val⟩; revert zq2; refine ae2 fun e3 zq3 => ?_; subst zq3)
    have e4 : (ks.map (·.1))[k]? = some key := by rw [e1, List.getElem?_map, e3]; rfl
    rw [List.getElem?_map, Option.map_eq_some_iff] at e4
    (revert e4; refine xe1 fun zq1 zq2 => ?_; rcases zq1 with ⟨key', u⟩; revert zq2; refine ae2 fun e5 e6 => ?_)
    dsimp only at e6
    subst e6
    rw [← hl] at h2
    refine wpAny_pyNext_dict_item h2 e2 e5 fun rk h3 h4 h5 h6 => ?_
    (refine xe1 (fun t zq1 => ?_) (Value.isInt_shape h4); subst zq1)
    rw [hl] at h5
    exact ⟨_, h3, s.toks, rfl, .int _ _, rfl, h6, a, h1, h5⟩
  | rng n =>
    unfold Src.vals at e
    rw [List.getElem?_map, Option.map_eq_some_iff] at e
    (revert e; refine xe1 fun j zq1 => ?_; revert zq1; refine ae2 fun e1 zq2 => ?_; subst zq2)
    (refine xe1 (fun hlt e2 => ?_) (List.getElem?_eq_some_iff.mp e1))
    rw [List.getElem_range] at e2
    rw [List.length_range] at hlt
    subst e2
    refine wpAny_pyNext_range_item x.2 (by omega) fun h3 h4 h5 => ⟨_, h3, _, rfl, .int _ _, rfl, h5, by omega, ?_⟩
    have e3 : ((k + 1 : Nat) : Int) = (k : Int) + 1 := by omega
    rw [e3, show (n : Int) - ((k : Int) + 1) = (n : Int) - k - 1 by omega]
    exact h4

theorem next_end {src : Src} {it : Addr} {k : Nat} (hh : A.handled = none) (R : Rel C h₀ φ h s.heap) (ck : src.chk h) (x : src.At φ it k s.heap) (e : src.vals[k]? = none) :
    wpAny (model prog w) A (pyNext (.ref it)) (fun r s' => r = none ∧ ∃ h1, s' = { s with heap := h1 } ∧ Heap.ExtBut it s.heap h1) E s := by
  cases src with
  | lst i xs =>
    (revert x; refine xe1 fun a zq1 => ?_; revert zq1; refine ae2 fun h1 h2 => ?_)
    (refine xe2 (fun vs n zq1 => ?_) (R.listAt ck h1); revert zq1; refine ae2 fun g r => ?_)
    have hl := r.length
    unfold Src.vals at e
    dsimp only at e
    rw [List.getElem?_eq_none_iff] at e
    exact wpAny_pyNext_list_end hh h2 (isList_of g) (by simp; omega) fun h3 h4 => ⟨rfl, h3, rfl, h4⟩
  | dct i kvs ep =>
    (revert x; refine xe1 fun a zq1 => ?_; revert zq1; refine ae2 fun h1 h2 => ?_)
    (refine xe1 (fun es zq1 => ?_) (R.dictAt ck h1); revert zq1; refine ae3 fun g D nd => ?_)
    (refine xe1 (fun ks zq1 => ?_) (dictOf_of (prog := prog) (w := w) D nd g); revert zq1; refine ae2 fun e1 e2 => ?_)
    have hl : ks.length = kvs.length := by have := congrArg List.length e1; simpa using this
    unfold Src.vals keysV at e
    rw [List.getElem?_eq_none_iff, List.length_map] at e
    rw [← hl] at h2
    exact wpAny_pyNext_dict_end hh h2 e2 (by rw [List.getElem?_eq_none_iff]; omega) fun h3 h4 => ⟨rfl, h3, rfl, h4⟩
  | rng n =>
    unfold Src.vals at e
    rw [List.getElem?_eq_none_iff, List.length_map, List.length_range] at e
    exact wpAny_pyNext_range_end hh x.2 (by omega) fun h3 h4 => ⟨rfl, h3, rfl, h4⟩

theorem iter_self {src : Src} {it : Addr} {k : Nat} {Q : Value → Shared → Prop} (hn : src.heaped) (x : src.At φ it k s.heap) (h : Q (.ref it) s) : wpAny (model prog w) A (pyIter (.ref it)) Q E s := by
  cases src with
  | lst i xs => (revert x; refine xe1 fun a zq1 => ?_; revert zq1; refine ae2 fun h1 h2 => ?_); exact wpAny_pyIter_listiter h2 h
  | dct i kvs ep => (revert x; refine xe1 fun a zq1 => ?_; revert zq1; refine ae2 fun h1 h2 => ?_); exact wpAny_pyIter_keyiter h2 h
  | rng n => exact hn.elim

/- a fresh iterator over what stands -/
set_option tactic.hygienic true in
theorem iter_ok {v : V} {rv : Value} {r : List V × M Unit} (hs : 1 < h₀.objs.size) (R : Rel C h₀ φ h s.heap) (hv : VR φ v rv) (e : iterA v h = some (r, h')) :
    h' = h ∧ ∃ src : Src, r.1 = src.vals ∧ src.heaped ∧ src.chk h ∧ (∀ g g' u, r.2 g = some (u, g') → g' = g ∧ src.chk g) ∧
      ∀ (A : Around) (E : Value → Shared → Prop), wpAny (model prog w) A (pyIter rv) (fun it s' => ∃ h1 tk, it = .ref s.heap.objs.size ∧ s' = { s with heap := h1, toks := tk } ∧ (∀ b o, s.heap.get? b = some o → h1.get? b = some o) ∧ src.At φ s.heap.objs.size 0 h1) E s := by
  unfold iterA at e
  split at e
  · cases hv with
    | ref i a hi =>
    (refine xe1 (fun o zq1 => ?_) (rd_bind e); revert zq1; refine ae2 fun q e1 => ?_)
    split at e1
    · rename_i xs
      (refine ae2 (fun zq1 zq2 => ?_) (pure_some e1); subst zq1; subst zq2)
      refine ⟨rfl, .lst _ xs, rfl, trivial, q, fun g g' u eu => ?_, fun A E => ?_⟩
      · (refine ae2 (fun p1 p2 => ?_) (chk_some eu)); exact ⟨p2, p1⟩
      · (refine xe2 (fun vs n zq1 => ?_) (R.listAt q hi); revert zq1; refine ae2 fun g rr => ?_)
        exact wpAny_pyIter_list (isList_of g) ⟨_, s.toks, rfl, rfl, fun zz zz e => Heap.get?_push_of_some _ e, a, hi, _, Heap.get?_push_size _ rfl, rfl, rfl⟩
    · rename_i kvs ep
      (refine ae2 (fun zq1 zq2 => ?_) (pure_some e1); subst zq1; subst zq2)
      refine ⟨rfl, .dct _ kvs ep, rfl, trivial, q, fun g g' u eu => ?_, fun A E => ?_⟩
      · (refine ae2 (fun p1 p2 => ?_) (chk_some eu)); exact ⟨p2, p1⟩
      · (refine xe1 (fun es zq1 => ?_) (R.dictAt q hi); revert zq1; refine ae3 fun g D nd => ?_)
        (refine xe1 (fun ks zq1 => ?_) (dictOf_of (prog := prog) (w := w) D nd g); revert zq1; refine ae2 fun e1 e2 => ?_)
        have hl : ks.length = kvs.length := by have := congrArg List.length e1; simpa using this
        have ha : (a == sysModules) = false := ge_ne (R.notRo hi q (fun zz q => nomatch q)) hs
        refine wpAny_pyIter_dict ha e2 ⟨_, s.toks, rfl, rfl, fun zz zz e => Heap.get?_push_of_some _ e, a, hi, _, Heap.get?_push_size _ rfl, rfl, ?_⟩
        rw [hl]; rfl
    · cases e1
  · cases e

set_option tactic.hygienic true in
theorem range_ok {v : V} {rv : Value} {r : List V} (hv : VR φ v rv) (e : rangeA v h = some (r, h')) :
    h' = h ∧ ∃ src : Src, r = src.vals ∧ (∀ g, src.chk g) ∧
      ∀ (A : Around) (E : Value → Shared → Prop), wpAny (model prog w) A (call (.type "range") [rv]) (fun rg s1 => ∃ h1 tk, s1 = { s with heap := h1, toks := tk } ∧ (∀ b o, s.heap.get? b = some o → h1.get? b = some o) ∧
        wpAny (model prog w) A (pyIter rg) (fun it s' => ∃ I h1 tk, it = .ref I ∧ s.heap.get? I = none ∧ s.heap.objs.size ≤ I ∧ s' = { s with heap := h1, toks := tk } ∧ (∀ b o, s.heap.get? b = some o → h1.get? b = some o) ∧ src.At φ I 0 h1) E s1) E s := by
  unfold rangeA at e
  split at e
  · cases hv
    rename_i n t
    (refine ae2 (fun q e => ?_) (ite_some e))
    (refine ae2 (fun zq1 zq2 => ?_) (pure_some e); subst zq1; subst zq2)
    have q : 0 ≤ n ∧ n ≤ 1000 := q
    (revert q; refine ae2 fun q0 q => ?_)
    refine ⟨rfl, .rng n.toNat, rfl, fun zz => trivial, fun A E => ?_⟩
    have hsz : Builtin.Range.rangeSize 0 n 1 = (n.toNat : Int) := by
      rw [rangeSize_one]
      by_cases h0 : 0 < n
      · rw [if_pos h0]; omega
      · rw [if_neg h0]
        exact (Int.toNat_of_nonneg (Int.le_refl 0)).symm.trans (by rw [Int.le_antisymm (Int.not_lt.mp h0) q0])
    refine call_range_1 ⟨_, _, rfl, fun zz zz e => Heap.get?_push_of_some _ e, ?_⟩
    have hge : s.heap.get? (s.heap.objs.size + 1) = none := by
      cases e : s.heap.get? (s.heap.objs.size + 1) with
      | none => rfl
      | some o => exact absurd (Heap.lt_size e) (Nat.not_lt.mpr (Nat.le_succ _))
    refine wpAny_pyIter_range (a := 0) (b := n) (c := 1) (IsRange.new ..) ?_ ⟨_, _, _, rfl, by rw [Heap.size_push]; exact hge, by rw [Heap.size_push]; exact Nat.le_succ _, rfl,
      fun zz zz e => Heap.get?_push_of_some _ (Heap.get?_push_of_some _ e), Nat.zero_le _, ?_⟩
    · unfold Builtin.Range.small Builtin.Range.rangeFitsLong
      rw [hsz]
      have h1 : (n.toNat : Int) ≤ 1000 := by omega
      have h2 : (n.toNat : Int) = n ∨ n < 0 := by omega
      by_cases h3 : (n.toNat : Int) = 0
      · simp; omega
      · simp; omega
    · rw [hsz]
      exact Heap.get?_push_size _ rfl
  · cases e
end
end

section
open PySem PySem.W PyProof.Rows PySem.SeqAt

noncomputable abbrev NK := List (Str × NameKind)
noncomputable def isVar (ks : NK) (x : Str) : Bool := (ks.lookup x == some .local || ks.lookup x == some .cell || ks.lookup x == some .free) && !(x == ("__debug__" : Str)) && !(x == ("__classdict__" : Str))
noncomputable def isFun (fs : List Str) (ks : NK) (f : Str) : Bool := ks.lookup f == some .globalImplicit && !(f == ("__debug__" : Str)) && fs.contains f
noncomputable def isStore (ks : NK) (x : Str) : Bool := ks.lookup x == some .local || ks.lookup x == some .cell
noncomputable def notSup : Expr → Bool
  | .Call (.Name _ _) [] [] _ => false
  | _ => true
noncomputable def plainSl : Expr → Bool
  | .Slice .. => false
  | _ => true
noncomputable def plainIt : Expr → Bool
  | .Set .. => false
  | _ => true
noncomputable def notStar : Expr → Bool
  | .Starred .. => false
  | _ => true
noncomputable def relK (ks : NK) (ns : NK) : NK := ns.map fun (n, k) => if k == .free && ks.lookup n == some .cell then (n, .cell) else (n, k)

noncomputable def okSc (ks : NK) (gs : List Comprehension) (sc : Scope) : Bool :=
  sc.kind == .function && decide ((sc.names.map (·.1)).Nodup) && sc.names.all fun (n, k) => match k with
    | .local => isTarget gs n
    | .free => !isTarget gs n && (ks.lookup n == some .cell || ks.lookup n == some .free)
    | .globalImplicit => true
    | _ => false

theorem isTarget_head {x : Str} {p : Pos} {it : Expr} {ifs : List Expr} {z : Int} {gs : List Comprehension} : isTarget (⟨.Name x p, it, ifs, z⟩ :: gs) x = true := by
  unfold isTarget; rw [List.any_cons]; simp [targetName]
theorem isTarget_cons {g : Comprehension} {gs : List Comprehension} {y : Str} (h : isTarget gs y = true) : isTarget (g :: gs) y = true := by
  unfold isTarget at h ⊢
  rw [List.any_cons]
  rcases Bool.or_eq_true_iff.mp h with h | h
  · rw [h]; rfl
  · rw [h]; simp

section
variable (fs : List Str)
mutual
noncomputable def okE : Expr → NK → Bool
  | .Constant .., _ => true
  | .Name x _, ks => isVar ks x
  | .BoolOp _ vs _, ks => okEs vs ks
  | .BinOp l _ r _, ks => okE l ks && okE r ks
  | .UnaryOp _ x _, ks => okE x ks
  | .IfExp t b o _, ks => okT t ks && okE t ks && okE b ks && okE o ks
  | .Compare l [op] [r] _, ks => okE l ks && okE r ks && !behindInMarks op r
  | .Call (.Name f _) as [] _, ks => isFun fs ks f && okEs as ks
  | .Call (.Attribute o _ ap) as [] p, ks => okE o ks && okEs as ks && decide (as.length < 30) && ap.endLine == p.line && notSup o
  | .Attribute o _ _, ks => okE o ks && notSup o
  | .Subscript v (.Slice .none (some (.Constant (.int _) _ _)) .none _) _, ks => okE v ks
  | .Subscript v i _, ks => okE v ks && okE i ks && plainSl i
  | .List es _, ks => okEs es ks
  | .Tuple es _ _, ks => okEs es ks
  | .Dict [] [] _, _ => true
  | .ListComp e (⟨.Name x p, it, ifs, z⟩ :: gs) sc _, ks => !isTarget gs x && (okE it ks && plainIt it && z == 0 && okSc ks (⟨.Name x p, it, ifs, z⟩ :: gs) sc && (relK ks sc.names).lookup x == some .local && okTs ifs (relK ks sc.names) && okGs gs (relK ks sc.names) && okE e (relK ks sc.names))
  | _, _ => false
noncomputable def okEs : List Expr → NK → Bool
  | [], _ => true
  | e :: es, ks => okE e ks && notStar e && okEs es ks
noncomputable def okT : Expr → NK → Bool
  | .UnaryOp .Not x _, ks => okT x ks
  | .BoolOp _ vs _, ks => okTs vs ks
  | .IfExp .., _ => false
  | .Compare l [op] [r] _, ks => okE l ks && okE r ks && !behindInMarks op r
  | .Name x _, ks => isVar ks x
  | .Call (.Name f _) as [] _, ks => isFun fs ks f && okEs as ks
  | _, _ => false
noncomputable def okTs : List Expr → NK → Bool
  | [], _ => true
  | e :: es, ks => okT e ks && okTs es ks
noncomputable def okGs : List Comprehension → NK → Bool
  | [], _ => true
  | ⟨.Name x _, it, ifs, z⟩ :: gs, ks => !isTarget gs x && (okE it ks && plainIt it && z == 0 && ks.lookup x == some .local && okTs ifs ks && okGs gs ks)
  | _, _ => false
end
end

/- all that a run leans on -/
structure Cx (prog : Program) (w : World) (K : Frag) (C : Addr) (h₀ : Heap) (fs : List Str) (fn fm : List (Str × Value)) (n : Nat) (cl : Str → List V → M V) : Prop where
  X : K.In h₀
  nl : h₀.NoLimit
  two : 1 < h₀.objs.size
  cls : Cls K C
  gat : findIn K (.ref C) "__getattr__" = some none
  names : ∀ f, fs.contains f = true → ∃ rf, fn.lookup f = some rf
  glob : ∃ mg mb, h₀.Ns mainGlobals mg ∧ h₀.Ns builtinsNs mb ∧ ∀ f rf, fn.lookup f = some rf → mg f = some rf ∨ (mg f = none ∧ mb f = some rf)
  keep : ∀ f rf, fn.lookup f = some rf → ∀ h, K.In h → ∃ k, (k = Keeper.frame ∨ k = Keeper.machine ∨ k = Keeper.boundFrame) ∧ Looks (model prog w) h (keeperOf rf) k
  meth : ∀ x f, methN x = some f → x ≠ sNear ∧ x ≠ sMembers ∧ ∃ a, fm.lookup f = some (.ref a) ∧ findIn K (.ref C) x = some (some (.ref a)) ∧ typeIn K (.ref a) = some (.type "function") ∧ keepIn K (.ref a) = true
  cl : ∀ f rf vs h h' v, fn.lookup f = some rf ∨ fm.lookup f = some rf → cl f vs h = some (v, h') → ∀ (A : Around) (E : Value → Shared → Prop) (s : Shared) (φ : List Addr) (rvs : List Value), Bd A n → Rel C h₀ φ h s.heap →
    h₀.objs.size ≤ s.heap.objs.size → VRs φ vs rvs → wpAny (model prog w) A (call rf rvs) (PV C h₀ [] φ s h' v) E s

section
variable (prog : Program) (w : World) (C : Addr) (h₀ : Heap) (fs : List Str) (n : Nat) (cl : Str → List V → M V)
noncomputable def EvP (e : Expr) : Prop := ∀ (env : Env) (m : L) (A : Around) (E : Value → Shared → Prop) (s : Shared) (φ : List Addr) (h h' : H) (v : V), okE fs e env.scope.names = true → Bd A n → Rel C h₀ φ h s.heap → EnvOk h₀ env m φ s.heap →
  evalA cl e m h = some (v, h') → wpAny (model prog w) A (eval e env) (PV C h₀ [] φ s h' v) E s
noncomputable def EvsP (es : List Expr) : Prop := ∀ (env : Env) (m : L) (A : Around) (E : Value → Shared → Prop) (s : Shared) (φ : List Addr) (h h' : H) (vs : List V) (pos : Pos), okEs fs es env.scope.names = true → Bd A n → Rel C h₀ φ h s.heap → EnvOk h₀ env m φ s.heap →
  evalsA cl es m h = some (vs, h') → wpAny (model prog w) A (spliced (backTo pos (starEach es env))) (fun rvs s' => P0 C h₀ [] φ s h' (fun φ' zz => VRs φ' vs rvs) s') E s
noncomputable def TsP (e : Expr) : Prop := ∀ (env : Env) (m : L) (A : Around) (E : Value → Shared → Prop) (s : Shared) (φ : List Addr) (h h' : H) (b : Bool), okT fs e env.scope.names = true → Bd A n → Rel C h₀ φ h s.heap → EnvOk h₀ env m φ s.heap →
  testA cl e m (evalA cl e m) h = some (b, h') → wpAny (model prog w) A (isTrue e env (eval e env)) (fun b' s' => b' = b ∧ P0 C h₀ [] φ s h' (fun zz zz => True) s') E s
noncomputable def TssP (es : List Expr) : Prop := ∀ (op : BoolOp) (env : Env) (m : L) (A : Around) (E : Value → Shared → Prop) (s : Shared) (φ : List Addr) (h h' : H) (b : Bool), okTs fs es env.scope.names = true → Bd A n → Rel C h₀ φ h s.heap → EnvOk h₀ env m φ s.heap →
  testsA cl op es m h = some (b, h') → wpAny (model prog w) A (allTrue op es env) (fun b' s' => b' = b ∧ P0 C h₀ [] φ s h' (fun zz zz => True) s') E s
noncomputable def BoP (es : List Expr) : Prop := ∀ (op : BoolOp) (env : Env) (m : L) (A : Around) (E : Value → Shared → Prop) (s : Shared) (φ : List Addr) (h h' : H) (v : V) (pos : Pos), okEs fs es env.scope.names = true → Bd A n → Rel C h₀ φ h s.heap → EnvOk h₀ env m φ s.heap →
  boolA cl op es m h = some (v, h') → wpAny (model prog w) A (boolOp pos op (evalEach es env)) (PV C h₀ [] φ s h' v) E s
noncomputable def CdP (es : List Expr) : Prop := ∀ (env : Env) (m : L) (A : Around) (E : Value → Shared → Prop) (s : Shared) (φ : List Addr) (h h' : H) (b : Bool), okTs fs es env.scope.names = true → Bd A n → Rel C h₀ φ h s.heap → EnvOk h₀ env m φ s.heap →
  condsA cl es m h = some (b, h') → wpAny (model prog w) A (forIn es true fun c r => if r = true then do let ok ← isTrue c env (eval c env); pure (ForInStep.yield ok) else pure (ForInStep.yield r))
    (fun b' s' => b' = b ∧ P0 C h₀ [] φ s h' (fun zz zz => True) s') E s
end

end

section
open PySem PySem.W PyProof.Rows PySem.SeqAt

theorem and2 {a b : Bool} (h : (a && b) = true) : a = true ∧ b = true := by simpa using h

section
variable {prog : Program} {w : World} {K : Frag} {C : Addr} {h₀ : Heap} {fs : List Str} {fn fm : List (Str × Value)} {n : Nat} {cl : Str → List V → M V}

theorem isVar_or {ks : NK} {x : Str} (h : isVar ks x = true) : (ks.lookup x = some .local ∨ ks.lookup x = some .cell ∨ ks.lookup x = some .free) ∧ (x == ("__debug__" : Str)) = false ∧ (x == ("__classdict__" : Str)) = false := by
  unfold isVar at h
  (refine ae2 (fun h h3 => ?_) (and2 h))
  (refine ae2 (fun h h2 => ?_) (and2 h))
  refine ⟨?_, by simpa using h2, by simpa using h3⟩
  rcases Bool.or_eq_true_iff.mp h with h | h
  · rcases Bool.or_eq_true_iff.mp h with h | h
    · exact .inl (beq_iff_eq.mp h)
    · exact .inr (.inl (beq_iff_eq.mp h))
  · exact .inr (.inr (beq_iff_eq.mp h))

theorem ev_Constant (c : Const) (k : Nat) (p : Pos) : EvP prog w C h₀ fs n cl (.Constant c k p) := by
  intro env m A E s φ h h' v _ _ R _ e
  have e : constA c h = some (v, h') := e
  unfold constA at e
  split at e
  · (refine ae2 (fun zq1 zq2 => ?_) (pure_some e); subst zq1; subst zq2); exact wpAny_Constant_none (PV_here R .none)
  · (refine ae2 (fun zq1 zq2 => ?_) (pure_some e); subst zq1; subst zq2); exact wpAny_Constant_bool (PV_here R (.bool _))
  · (refine ae2 (fun zq1 zq2 => ?_) (pure_some e); subst zq1; subst zq2); exact wpAny_Constant_int (PV_same R (.int _ _))
  · (refine ae2 (fun zq1 zq2 => ?_) (pure_some e); subst zq1; subst zq2); exact wpAny_Constant_str (PV_same R (.str _ _))
  · exact (fail_some e).elim

theorem ev_Name (x : Str) (p : Pos) : EvP prog w C h₀ fs n cl (.Name x p) := by
  intro env m A E s φ h h' v ok _ R en e
  have ok : isVar env.scope.names x = true := ok
  (refine ae3 (fun h1 h2 h3 => ?_) (isVar_or ok))
  have e : nameA m x h = some (v, h') := e
  unfold nameA at e
  simp only [Option.map_eq_some_iff, Prod.mk.injEq] at e
  (revert e; refine xe1 fun v' zq1 => ?_; revert zq1; refine ae3 fun e1 zq2 zq3 => ?_; subst zq2; subst zq3)
  exact wpAny_Name (load_ok en h1 h3 e1 fun rv hv => PV_here R hv) h2

theorem ev_BinOp (l : Expr) (op : Operator) (r : Expr) (p : Pos) (hl : EvP prog w C h₀ fs n cl l) (hr : EvP prog w C h₀ fs n cl r) : EvP prog w C h₀ fs n cl (.BinOp l op r p) := by
  intro env m A E s φ h h' v ok b R en e
  (refine ae2 (fun ok1 ok2 => ?_) (and2 (show (okE fs l env.scope.names && okE fs r env.scope.names) = true from ok)))
  have e : (do let a ← evalA cl l m; let b ← evalA cl r m; binA op a b : M V) h = some (v, h') := e
  (refine xe2 (fun a h1 zq1 => ?_) (bind_some e); revert zq1; refine ae2 fun e1 e => ?_)
  (refine xe2 (fun c h2 zq1 => ?_) (bind_some e); revert zq1; refine ae2 fun e2 e => ?_)
  refine wpAny_BinOp (P0_then (hl env m A E s φ h h1 a ok1 b R en e1) fun ra φ1 g1 tk st R1 v1 => ?_)
  have en1 := en.step st
  refine P0_then (hr env m A E _ φ1 h1 h2 c ok2 b R1 en1 e2) fun rb φ2 g2 tk2 st2 R2 v2 => ?_
  have en2 := en1.step st2
  exact wpAny_mono (binop_ok (s := { s with heap := g2, toks := tk2 }) en2.z R2 (v1.mono st2.pre) v2 e) (fun zz zz p => (P0.after (s := s) (tk := tk2) (st.trans st2) p)) fun zz zz e => e

theorem ev_USub (x : Expr) (p : Pos) (hx : EvP prog w C h₀ fs n cl x) : EvP prog w C h₀ fs n cl (.UnaryOp .USub x p) := by
  intro env m A E s φ h h' v ok b R en e
  have e : (do let a ← evalA cl x m; negA a : M V) h = some (v, h') := e
  (refine xe2 (fun a h1 zq1 => ?_) (bind_some e); revert zq1; refine ae2 fun e1 e => ?_)
  refine wpAny_UnaryOp (P0_then (hx env m A E s φ h h1 a ok b R en e1) fun ra φ1 g1 tk st R1 v1 => ?_)
  exact wpAny_mono (neg_ok (s := { s with heap := g1, toks := tk }) R1 v1 e) (fun zz zz p => p.after st) fun zz zz e => e

theorem ev_IfExp (t b o : Expr) (p : Pos) (ht : TsP prog w C h₀ fs n cl t) (hb : EvP prog w C h₀ fs n cl b) (ho : EvP prog w C h₀ fs n cl o) : EvP prog w C h₀ fs n cl (.IfExp t b o p) := by
  intro env m A E s φ h h' v ok bd R en e
  (refine ae2 (fun ok ok4 => ?_) (and2 (show (okT fs t env.scope.names && okE fs t env.scope.names && okE fs b env.scope.names && okE fs o env.scope.names) = true from ok)))
  (refine ae2 (fun ok ok3 => ?_) (and2 ok))
  (refine ae2 (fun ok1 zz => ?_) (and2 ok))
  have e : (do let c ← testA cl t m (evalA cl t m); if c = true then evalA cl b m else evalA cl o m : M V) h = some (v, h') := e
  (refine xe2 (fun c h1 zq1 => ?_) (bind_some e); revert zq1; refine ae2 fun e1 e => ?_)
  refine wpAny_IfExp (wpAny_mono (ht env m A E s φ h h1 c ok1 bd R en e1) (fun r s' q => ?_) fun zz zz e => e)
  (revert q; refine ae2 fun zq1 zq2 => ?_; subst zq1; revert zq2; refine xe3 fun φ1 g1 tk zq3 => ?_; revert zq3; refine ae2 fun zq4 zq5 => ?_; subst zq4; revert zq5; refine ae3 fun st R1 zz => ?_)
  have en1 := en.step st
  cases r with
  | true =>
    simp only [if_true] at e ⊢
    exact wpAny_mono (hb env m A E _ φ1 h1 h' v ok3 bd R1 en1 e) (fun zz zz p => p.after st) fun zz zz e => e
  | false =>
    simp only [Bool.false_eq_true, if_false] at e ⊢
    exact wpAny_mono (ho env m A E _ φ1 h1 h' v ok4 bd R1 en1 e) (fun zz zz p => p.after st) fun zz zz e => e

theorem ev_Compare (hs : 1 < h₀.objs.size) (l : Expr) (op : CmpOp) (r : Expr) (p : Pos) (hl : EvP prog w C h₀ fs n cl l) (hr : EvP prog w C h₀ fs n cl r) : EvP prog w C h₀ fs n cl (.Compare l [op] [r] p) := by
  intro env m A E s φ h h' v ok b R en e
  (refine ae2 (fun ok ok3 => ?_) (and2 (show (okE fs l env.scope.names && okE fs r env.scope.names && !behindInMarks op r) = true from ok)))
  (refine ae2 (fun ok1 ok2 => ?_) (and2 ok))
  have e : (do let a ← evalA cl l m; let b ← evalA cl r m; cmpA op a b : M V) h = some (v, h') := e
  (refine xe2 (fun a h1 zq1 => ?_) (bind_some e); revert zq1; refine ae2 fun e1 e => ?_)
  (refine xe2 (fun c h2 zq1 => ?_) (bind_some e); revert zq1; refine ae2 fun e2 e => ?_)
  refine wpAny_Compare1 (P0_then (hl env m A E s φ h h1 a ok1 b R en e1) fun ra φ1 g1 tk st R1 v1 => ?_) (by simpa using ok3)
  have en1 := en.step st
  refine P0_then (hr env m A E _ φ1 h1 h2 c ok2 b R1 en1 e2) fun rb φ2 g2 tk2 st2 R2 v2 => ?_
  have hu : A.units + 64 < cLine := by have := b.2.2; omega
  exact wpAny_mono (cmp_ok (s := { s with heap := g2, toks := tk2 }) hs hu R2 (v1.mono st2.pre) v2 e) (fun zz zz p => (P0.after (s := s) (tk := tk2) (st.trans st2) p)) fun zz zz e => e

theorem starEach_plain {e : Expr} {rest : List Expr} {env : Env} (h : notStar e = true) : starEach (e :: rest) env = (false, eval e env) :: starEach rest env := by
  cases e <;> first | rfl | cases h

theorem evs_nil : EvsP prog w C h₀ fs n cl [] := by
  intro env m A E s φ h h' vs pos _ _ R _ e
  have e : (pure [] : M (List V)) h = some (vs, h') := e
  (refine ae2 (fun zq1 zq2 => ?_) (pure_some e); subst zq1; subst zq2)
  exact wpAny_items_nil ⟨φ, s.heap, s.toks, rfl, Step.refl _ _ _, R, .nil⟩

theorem evs_cons (x : Expr) (xs : List Expr) (hx : EvP prog w C h₀ fs n cl x) (hxs : EvsP prog w C h₀ fs n cl xs) : EvsP prog w C h₀ fs n cl (x :: xs) := by
  intro env m A E s φ h h' vs pos ok b R en e
  (refine ae2 (fun ok ok3 => ?_) (and2 (show (okE fs x env.scope.names && notStar x && okEs fs xs env.scope.names) = true from ok)))
  (refine ae2 (fun ok1 ok2 => ?_) (and2 ok))
  have e : (do let v ← evalA cl x m; let vs ← evalsA cl xs m; pure (v :: vs) : M (List V)) h = some (vs, h') := e
  (refine xe2 (fun a h1 zq1 => ?_) (bind_some e); revert zq1; refine ae2 fun e1 e => ?_)
  (refine xe2 (fun c h2 zq1 => ?_) (bind_some e); revert zq1; refine ae2 fun e2 e => ?_)
  (refine ae2 (fun zq1 zq2 => ?_) (pure_some e); subst zq1; subst zq2)
  refine wpAny_items_cons (P0_then (hx env m A E s φ h h1 a ok1 b R en e1) fun ra φ1 g1 tk st R1 v1 => ?_) (starEach_plain ok2)
  exact wpAny_mono (hxs env m A E _ φ1 h1 h' c pos ok3 b R1 (en.step st) e2) (fun rvs s' p => (P0.imp p fun φ' zz st' zz q => VRs.cons (v1.mono st'.pre) q).after st) fun zz zz e => e

theorem ev_List (es : List Expr) (p : Pos) (hs : EvsP prog w C h₀ fs n cl es) : EvP prog w C h₀ fs n cl (.List es p) := by
  intro env m A E s φ h h' v ok b R en e
  have e : (do let vs ← evalsA cl es m; newL vs : M V) h = some (v, h') := e
  (refine xe2 (fun a h1 zq1 => ?_) (bind_some e); revert zq1; refine ae2 fun e1 e => ?_)
  refine List_ (P0_then (hs env m A E s φ h h1 a p ok b R en e1) fun ra φ1 g1 tk st R1 v1 => ?_)
  have en1 := en.step st
  exact wpAny_mono (newL_ok (s := { s with heap := g1, toks := tk }) en1.z R1 v1 e) (fun zz zz p => p.after st) fun zz zz e => e
theorem ev_Tuple (es : List Expr) (k : Nat) (p : Pos) (hs : EvsP prog w C h₀ fs n cl es) : EvP prog w C h₀ fs n cl (.Tuple es k p) := by
  intro env m A E s φ h h' v ok b R en e
  have e : (do let vs ← evalsA cl es m; newT vs : M V) h = some (v, h') := e
  (refine xe2 (fun a h1 zq1 => ?_) (bind_some e); revert zq1; refine ae2 fun e1 e => ?_)
  refine Tuple_ (P0_then (hs env m A E s φ h h1 a p ok b R en e1) fun ra φ1 g1 tk st R1 v1 => ?_)
  have en1 := en.step st
  exact wpAny_mono (newT_ok (s := { s with heap := g1, toks := tk }) en1.z R1 v1 e) (fun zz zz p => p.after st) fun zz zz e => e
theorem ev_Dict (p : Pos) : EvP prog w C h₀ fs n cl (.Dict [] [] p) := by
  intro env m A E s φ h h' v ok b R en e
  exact newD_ok en.z R e

theorem ev_Attribute {C' : Cx prog w K C h₀ fs fn fm n cl} (o : Expr) (x : Str) (p : Pos) (hs : EvP prog w C h₀ fs n cl o) : EvP prog w C h₀ fs n cl (.Attribute o x p) := by
  intro env m A E s φ h h' v ok b R en e
  (refine ae2 (fun ok1 ok2 => ?_) (and2 (show (okE fs o env.scope.names && notSup o) = true from ok)))
  have e : (do let ov ← evalA cl o m; getAttrA x ov : M V) h = some (v, h') := e
  (refine xe2 (fun a h1 zq1 => ?_) (bind_some e); revert zq1; refine ae2 fun e1 e => ?_)
  refine Attribute_any_ (P0_then (hs env m A E s φ h h1 a ok1 b R en e1) fun ra φ1 g1 tk st R1 v1 => ?_) ?_
  · exact wpAny_mono (getAttr_ok (s := { s with heap := g1, toks := tk }) C'.cls (C'.X.keeps R1.keep) R1 v1 e) (fun zz zz p => p.after st) fun zz zz e => e
  · have : attributeBase o x env (eval o env) = eval o env := by
      unfold attributeBase
      split
      · cases ok2
      · rfl
    show (do let o' ← attributeBase o x env (eval o env); _) = _
    rw [this]

theorem subscripted_plain {sl : Expr} (h : plainSl sl = true) (o i : Value) : subscripted sl false o i = operate [o, i] (getItem o i) := by
  unfold subscripted
  cases sl <;> first | rfl | cases h

theorem ev_Subscript (x i : Expr) (p : Pos) (hx : EvP prog w C h₀ fs n cl x) (hi : EvP prog w C h₀ fs n cl i) (hp : plainSl i = true) (okeq : ∀ ks, okE fs (.Subscript x i p) ks = (okE fs x ks && okE fs i ks && plainSl i))
    (eveq : ∀ m, evalA cl (.Subscript x i p) m = (do let o ← evalA cl x m; let j ← evalA cl i m; getItemA o j)) : EvP prog w C h₀ fs n cl (.Subscript x i p) := by
  intro env m A E s φ h h' v ok b R en e
  rw [okeq] at ok
  (refine ae2 (fun ok zz => ?_) (and2 ok))
  (refine ae2 (fun ok1 ok2 => ?_) (and2 ok))
  rw [eveq] at e
  (refine xe2 (fun a h1 zq1 => ?_) (bind_some e); revert zq1; refine ae2 fun e1 e => ?_)
  (refine xe2 (fun c h2 zq1 => ?_) (bind_some e); revert zq1; refine ae2 fun e2 e => ?_)
  refine Subscript_ (P0_then (hx env m A E s φ h h1 a ok1 b R en e1) fun ra φ1 g1 tk st R1 v1 => ?_)
  refine P0_then (hi env m A E _ φ1 h1 h2 c ok2 b R1 (en.step st) e2) fun rb φ2 g2 tk2 st2 R2 v2 => ?_
  exact wpAny_mono (getItem_ok (s := { s with heap := g2, toks := tk2 }) R2 (v1.mono st2.pre) v2 e (fun zz zz zz => subscripted_plain hp _ _)) (fun zz zz p => (P0.after (s := s) (tk := tk2) (st.trans st2) p)) fun zz zz e => e

theorem ev_Slice (x : Expr) (k : Int) (c : Nat) (p1 p2 p : Pos) (hx : EvP prog w C h₀ fs n cl x) : EvP prog w C h₀ fs n cl (.Subscript x (.Slice none (some (.Constant (.int k) c p1)) none p2) p) := by
  intro env m A E s φ h h' v ok b R en e
  have e : (do let o ← evalA cl x m; sliceA k o : M V) h = some (v, h') := e
  (refine xe2 (fun a h1 zq1 => ?_) (bind_some e); revert zq1; refine ae2 fun e1 e => ?_)
  refine Subscript_ (P0_then (hx env m A E s φ h h1 a ok b R en e1) fun ra φ1 g1 tk st R1 v1 => ?_)
  have en1 := en.step st
  exact wpAny_mono (slice_ok (s := { s with heap := g1, toks := tk }) en1.z R1 v1 e (fun zz zz => rfl)) (fun zz s2 q => wpAny_mono q (fun zz zz p => p.after st) fun zz zz e => e) fun zz zz e => e

/- tests -/
theorem truth_ok {v : V} {b : Bool} {h h' : H} {φ : List Addr} {rv : Value} {M : Model} {A : Around} {E : Value → Shared → Prop} {s : Shared} {Q : Bool → Shared → Prop} (hv : VR φ v rv) (e : truthA v h = some (b, h')) (q : Q b s) : h' = h ∧ wpAny M A (truthy rv) Q E s := by
  unfold truthA at e
  split at e
  · (refine ae2 (fun zq1 zq2 => ?_) (pure_some e); subst zq1; subst zq2)
    cases hv
    exact ⟨rfl, wpAny_truthy_bool q⟩
  · exact (fail_some e).elim

theorem ts_Not (x : Expr) (p : Pos) (hx : TsP prog w C h₀ fs n cl x) : TsP prog w C h₀ fs n cl (.UnaryOp .Not x p) := by
  intro env m A E s φ h h' b ok bd R en e
  have e : (do let b ← testA cl x m (evalA cl x m); pure (!b) : M Bool) h = some (b, h') := e
  (refine xe2 (fun a h1 zq1 => ?_) (bind_some e); revert zq1; refine ae2 fun e1 e => ?_)
  (refine ae2 (fun zq1 zq2 => ?_) (pure_some e); subst zq1; subst zq2)
  exact wpAny_isTrue_Not (wpAny_mono (hx env m A E s φ h h' a ok bd R en e1) (fun r s' q => ⟨by rw [q.1], q.2⟩) fun zz zz e => e)

theorem ts_BoolOp (op : BoolOp) (vs : List Expr) (p : Pos) (hx : TssP prog w C h₀ fs n cl vs) : TsP prog w C h₀ fs n cl (.BoolOp op vs p) := by
  intro env m A E s φ h h' b ok bd R en e
  exact wpAny_isTrue_BoolOp (hx op env m A E s φ h h' b ok bd R en e)

theorem ts_value (x : Expr) (hx : EvP prog w C h₀ fs n cl x) (he : ∀ env whole, isTrue x env whole = (do let v ← whole; standAt x.pos; holding [v] (truthy v))) (ht : ∀ m whole, testA cl x m whole = (do let v ← whole; truthA v))
    (hok : ∀ ks, okT fs x ks = true → okE fs x ks = true) : TsP prog w C h₀ fs n cl x := by
  intro env m A E s φ h h' b ok bd R en e
  rw [ht] at e
  (refine xe2 (fun a h1 zq1 => ?_) (bind_some e); revert zq1; refine ae2 fun e1 e => ?_)
  refine wpAny_isTrue_value (P0_then (hx env m A E s φ h h1 a (hok _ ok) bd R en e1) fun ra φ1 g1 tk st R1 v1 => ?_) (he _ _)
  have e' := e
  (refine ae2 (fun q zz => ?_) (truth_ok (M := model prog w) (A := A) (E := E) (s := s) (Q := fun zz zz => True) v1 e trivial))
  subst q
  exact (truth_ok v1 e' ⟨rfl, φ1, g1, tk, rfl, st, R1, trivial⟩).2

theorem ts_Compare (hs : 1 < h₀.objs.size) (l : Expr) (op : CmpOp) (r : Expr) (p : Pos) (hl : EvP prog w C h₀ fs n cl l) (hr : EvP prog w C h₀ fs n cl r) : TsP prog w C h₀ fs n cl (.Compare l [op] [r] p) := by
  intro env m A E s φ h h' v ok b R en e
  (refine ae2 (fun ok ok3 => ?_) (and2 (show (okE fs l env.scope.names && okE fs r env.scope.names && !behindInMarks op r) = true from ok)))
  (refine ae2 (fun ok1 ok2 => ?_) (and2 ok))
  have e : (do let x ← (do let a ← evalA cl l m; let b ← evalA cl r m; cmpA op a b); truthA x : M Bool) h = some (v, h') := e
  (refine xe2 (fun x h3 zq1 => ?_) (bind_some e); revert zq1; refine ae2 fun e3 e => ?_)
  (refine xe2 (fun a h1 zq1 => ?_) (bind_some e3); revert zq1; refine ae2 fun e1 e3 => ?_)
  (refine xe2 (fun c h2 zq1 => ?_) (bind_some e3); revert zq1; refine ae2 fun e2 e3 => ?_)
  refine wpAny_isTrue_Compare1 (P0_then (hl env m A E s φ h h1 a ok1 b R en e1) fun ra φ1 g1 tk st R1 v1 => ?_) (by simpa using ok3)
  have en1 := en.step st
  refine P0_then (hr env m A E _ φ1 h1 h2 c ok2 b R1 en1 e2) fun rb φ2 g2 tk2 st2 R2 v2 => ?_
  have hu : A.units + 64 < cLine := by have := b.2.2; omega
  refine wpAny_mono (cmp_ok (F := []) (s := { s with heap := g2, toks := tk2 }) hs hu R2 (v1.mono st2.pre) v2 e3) (fun rv s' p => ?_) fun zz zz e => e
  (revert p; refine xe3 fun φ3 g3 tk3 zq1 => ?_; revert zq1; refine ae2 fun zq2 zq3 => ?_; subst zq2; revert zq3; refine ae3 fun st3 R3 v3 => ?_)
  have e' := e
  (refine ae2 (fun q zz => ?_) (truth_ok (M := model prog w) (A := A) (E := E) (s := s) (Q := fun zz zz => True) v3 e trivial))
  subst q
  exact (truth_ok v3 e' ⟨rfl, φ3, g3, tk3, rfl, (st.trans st2).trans st3, R3, trivial⟩).2

theorem tss_nil : TssP prog w C h₀ fs n cl [] := by
  intro op env m A E s φ h h' b ok bd R en e
  cases op
  · have e : (pure true : M Bool) h = some (b, h') := e
    (refine ae2 (fun zq1 zq2 => ?_) (pure_some e); subst zq1; subst zq2)
    exact wpAny_allTrue_And_nil ⟨rfl, φ, s.heap, s.toks, rfl, Step.refl _ _ _, R, trivial⟩
  · have e : (pure false : M Bool) h = some (b, h') := e
    (refine ae2 (fun zq1 zq2 => ?_) (pure_some e); subst zq1; subst zq2)
    exact wpAny_allTrue_Or_nil ⟨rfl, φ, s.heap, s.toks, rfl, Step.refl _ _ _, R, trivial⟩

theorem tss_cons (x : Expr) (xs : List Expr) (hx : TsP prog w C h₀ fs n cl x) (hxs : TssP prog w C h₀ fs n cl xs) : TssP prog w C h₀ fs n cl (x :: xs) := by
  intro op env m A E s φ h h' b ok bd R en e
  (refine ae2 (fun ok1 ok2 => ?_) (and2 (show (okT fs x env.scope.names && okTs fs xs env.scope.names) = true from ok)))
  have e : (do
    let t ← testA cl x m (evalA cl x m)
    match op, t with
    | .And, false => pure false
    | .Or, true => pure true
    | _, _ => testsA cl op xs m : M Bool) h = some (b, h') := e
  (refine xe2 (fun t h1 zq1 => ?_) (bind_some e); revert zq1; refine ae2 fun e1 e => ?_)
  cases op
  · refine wpAny_allTrue_And_cons (wpAny_mono (hx env m A E s φ h h1 t ok1 bd R en e1) (fun r s' q => ?_) fun zz zz e => e)
    (revert q; refine ae2 fun zq1 zq2 => ?_; subst zq1; revert zq2; refine xe3 fun φ1 g1 tk zq3 => ?_; revert zq3; refine ae2 fun zq4 zq5 => ?_; subst zq4; revert zq5; refine ae3 fun st R1 zz => ?_)
    cases r with
    | true => exact wpAny_mono (hxs .And env m A E _ φ1 h1 h' b ok2 bd R1 (en.step st) e) (fun zz zz p => ⟨p.1, p.2.after st⟩) fun zz zz e => e
    | false =>
      (refine ae2 (fun zq1 zq2 => ?_) (pure_some e); subst zq1; subst zq2)
      exact ⟨rfl, φ1, g1, tk, rfl, st, R1, trivial⟩
  · refine wpAny_allTrue_Or_cons (wpAny_mono (hx env m A E s φ h h1 t ok1 bd R en e1) (fun r s' q => ?_) fun zz zz e => e)
    (revert q; refine ae2 fun zq1 zq2 => ?_; subst zq1; revert zq2; refine xe3 fun φ1 g1 tk zq3 => ?_; revert zq3; refine ae2 fun zq4 zq5 => ?_; subst zq4; revert zq5; refine ae3 fun st R1 zz => ?_)
    cases r with
    | false => exact wpAny_mono (hxs .Or env m A E _ φ1 h1 h' b ok2 bd R1 (en.step st) e) (fun zz zz p => ⟨p.1, p.2.after st⟩) fun zz zz e => e
    | true =>
      (refine ae2 (fun zq1 zq2 => ?_) (pure_some e); subst zq1; subst zq2)
      exact ⟨rfl, φ1, g1, tk, rfl, st, R1, trivial⟩

theorem bo_cons (x : Expr) (xs : List Expr) (hx : EvP prog w C h₀ fs n cl x) (hxs : BoP prog w C h₀ fs n cl xs) : BoP prog w C h₀ fs n cl (x :: xs) := by
  intro op env m A E s φ h h' v pos ok bd R en e
  (refine ae2 (fun ok ok2 => ?_) (and2 (show (okE fs x env.scope.names && notStar x && okEs fs xs env.scope.names) = true from ok)))
  (refine ae2 (fun ok1 zz => ?_) (and2 ok))
  have e : (do
    let v ← evalA cl x m
    match xs with
    | [] => pure v
    | _ => do
      let t ← truthA v
      match op, t with
      | .And, false => pure v
      | .Or, true => pure v
      | _, _ => boolA cl op xs m : M V) h = some (v, h') := e
  (refine xe2 (fun a h1 zq1 => ?_) (bind_some e); revert zq1; refine ae2 fun e1 e => ?_)
  cases xs with
  | nil =>
    (refine ae2 (fun zq1 zq2 => ?_) (pure_some e); subst zq1; subst zq2)
    show wpAny (model prog w) A (eval x env) _ E s
    exact hx env m A E s φ h h' v ok1 bd R en e1
  | cons y ys =>
    (refine xe2 (fun t h2 zq1 => ?_) (bind_some e); revert zq1; refine ae2 fun e2 e => ?_)
    show wpAny (model prog w) A (eval x env >>= fun v => standAt pos >>= fun zz => holding [v] (truthy v) >>= fun t => match op, t with
      | .And, false | .Or, true => pure v
      | _, _ => boolOp pos op (evalEach (y :: ys) env)) _ E s
    refine wpAny_bind (P0_then (hx env m A E s φ h h1 a ok1 bd R en e1) fun ra φ1 g1 tk st R1 v1 => wpAny_bind (wpAny_standAt (wpAny_bind (wpAny_holding ?_))))
    have e2' := e2
    (refine ae2 (fun q zz => ?_) (truth_ok (M := model prog w) (A := A) (E := E) (s := s) (Q := fun zz zz => True) v1 e2 trivial))
    subst q
    refine (truth_ok v1 e2' ?_).2
    cases op <;> cases t
    · (refine ae2 (fun zq1 zq2 => ?_) (pure_some e); subst zq1; subst zq2)
      exact wpAny_pure ⟨φ1, g1, tk, rfl, st, R1, v1⟩
    · exact wpAny_mono (hxs _ env m A E _ φ1 h2 h' v pos ok2 bd R1 (en.step st) e) (fun zz zz p => p.after st) fun zz zz e => e
    · exact wpAny_mono (hxs _ env m A E _ φ1 h2 h' v pos ok2 bd R1 (en.step st) e) (fun zz zz p => p.after st) fun zz zz e => e
    · (refine ae2 (fun zq1 zq2 => ?_) (pure_some e); subst zq1; subst zq2)
      exact wpAny_pure ⟨φ1, g1, tk, rfl, st, R1, v1⟩
theorem bo_nil : BoP prog w C h₀ fs n cl [] := by
  intro op env m A E s φ h h' v pos ok bd R en e
  have e : (fail : M V) h = some (v, h') := e
  exact (fail_some e).elim
theorem ev_BoolOp (op : BoolOp) (vs : List Expr) (p : Pos) (hx : BoP prog w C h₀ fs n cl vs) : EvP prog w C h₀ fs n cl (.BoolOp op vs p) := by
  intro env m A E s φ h h' v ok bd R en e
  exact hx op env m A E s φ h h' v p ok bd R en e

theorem cd_nil : CdP prog w C h₀ fs n cl [] := by
  intro env m A E s φ h h' b ok bd R en e
  have e : (pure true : M Bool) h = some (b, h') := e
  (refine ae2 (fun zq1 zq2 => ?_) (pure_some e); subst zq1; subst zq2)
  rw [List.forIn_nil]
  exact wpAny_pure ⟨rfl, φ, s.heap, s.toks, rfl, Step.refl _ _ _, R, trivial⟩
theorem forIn_false {α : Type} {f : α → Sem Bool} {M : Model} {A : Around} {E : Value → Shared → Prop} {Q : Bool → Shared → Prop} : ∀ (l : List α) {s : Shared}, Q false s →
    wpAny M A (forIn l false fun c r => if r = true then do let ok ← f c; pure (ForInStep.yield ok) else pure (ForInStep.yield r)) Q E s
  | [], s, q => by rw [List.forIn_nil]; exact wpAny_pure q
  | x :: xs, s, q => by
    rw [List.forIn_cons]
    refine wpAny_bind ?_
    rw [if_neg (by decide)]
    exact wpAny_pure (forIn_false xs q)
theorem cd_cons (x : Expr) (xs : List Expr) (hx : TsP prog w C h₀ fs n cl x) (hxs : CdP prog w C h₀ fs n cl xs) : CdP prog w C h₀ fs n cl (x :: xs) := by
  intro env m A E s φ h h' b ok bd R en e
  (refine ae2 (fun ok1 ok2 => ?_) (and2 (show (okT fs x env.scope.names && okTs fs xs env.scope.names) = true from ok)))
  have e : (do let c ← testA cl x m (evalA cl x m); if c = true then condsA cl xs m else pure false : M Bool) h = some (b, h') := e
  (refine xe2 (fun t h1 zq1 => ?_) (bind_some e); revert zq1; refine ae2 fun e1 e => ?_)
  rw [List.forIn_cons]
  refine wpAny_bind ?_
  rw [if_pos rfl]
  refine wpAny_bind (wpAny_mono (hx env m A E s φ h h1 t ok1 bd R en e1) (fun r s' q => wpAny_pure ?_) fun zz zz e => e)
  (revert q; refine ae2 fun zq1 zq2 => ?_; subst zq1; revert zq2; refine xe3 fun φ1 g1 tk zq3 => ?_; revert zq3; refine ae2 fun zq4 zq5 => ?_; subst zq4; revert zq5; refine ae3 fun st R1 zz => ?_)
  cases r with
  | true =>
    exact wpAny_mono (hxs env m A E _ φ1 h1 h' b ok2 bd R1 (en.step st) e) (fun zz zz p => ⟨p.1, p.2.after st⟩) fun zz zz e => e
  | false =>
    rw [if_neg (by decide)] at e
    (refine ae2 (fun zq1 zq2 => ?_) (pure_some e); subst zq1; subst zq2)
    exact forIn_false xs ⟨rfl, φ1, g1, tk, rfl, st, R1, trivial⟩
end
end

section
open PySem PySem.W PyProof.Rows PySem.SeqAt PySem.Calls

section
variable {M : Model} {A : Around} {E : Value → Shared → Prop} {s : Shared} {env : Env} {fs : List Str}

theorem args_plain (pos : Pos) : ∀ (as : List Expr) (ks : NK), okEs fs as ks = true → (backTo pos (starEach as env)).any (·.1) = false
  | [], _, _ => rfl
  | e :: r, ks, h => by
    (refine ae2 (fun h h2 => ?_) (and2 (show (okE fs e ks && notStar e && okEs fs r ks) = true from h)))
    (refine ae2 (fun zz h1 => ?_) (and2 h))
    rw [starEach_plain h1]
    show (false || (backTo pos (starEach r env)).any (·.1)) = false
    rw [args_plain pos r ks h2]; rfl
theorem args_few (pos : Pos) : ∀ (as : List Expr) (ks : NK), okEs fs as ks = true → (backTo pos (starEach as env)).all (fun x => !x.1) = true
  | [], _, _ => rfl
  | e :: r, ks, h => by
    (refine ae2 (fun h h2 => ?_) (and2 (show (okE fs e ks && notStar e && okEs fs r ks) = true from h)))
    (refine ae2 (fun zz h1 => ?_) (and2 h))
    rw [starEach_plain h1]
    show (true && (backTo pos (starEach r env)).all (fun x => !x.1)) = true
    rw [args_few pos r ks h2]; rfl

theorem evalArgs_any {f : Value} {pos : Pos} {as : List Expr} {Q : Args → Shared → Prop} (ok : okEs fs as env.scope.names = true) (h : wpAny M A (spliced (backTo pos (starEach as env))) (fun vs s' => Q ⟨vs, []⟩ s') E s) :
    wpAny M A (evalArgs f true (backTo pos (starEach as env)) []) Q E s := by
  cases as with
  | nil =>
    unfold evalArgs
    show wpAny M A (spliced [] >>= _) Q E s
    refine wpAny_bind (wpAny_mono h (fun vs s' h' => ?_) fun zz zz x => x)
    refine wpAny_bind (wpAny_pure ?_)
    refine wpAny_holding ?_
    exact wpAny_bind (wpAny_pure (wpAny_bind (wpAny_pure (wpAny_pure h'))))
  | cons e r =>
    (refine ae2 (fun ok zz => ?_) (and2 (show (okE fs e env.scope.names && notStar e && okEs fs r env.scope.names) = true from ok)))
    (refine ae2 (fun zz h1 => ?_) (and2 ok))
    rw [starEach_plain h1] at h ⊢
    exact evalArgs_plain h

theorem callWith_any {P : Heap → Prop} {pos : Pos} {f : Value} {first : List Value} {as : List Expr} {Q : Value → Shared → Prop} (ok : okEs fs as env.scope.names = true)
    (hk : ∀ h, P h → ∃ k, (k = Keeper.frame ∨ k = Keeper.machine ∨ k = Keeper.boundFrame) ∧ Looks M h (keeperOf f) k)
    (h : wpAny M A (spliced (backTo pos (starEach as env))) (fun vs s₁ => P s₁.heap ∧ wpAny M A (call f (first ++ vs)) Q E s₁) E s) :
    wpAny M A (callWith pos f first (backTo pos (starEach as env)) []) Q E s :=
  callWith_of (by rw [args_plain pos as _ ok]; rfl) hk (evalArgs_any ok h)

theorem MethodCall_any {o : Expr} {x : Str} {ap pos : Pos} {as : List Expr} {Q : Value → Shared → Prop} (ok : okEs fs as env.scope.names = true) (hl : as.length < 30) (hp : (ap.endLine == pos.line) = true) (hs : notSup o = true)
    (h : wpAny M A (eval o env) (fun ov s₁ => ∀ pl, wpAny M A (getMethod ov x pl) (fun fx s₂ => wpAny M A (callWith pos fx.1 fx.2 (backTo pos (starEach as env)) []) Q E s₂) E s₁) E s) :
    wpAny M A (eval (.Call (.Attribute o x ap) as [] pos) env) Q E s := by
  rw [arm_eval_Call]
  have hb : attributeBase o x env (eval o env) = eval o env := by
    unfold attributeBase
    split
    · cases hs
    · rfl
  rw [hb]
  refine wpAny_bind (wpAny_mono h (fun ov s₁ h₁ => wpAny_bind (wpAny_standAt ?_)) fun zz zz x => x)
  unfold methodCall
  have few : methodCallForm (as.length + ([] : List Keyword).length) (backTo pos (starEach as env)) (backToKw pos (keywordEach [] env)) = true := by
    unfold methodCallForm
    show ((backTo pos (starEach as env)).all (fun x => !x.1) && ([] : List (Option Str × Sem Value)).all (·.1.isSome) && decide (as.length + 0 + (if ([] : List (Option Str × Sem Value)).isEmpty then 0 else 1) < 30)) = true
    rw [args_few pos as _ ok]
    simp [hl]
  rw [few]
  unfold calleeOf methodCallPos
  rw [if_pos rfl]
  refine wpAny_bind (wpAny_holding (wpAny_mono (h₁ _) (fun fx s₂ h₂ => ?_) fun zz zz x => x))
  obtain ⟨f, first⟩ := fx
  rw [hp, if_pos (by rfl)]
  exact wpAny_bind (wpAny_pure h₂)
end

section
variable {prog : Program} {w : World} {K : Frag} {C : Addr} {h₀ : Heap} {fs : List Str} {fn fm : List (Str × Value)} {n : Nat} {cl : Str → List V → M V}

theorem name_fun (X : Cx prog w K C h₀ fs fn fm n cl) {f : Str} {p : Pos} {env : Env} {m : L} {φ : List Addr} {h : H} {s : Shared} {A : Around} {E : Value → Shared → Prop} {Q : Value → Shared → Prop} (ok : isFun fs env.scope.names f = true)
    (R : Rel C h₀ φ h s.heap) (en : EnvOk h₀ env m φ s.heap) (hq : ∀ rf, fn.lookup f = some rf → Q rf s) : wpAny (model prog w) A (eval (.Name f p) env) Q E s := by
  (refine ae2 (fun ok ok3 => ?_) (and2 (show (env.scope.names.lookup f == some .globalImplicit && !(f == ("__debug__" : Str)) && fs.contains f) = true from ok)))
  (refine ae2 (fun ok1 ok2 => ?_) (and2 ok))
  (refine xe1 (fun rf hrf => ?_) (X.names f ok3))
  obtain ⟨mg, mb, hg, hb, hgl⟩ := X.glob
  refine Name_function_global en.kind (beq_iff_eq.mp ok1) ?_ (by simpa using ok2)
  rcases hgl f rf hrf with q | ⟨q1, q2⟩
  · exact loadGlobal_global (by rw [en.globals]; exact hg.keeps R.keep) q (hq rf hrf)
  · exact loadGlobal_builtin (by rw [en.globals]; exact hg.keeps R.keep) q1 (by rw [en.builtins]; exact hb.keeps R.keep) q2 (hq rf hrf)

theorem ev_CallName (X : Cx prog w K C h₀ fs fn fm n cl) (f : Str) (pf : Pos) (as : List Expr) (p : Pos) (has : EvsP prog w C h₀ fs n cl as) : EvP prog w C h₀ fs n cl (.Call (.Name f pf) as [] p) := by
  intro env m A E s φ h h' v ok b R en e
  (refine ae2 (fun ok1 ok2 => ?_) (and2 (show (isFun fs env.scope.names f && okEs fs as env.scope.names) = true from ok)))
  have e : (do let vs ← evalsA cl as m; cl f vs : M V) h = some (v, h') := e
  (refine xe2 (fun vs h1 zq1 => ?_) (bind_some e); revert zq1; refine ae2 fun e1 e => ?_)
  refine wpAny_Call_Name_kw (name_fun X ok1 R en fun rf hrf => ?_)
  refine callWith_any (P := K.In) ok2 (X.keep f rf hrf) (P0_then (has env m A E s φ h h1 vs p ok2 b R en e1) fun ra φ1 g1 tk st R1 v1 => ⟨X.X.keeps R1.keep, ?_⟩)
  have en1 := en.step st
  exact wpAny_mono (X.cl f rf vs h1 h' v (.inl hrf) e A E _ φ1 ra b R1 en1.z v1) (fun zz zz p => p.after st) fun zz zz e => e

set_option tactic.hygienic true in
theorem ev_CallMeth (X : Cx prog w K C h₀ fs fn fm n cl) (o : Expr) (x : Str) (ap : Pos) (as : List Expr) (p : Pos) (ho : EvP prog w C h₀ fs n cl o) (has : EvsP prog w C h₀ fs n cl as) : EvP prog w C h₀ fs n cl (.Call (.Attribute o x ap) as [] p) := by
  intro env m A E s φ h h' v ok b R en e
  (refine ae2 (fun ok ok5 => ?_) (and2 (show (okE fs o env.scope.names && okEs fs as env.scope.names && decide (as.length < 30) && ap.endLine == p.line && notSup o) = true from ok)))
  (refine ae2 (fun ok ok4 => ?_) (and2 ok))
  (refine ae2 (fun ok ok3 => ?_) (and2 ok))
  (refine ae2 (fun ok1 ok2 => ?_) (and2 ok))
  have e : (do let ov ← evalA cl o m; callMeth cl x ov (evalsA cl as m) : M V) h = some (v, h') := e
  (refine xe2 (fun ov h1 zq1 => ?_) (bind_some e); revert zq1; refine ae2 fun e1 e => ?_)
  refine MethodCall_any ok2 (of_decide_eq_true ok3) ok4 ok5 (P0_then (ho env m A E s φ h h1 ov ok1 b R en e1) fun ra φ1 g1 tk st R1 v1 pl => ?_)
  have en1 := en.step st
  unfold callMeth at e
  split at e
  · replace v1 := VR.r v1
    (revert v1; refine xe1 fun y zq1 => ?_; revert zq1; refine ae2 fun zq2 hi => ?_; subst zq2)
    rename_i i
    (refine xe1 (fun ob zq1 => ?_) (rd_bind e); revert zq1; refine ae2 fun q e => ?_)
    split at e
    · rename_i d
      (refine xe1 (fun obd zq1 => ?_) (rd_bind e); revert zq1; refine ae2 fun qd e => ?_)
      split at e
      case h_2 => exact (fail_some e).elim
      rename_i n0 m0
      cases hm : methN x with
      | none => rw [hm] at e; exact (fail_some e).elim
      | some f =>
        rw [hm] at e
        (refine xe2 (fun us h2 zq1 => ?_) (bind_some e); revert zq1; refine ae2 fun e2 e => ?_)
        (refine ae3 (fun hn1 hn2 zq1 => ?_) (X.meth x f hm); revert zq1; refine xe1 fun a zq2 => ?_; revert zq2; refine ae4 fun hf hfi hty hkp => ?_)
        (refine xe4 (fun b' ob' es ep zq1 => ?_) (Rel.instAt (s := { s with heap := g1, toks := tk }) R1 q qd hi); revert zq1; refine ae8 fun hb' g hd hk huk zz zz zq2 => ?_; revert zq2; refine ae2 fun r3 I => ?_)
        refine method_fn (s := { s with heap := g1, toks := tk }) (X.X.keeps R1.keep) I X.cls.ga X.gat hfi hty (by
          show (lookIn x ob').map (·.isSome) = some false
          rw [lookIn_ns hd hk, r3 x hn1 hn2]; rfl) ?_
        refine callWith_any (P := K.In) ok2 (keeps_K hkp) (P0_then (has env m A E _ φ1 h1 h2 us p ok2 b R1 en1 e2) fun ru φ2 g2 tk2 st2 R2 v2 => ⟨X.X.keeps R2.keep, ?_⟩)
        have en2 := en1.step st2
        exact wpAny_mono (X.cl f _ _ h2 h' v (.inr hf) e A E { s with heap := g2, toks := tk2 } φ2 (.ref y :: ru) b R2 en2.z (.cons (.ref _ _ (pre_get st2.pre hi)) v2)) (fun zz zz p => P0.after (s := s) (tk := tk2) (st.trans st2) p) fun zz zz e => e
    · rename_i xs
      (refine xe2 (fun us h2 zq1 => ?_) (bind_some e); revert zq1; refine ae2 fun e2 e => ?_)
      have lst : ∀ {nm : Str} {id : String}, Slot "list" nm id → typeOf (.builtin id) = pure (.type "method_descriptor") → x = nm →
          (∀ φ2 g2 tk2 (ru : List Value), Rel C h₀ φ2 h2 g2 → φ2[i]? = some y → h₀.objs.size ≤ g2.objs.size → VRs φ2 us ru → wpAny (model prog w) A (call (.builtin id) (.ref y :: ru)) (PV C h₀ [] φ2 { s with heap := g2, toks := tk2 } h' v) E { s with heap := g2, toks := tk2 }) →
          wpAny (model prog w) A (getMethod (.ref y) x pl) (fun fx s₂ => wpAny (model prog w) A (callWith p fx.1 fx.2 (backTo p (starEach as env)) []) (PV C h₀ [] φ s h' v) E s₂) E { s with heap := g1, toks := tk } := by
        intro nm id slot hty hx k
        subst hx
        (refine xe2 (fun vs n' zq1 => ?_) (Rel.listAt (s := { s with heap := g1, toks := tk }) R1 q hi); revert zq1; refine ae2 fun g zz => ?_)
        refine getMethod_list_of slot hty (isList_of g) ⟨_, g, rfl⟩ ?_
        refine callWith_any (P := fun zz => True) ok2 (fun h zz => ⟨.machine, .inr (.inl rfl), Looks.now⟩) (P0_then (has env m A E _ φ1 h1 h2 us p ok2 b R1 en1 e2) fun ru φ2 g2 tk2 st2 R2 v2 => ⟨trivial, ?_⟩)
        have en2 := en1.step st2
        exact wpAny_mono (k φ2 g2 tk2 ru R2 (pre_get st2.pre hi) en2.z v2) (fun zz zz p => P0.after (s := s) (tk := tk2) (st.trans st2) p) fun zz zz e => e
      unfold listMeth at e
      (refine xe1 (fun ob2 zq1 => ?_) (rd_bind e); revert zq1; refine ae2 fun q2 e => ?_)
      split at e
      · rename_i ob2' us' xs2 x2
        (refine ae2 (fun ql e => ?_) (ite_some e))
        have hu : A.units + 65 < cLine := by have := b.2.2; omega
        split at e
        · rename_i hx
          refine lst PySem.F.slot_list_append PySem.F.type_list_append hx fun φ2 g2 tk2 ru R2 hi2 z2 v2 => ?_
          cases v2 with
          | cons v2 v3 => cases v3; exact append_ok (s := { s with heap := g2, toks := tk2 }) R2 hi2 q2 v2 ql e
        · split at e
          · rename_i hx
            refine lst PySem.F.slot_list_extend PySem.F.type_list_extend hx fun φ2 g2 tk2 ru R2 hi2 z2 v2 => ?_
            cases v2 with
            | cons v2 v3 =>
              cases v3
              split at e
              · cases v2 with
                | ref j c hj =>
                (refine xe1 (fun ob3 zq1 => ?_) (rd_bind e); revert zq1; refine ae2 fun q3 e => ?_)
                split at e
                · (refine ae2 (fun zq1 e => ?_) (ite_some e); revert zq1; refine ae2 fun zz ql2 => ?_)
                  exact extend_ok (s := { s with heap := g2, toks := tk2 }) R2 hi2 hj q2 q3 ql ql2 e
                · exact (fail_some e).elim
              · exact (fail_some e).elim
          · split at e
            · rename_i hx
              refine lst PySem.F.slot_list_remove PySem.F.type_list_remove hx fun φ2 g2 tk2 ru R2 hi2 z2 v2 => ?_
              cases v2 with
              | cons v2 v3 => cases v3; exact remove_ok (s := { s with heap := g2, toks := tk2 }) hu R2 hi2 q2 v2 e
            · exact (fail_some e).elim
      · exact (fail_some e).elim
    · exact (fail_some e).elim
  · exact (fail_some e).elim
end
end

section
open PySem PySem.W PyProof.Rows PySem.SeqAt PySem.Calls

theorem relK_lookup (ks : NK) : ∀ (ns : NK) (x : Str), (relK ks ns).lookup x = (ns.lookup x).map fun k => if k == .free && ks.lookup x == some .cell then .cell else k
  | [], _ => rfl
  | (y, k) :: r, x => by
    have ih := relK_lookup ks r x
    have e : relK ks ((y, k) :: r) = (y, if k == .free && ks.lookup y == some .cell then .cell else k) :: relK ks r := by
      unfold relK
      rw [List.map_cons]
      dsimp only
      split <;> rfl
    rw [e, List.lookup_cons, List.lookup_cons]
    cases h : x == y with
    | true => rw [beq_iff_eq.mp h]; rfl
    | false => exact ih
theorem relabel_names {sc : Scope} {env : Env} (hk : env.scope.kind = .function) : (relabel sc env).names = relK env.scope.names sc.names := by
  unfold relabel relK
  dsimp only
  apply List.map_congr_left
  intro ⟨n, k⟩ _
  dsimp only
  rw [hk]
  simp only [beq_self_eq_true, Bool.and_true]
  rfl

theorem clos_ok {env : Env} (f : Str × NameKind → List (Str × Addr) → Sem (ForInStep (List (Str × Addr))))
    (hf : ∀ n k cs, f (n, k) cs = if k == NameKind.free then (do let a ← cellOf env n; pure (ForInStep.yield ((n, a) :: cs))) else pure (ForInStep.yield cs)) :
    ∀ (ns : NK) (acc : List (Str × Addr)), (∀ x, (x, NameKind.free) ∈ ns → ∃ c, env.cells.lookup x = some c) →
      ∃ l : List (Str × Addr), forIn ns acc f = pure l ∧ (∀ x c, (x, c) ∈ l → (x, c) ∈ acc ∨ env.cells.lookup x = some c) ∧ (∀ p ∈ acc, p ∈ l) ∧ ∀ x, (x, NameKind.free) ∈ ns → ∃ c, (x, c) ∈ l
  | [], acc, _ => ⟨acc, by rw [List.forIn_nil], fun zz zz h => .inl h, fun zz h => h, fun zz h => nomatch h⟩
  | (n, k) :: r, acc, h => by
    rw [List.forIn_cons, hf]
    by_cases hk : k = .free
    · subst hk
      (refine xe1 (fun c hc => ?_) (h n (List.mem_cons_self)))
      (refine xe1 (fun l zq1 => ?_) (clos_ok f hf r ((n, c) :: acc) (fun x hx => h x (List.mem_cons_of_mem _ hx))); revert zq1; refine ae4 fun h1 h2 h3 h4 => ?_)
      refine ⟨l, ?_, fun x c' hx => ?_, fun p hp => h3 p (List.mem_cons_of_mem _ hp), fun x hx => ?_⟩
      · rw [if_pos (by rfl)]
        unfold cellOf
        rw [hc]
        simp only [pure_bind]
        exact h1
      · rcases h2 x c' hx with q | q
        · rcases List.mem_cons.mp q with q | q
          · cases q; exact .inr hc
          · exact .inl q
        · exact .inr q
      · rcases List.mem_cons.mp hx with q | q
        · cases q; exact ⟨c, h3 _ (List.mem_cons_self)⟩
        · exact h4 x q
    · (refine xe1 (fun l zq1 => ?_) (clos_ok f hf r acc (fun x hx => h x (List.mem_cons_of_mem _ hx))); revert zq1; refine ae4 fun h1 h2 h3 h4 => ?_)
      refine ⟨l, ?_, h2, h3, fun x hx => ?_⟩
      · rw [if_neg (by simpa using hk)]
        simp only [pure_bind]
        exact h1
      · rcases List.mem_cons.mp hx with q | q
        · cases q; exact absurd rfl hk
        · exact h4 x q

theorem closure_ok {sc : Scope} {env : Env} (h : ∀ x, (x, NameKind.free) ∈ sc.names → ∃ c, env.cells.lookup x = some c) :
    ∃ l : List (Str × Addr), closureFor sc env = pure l ∧ (∀ x c, (x, c) ∈ l → env.cells.lookup x = some c) ∧ ∀ x, (x, NameKind.free) ∈ sc.names → l.lookup x = env.cells.lookup x := by
  (refine xe1 (fun l zq1 => ?_) (clos_ok (env := env) (fun p cs => if p.2 == NameKind.free then (do let a ← cellOf env p.1; pure (ForInStep.yield ((p.1, a) :: cs))) else pure (ForInStep.yield cs)) (fun zz zz zz => rfl) sc.names [] h); revert zq1; refine ae4 fun h1 h2 zz h4 => ?_)
  have h2' : ∀ x c, (x, c) ∈ l → env.cells.lookup x = some c := fun x c hx => (h2 x c hx).elim (fun q => nomatch q) id
  refine ⟨l, ?_, h2', fun x hx => ?_⟩
  · unfold closureFor
    have : ∀ (n : Str) (k : NameKind) (cs : List (Str × Addr)), (if (k == NameKind.free) = true then (do let a ← cellOf env n; pure (ForInStep.yield ((n, a) :: cs)) : Sem (ForInStep (List (Str × Addr)))) else pure (ForInStep.yield cs)) = _ := fun n k cs => rfl
    first
      | (simp only [bind_pure]; exact h1)
      | (rw [show (forIn sc.names ([] : List (Str × Addr)) _ : Sem _) = pure l from h1]; rfl)
  · (refine xe1 (fun c hc => ?_) (h4 x hx))
    rw [h2' x c hc]
    cases q : l.lookup x with
    | some c' =>
      have := h2' x c' (mem_of_lookup q)
      rw [h2' x c hc] at this
      exact this.symm
    | none =>
      rw [List.lookup_eq_none_iff] at q
      have := q _ hc
      simp at this

section
variable {prog : Program} {w : World} {K : Frag} {C : Addr} {h₀ : Heap} {fs : List Str} {fn fm : List (Str × Value)} {n : Nat} {cl : Str → List V → M V}
variable {A : Around} {E : Value → Shared → Prop} {R : Result → Shared → Prop} {s : Shared}


/- what a comprehension does with a passed turn -/
noncomputable def tailSem (elt : Expr) (gens : List Comprehension) (scope : Scope) (pos : Pos) (d : Nat) (acc : Value) (env : Env) (k : Sem PySem.Fin) : Sem PySem.Fin :=
  match gens[d + 1]? with
  | some g' => do
    let x ← eval g'.iter env
    standAt g'.iter.pos
    if (g'.is_async != 0) = true then do
        let x ← foldedIterable g'.iter x
        let it' ← holding [x] (if (g'.is_async != 0) = true then asyncIter x else pyIter x)
        let _ ← runOwn (Code.compStart (elt.ListComp gens scope pos) (d + 1) it' acc env) env
        k
      else do
        let x ← foldedSetIterable g'.iter env x
        let it' ← holding [x] (if (g'.is_async != 0) = true then asyncIter x else pyIter x)
        let _ ← runOwn (Code.compStart (elt.ListComp gens scope pos) (d + 1) it' acc env) env
        k
  | none => (eval elt env >>= fun v => call (Value.builtin "list.append") [acc, v] >>= fun zz => pure ()) >>= fun zz => k

noncomputable def AccAt (D : Addr) (φ : List Addr) (g : Heap) (done : List V) : Prop := ∃ ys n, g.get? D = some (seqObj "list" (List.toArray ys) n) ∧ VRs φ done ys

/- where a comprehension stands -/
structure CS (C : Addr) (h₀ : Heap) (env : Env) (D : Addr) (m : L) (φ : List Addr) (hh : H) (g : Heap) (done : List V) : Prop where
  R : Rel C h₀ φ hh g
  en : EnvOk h₀ env m φ g
  acc : AccAt D φ g done
  dn : D ∉ φ ∧ h₀.objs.size ≤ D ∧ D ∉ ownE env

section
variable {env : Env} {D : Addr} {m : L} {φ φ' : List Addr} {hh hh' : H} {g g' : Heap} {done : List V}
theorem not_in_step {F : List Addr} {a : Addr} {o : Obj} (st : Step F φ g φ' g') (h : a ∉ φ) (e : g.get? a = some o) : a ∉ φ' := fun q => by
  rcases st.fresh a q with q | q
  · exact h q
  · rw [e] at q; cases q
theorem CS.step (x : CS C h₀ env D m φ hh g done) (st : Step [] φ g φ' g') (R' : Rel C h₀ φ' hh' g') : CS C h₀ env D m φ' hh' g' done := by
  obtain ⟨ys, n, e, r⟩ := x.acc
  exact ⟨R', x.en.step st, ⟨ys, n, st.keep D _ e x.dn.1 (fun q => nomatch q), r.mono st.pre⟩, not_in_step st x.dn.1 e, x.dn.2⟩
theorem CS.less {m' : L} (x : CS C h₀ env D m φ hh g done) (hm : ∀ y v, m' y = some v → m y = some v) : CS C h₀ env D m' φ hh g done := ⟨x.R, x.en.less hm, x.acc, x.dn⟩
theorem CS.push (x : CS C h₀ env D m φ hh g done) (k : ∀ b o, g.get? b = some o → g'.get? b = some o) : CS C h₀ env D m φ hh g' done :=
  let ⟨ys, n, e, r⟩ := x.acc
  ⟨x.R.grow k, x.en.keeps fun a zz o e => k a o e, ⟨ys, n, k _ _ e, r⟩, x.dn⟩
theorem CS.ext {it : Addr} (x : CS C h₀ env D m φ hh g done) (k : Heap.ExtBut it g g') (h1 : it ∉ φ) (h2 : h₀.objs.size ≤ it) (h3 : it ∉ ownE env) (h4 : it ≠ D) : CS C h₀ env D m φ hh g' done :=
  let ⟨ys, n, e, r⟩ := x.acc
  ⟨x.R.ext k h1 h2, x.en.keeps fun a ha o e => k a o (fun q => h3 (q ▸ ha)) e, ⟨ys, n, k D _ (fun q => h4 q.symm) e, r⟩, x.dn⟩
end

theorem cs_append {env : Env} {D : Addr} {m : L} {φ : List Addr} {hh : H} {done : List V} {v : V} {rv : Value} {Q : Value → Shared → Prop} (x : CS C h₀ env D m φ hh s.heap done) (hl : done.length + 1 ≤ lim) (hv : VR φ v rv)
    (k : ∀ g', Step [env.locals, D] φ s.heap φ g' → CS C h₀ env D m φ hh g' (done ++ [v]) → Q .none { s with heap := g' }) : wpAny (model prog w) A (call (.builtin "list.append") [.ref D, rv]) Q E s := by
  obtain ⟨ys, n, e, r⟩ := x.acc
  have hlen := r.length
  rw [lim_small] at hl
  refine append_at (n := n) e (fun h1 hs g1 => ?_) (by rw [List.size_toArray, sizeLine_eq]; omega)
  refine k h1 (Step.own hs (List.mem_cons_of_mem _ (List.mem_singleton.mpr rfl)) g1) ⟨x.R.other hs x.dn.1 x.dn.2.1, x.en.keeps fun a ha o e => (hs.2 a fun q => x.dn.2.2 (q ▸ ha)).trans e, ⟨ys ++ [rv], n + 1, ?_, r.append (.one hv)⟩, x.dn⟩
  rw [g1]; simp [seqObj]

/- the rest of the clauses, once a turn is passed -/
noncomputable def GnP (prog : Program) (w : World) (C : Addr) (h₀ : Heap) (fs : List Str) (n : Nat) (cl : Str → List V → M V) (elt : Expr) (gens : List Comprehension) (scope : Scope) (pos : Pos) (gs : List Comprehension) : Prop :=
  ∀ (d : Nat) (env : Env) (m : L) (A : Around) (E : Value → Shared → Prop) (s : Shared) (φ : List Addr) (h h' : H) (r done : List V) (D : Addr) (k : Sem PySem.Fin) (Q : PySem.Fin → Shared → Prop), gens.drop (d + 1) = gs →
    okGs fs gs env.scope.names = true → okE fs elt env.scope.names = true → (∀ y, isTarget gs y = true → m y = .none) → Bd A n → CS C h₀ env D m φ h s.heap done → done.length + r.length ≤ lim →
    gensA cl gs m (fun m' => evalA cl elt m') h = some (r, h') →
    (∀ φ' g' tk, Step [env.locals, D] φ s.heap φ' g' → CS C h₀ env D m φ' h' g' (done ++ r) → wpAny (model prog w) A k Q E { s with heap := g', toks := tk }) →
    wpAny (model prog w) A (tailSem elt gens scope pos d (.ref D) env k) Q E s

theorem gn_nil {elt : Expr} {gens : List Comprehension} {scope : Scope} {pos : Pos} (he : EvP prog w C h₀ fs n cl elt) : GnP prog w C h₀ fs n cl elt gens scope pos [] := by
  intro d env m A E s φ h h' r done D k Q hd _ ok _ b x hl e hk
  have e : (do let v ← evalA cl elt m; pure [v] : M (List V)) h = some (r, h') := e
  (refine xe2 (fun v h1 zq1 => ?_) (bind_some e); revert zq1; refine ae2 fun e1 e => ?_)
  (refine ae2 (fun zq1 zq2 => ?_) (pure_some e); subst zq1; subst zq2)
  have hg : gens[d + 1]? = none := by rw [List.getElem?_eq_none_iff]; exact List.drop_eq_nil_iff.mp hd
  unfold tailSem
  rw [hg]
  refine wpAny_bind (wpAny_bind (P0_then (he env m A E s φ h h' v ok b x.R x.en e1) fun rv φ1 g1 tk st R1 v1 => wpAny_bind ?_))
  refine cs_append (s := { s with heap := g1, toks := tk }) (x.step st R1) hl v1 fun g' st' x' => wpAny_pure ?_
  exact hk φ1 g' tk ((Step.nil st).trans st') x'

theorem compLoop_ok {elt : Expr} {gens : List Comprehension} {scope : Scope} {pos : Pos} {x : Str} {px : Pos} {iter : Expr} {ifs : List Expr} {gs : List Comprehension} {d : Nat} {env : Env} {D it : Addr} {m : L} {src : Src} {ck : M Unit}
    (hs : 1 < h₀.objs.size) (hg : gens[d]? = some ⟨.Name x px, iter, ifs, 0⟩) (hgs : gens.drop (d + 1) = gs) (hc : CdP prog w C h₀ fs n cl ifs) (hgn : GnP prog w C h₀ fs n cl elt gens scope pos gs) (b : Bd A n)
    (okx : env.scope.names.lookup x = some .local) (okc : okTs fs ifs env.scope.names = true) (okg : okGs fs gs env.scope.names = true) (oke : okE fs elt env.scope.names = true)
    (hmx : m x = .none) (hmg : ∀ y, isTarget gs y = true → m y = .none ∧ y ≠ x) (hck : ∀ g g' u, ck g = some (u, g') → g' = g ∧ src.chk g)
    (it1 : it ∉ ownE env) (it2 : it ≠ D) (it3 : h₀.objs.size ≤ it) {g0 : Heap} {φ0 : List Addr} (it0 : g0.get? it = none) :
    ∀ (xs : List V) (k : Nat) (s : Shared) (φ : List Addr) (h h' : H) (r done : List V), src.vals.drop k = xs → src.chk h → src.At φ it k s.heap → it ∉ φ → Step [env.locals, D] φ0 g0 φ s.heap → CS C h₀ env D m φ h s.heap done → done.length + r.length ≤ lim →
      compA ck (fun v => do
        let c ← condsA cl ifs (upd m x v)
        if c = true then gensA cl gs (upd m x v) (fun m' => evalA cl elt m') else pure []) xs h = some (r, h') →
      (∀ φ' g' tk, Step [env.locals, D] φ0 g0 φ' g' → CS C h₀ env D m φ' h' g' (done ++ r) → R (.ok .next) { s with heap := g', toks := tk }) →
      codeAny (model prog w) A (.compLoop (.ListComp elt gens scope pos) d (.ref it) (.ref D) env) R s := by
  intro xs
  induction xs with
  | nil =>
    intro k s φ h h' r done hd hk at_ itφ st0 x' hl e hR
    have e : (pure [] : M (List V)) h = some (r, h') := e
    (refine ae2 (fun zq1 zq2 => ?_) (pure_some e); subst zq1; subst zq2)
    have hn : src.vals[k]? = none := by rw [List.getElem?_eq_none_iff]; exact List.drop_eq_nil_iff.mp hd
    refine codeAny_of_tree ?_
    show wpAny _ A ((compTurn (.ListComp elt gens scope pos) d (.ref it) (.ref D) env).onRaise (fun x => do noteFrame x env; theTreesLotGoes x)) _ _ s
    refine wpAny_noted ?_
    unfold compTurn
    dsimp only
    rw [hg]
    dsimp only
    refine wpAny_bind (wpAny_standAt ?_)
    rw [if_neg (by decide)]
    refine wpAny_bind (wpAny_mono (next_end b.1 x'.R hk at_ hn) (fun rr s' q => ?_) fun zz zz e => e)
    (revert q; refine ae2 fun zq1 zq2 => ?_; subst zq1; revert zq2; refine xe1 fun h1 zq3 => ?_; revert zq3; refine ae2 fun zq4 ex => ?_; subst zq4)
    dsimp only
    refine wpAny_pure ?_
    rw [List.append_nil] at hR
    exact hR φ h1 s.toks (st0.last ex it0) (x'.ext ex itφ it3 it1 it2)
  | cons v xs ih =>
    intro k s φ h h' r done hd hk at_ itφ st0 x' hl e hR
    have hv : src.vals[k]? = some v := by
      have := congrArg (·[0]?) hd
      simpa using this
    have hd' : src.vals.drop (k + 1) = xs := by
      have := congrArg List.tail hd
      simpa using this
    have e : (do
      let a ← (do
        let c ← condsA cl ifs (upd m x v)
        if c = true then gensA cl gs (upd m x v) (fun m' => evalA cl elt m') else pure [] : M (List V))
      ck
      let b ← compA ck (fun v => do
        let c ← condsA cl ifs (upd m x v)
        if c = true then gensA cl gs (upd m x v) (fun m' => evalA cl elt m') else pure []) xs
      pure (a ++ b) : M (List V)) h = some (r, h') := e
    (refine xe2 (fun a h1 zq1 => ?_) (bind_some e); revert zq1; refine ae2 fun e1 e => ?_)
    (refine xe2 (fun u h2 zq1 => ?_) (bind_some e); revert zq1; refine ae2 fun e2 e => ?_)
    (refine xe2 (fun a2 h3 zq1 => ?_) (bind_some e); revert zq1; refine ae2 fun e3 e => ?_)
    (refine ae2 (fun zq1 zq2 => ?_) (pure_some e); subst zq1; subst zq2)
    (refine ae2 (fun q hk2 => ?_) (hck _ _ _ e2))
    subst q
    (refine xe2 (fun c h4 zq1 => ?_) (bind_some e1); revert zq1; refine ae2 fun e4 e1 => ?_)
    rw [List.length_append] at hl
    refine codeAny_of_tree ?_
    show wpAny _ A ((compTurn (.ListComp elt gens scope pos) d (.ref it) (.ref D) env).onRaise (fun x => do noteFrame x env; theTreesLotGoes x)) _ _ s
    refine wpAny_noted ?_
    unfold compTurn
    dsimp only
    rw [hg]
    dsimp only
    refine wpAny_bind (wpAny_standAt ?_)
    rw [if_neg (by decide)]
    refine wpAny_bind (wpAny_mono (next_item hs x'.R hk at_ hv) (fun rr s' q => ?_) fun zz zz e => e)
    (revert q; refine xe3 fun rv g1 tk1 zq1 => ?_; revert zq1; refine ae2 fun zq2 zq3 => ?_; subst zq2; revert zq3; refine ae3 fun vr zq4 zq5 => ?_; subst zq4; revert zq5; refine ae2 fun sb at1 => ?_)
    dsimp only
    have x1 : CS C h₀ env D m φ h g1 done := x'.ext sb.extBut itφ it3 it1 it2
    have st1 := st0.last sb.extBut it0
    refine wpAny_bind (wpAny_of_eq (by rfl) ?_)
    refine wpAny_bind (wpAny_assign_Name ?_)
    refine wpAny_mono (store_ok (s := { s with heap := g1, toks := tk1 }) x1.R x1.en (.inl okx) vr) (fun zz s' q => ?_) fun zz zz e => e
    (revert q; refine xe2 fun g2 tk2 zq1 => ?_; revert zq1; refine ae2 fun zq2 zq3 => ?_; subst zq2; revert zq3; refine ae4 fun zz st2 R2 en2 => ?_)
    have st2 := st2 okx
    have itl : it ≠ env.locals := fun q => it1 (by rw [q]; exact List.mem_cons_self)
    have Dl : D ≠ env.locals := fun q => x1.dn.2.2 (by rw [q]; exact List.mem_cons_self)
    have x2 : CS C h₀ env D (upd m x v) φ h g2 done := by
      obtain ⟨ys, n', e, r⟩ := x1.acc
      exact ⟨R2, en2, ⟨ys, n', st2.keep D _ e x1.dn.1 (fun q => Dl (List.mem_singleton.mp q)), r⟩, x1.dn⟩
    have at2 : src.At φ it (k + 1) g2 := at1.keep (List.prefix_refl _) fun o e => st2.keep it o e itφ (fun q => itl (List.mem_singleton.mp q))
    refine wpAny_bind (wpAny_mono (hc env (upd m x v) A _ _ φ h h4 c okc b R2 en2 e4) (fun bb s' q => ?_) fun zz zz e => e)
    (revert q; refine ae2 fun zq1 zq2 => ?_; subst zq1; revert zq2; refine xe3 fun φ3 g3 tk3 zq3 => ?_; revert zq3; refine ae2 fun zq4 zq5 => ?_; subst zq4; revert zq5; refine ae3 fun st3 R3 zz => ?_)
    have x3 := x2.step st3 R3
    obtain ⟨oit, hoit⟩ := at2.live
    have itφ3 := not_in_step st3 itφ hoit
    have at3 : src.At φ3 it (k + 1) g3 := at2.keep st3.pre fun o e => st3.keep it o e itφ (fun q => nomatch q)
    have S3 : Step [env.locals, D] φ0 g0 φ3 g3 := (st1.trans (st2.weak fun y hy => by rw [List.mem_singleton] at hy; rw [hy]; exact List.mem_cons_self)).trans (Step.nil st3)
    have back : ∀ y v', m y = some v' → upd m x v y = some v' := fun y v' q => by
      unfold upd
      rw [if_neg]
      · exact q
      · rintro rfl; rw [hmx] at q; cases q
    cases bb with
    | false =>
      simp only [Bool.false_eq_true, if_false] at e1 ⊢
      (refine ae2 (fun zq1 zq2 => ?_) (pure_some e1); subst zq1; subst zq2)
      refine wpAny_pure ⟨rfl, ?_⟩
      refine ih (k + 1) _ φ3 h2 h' a2 done hd' hk2 at3 itφ3 S3 (x3.less back) (by simpa using hl) e3 fun φ' g' tk' st' x'' => ?_
      exact hR φ' g' tk' st' (by simpa using x'')
    | true =>
      simp only [if_true] at e1 ⊢
      refine hgn d env (upd m x v) A _ { s with heap := g3, toks := tk3 } φ3 h4 h2 a done D (again (.compLoop (.ListComp elt gens scope pos) d (.ref it) (.ref D) env)) _ hgs okg oke (fun y hy => ?_) b x3 (by omega) e1 fun φ4 g4 tk4 st4 x4 => ?_
      · unfold upd
        rw [if_neg (hmg y hy).2]
        exact (hmg y hy).1
      · refine wpAny_pure ⟨rfl, ?_⟩
        obtain ⟨oit3, hoit3⟩ := at3.live
        have nF : it ∉ [env.locals, D] := fun q => by
          rcases List.mem_cons.mp q with q | q
          · exact itl q
          · exact it2 (List.mem_singleton.mp q)
        have at4 : src.At φ4 it (k + 1) g4 := at3.keep st4.pre fun o e => st4.keep it o e itφ3 nF
        refine ih (k + 1) _ φ4 h2 h' a2 (done ++ a) hd' hk2 at4 (not_in_step st4 itφ3 hoit3) (S3.trans st4) (x4.less back) (by rw [List.length_append]; omega) e3 fun φ' g' tk' st' x'' => ?_
        exact hR φ' g' tk' st' (by rw [List.append_assoc] at x''; exact x'')
end
end

section
open PySem PySem.W PyProof.Rows PySem.SeqAt PySem.Calls

section
variable {prog : Program} {w : World} {K : Frag} {C : Addr} {h₀ : Heap} {fs : List Str} {fn fm : List (Str × Value)} {n : Nat} {cl : Str → List V → M V}
variable {A : Around} {E : Value → Shared → Prop} {R : Result → Shared → Prop} {s : Shared}

theorem compStart_any {elt : Expr} {gens : List Comprehension} {scope : Scope} {pos : Pos} {d : Nat} {it acc : Value} {env : Env} {x : Expr} {iter : Expr} {ifs : List Expr} (hg : gens[d]? = some ⟨x, iter, ifs, 0⟩)
    (h0 : codeAny (model prog w) A (.compLoop (.ListComp elt gens scope pos) d it acc env) R s)
    (h : wpAny (model prog w) A (pyIter it) (fun it' s' => codeAny (model prog w) A (.compLoop (.ListComp elt gens scope pos) d it' acc env) R s') (notedBy (model prog w) A env fun x s' => R (.error x) s') s) :
    codeAny (model prog w) A (.compStart (.ListComp elt gens scope pos) d it acc env) R s := by
  refine codeAny_of_tree ?_
  show wpAny _ _ ((compStart (.ListComp elt gens scope pos) d it acc env).onRaise (fun x => do noteFrame x env; standAt theWindowsPlace)) _ _ s
  refine wpAny_notedAt ?_
  unfold compStart
  have hcl : (clausesOf (.ListComp elt gens scope pos))[d]? = some ⟨x, iter, ifs, 0⟩ := hg
  rw [hcl]
  rw [if_neg (show ¬ ((Option.some (⟨x, iter, ifs, 0⟩ : Comprehension)).elim false (fun x => x.is_async != 0) = true) from Bool.false_ne_true)]
  refine wpAny_bind (wpAny_askSetting (wpAny_ite ?_))
  split
  · first
      | exact wpAny_bind (wpAny_pure (wpAny_pure (And.intro rfl h0)))
      | exact wpAny_pure (And.intro rfl h0)
  · exact wpAny_bind (wpAny_rule (wpAny_bind (wpAny_standAt (wpAny_bind (wpAny_mono h (fun it' s' h' => wpAny_pure (And.intro rfl h')) fun zz zz x => x)))))

theorem folded_plain {e : Expr} (h : plainIt e = true) (env : Env) (x : Value) : foldedSetIterable e env x = pure x := by
  unfold foldedSetIterable
  cases e <;> first | rfl | cases h

theorem gn_cons {elt : Expr} {gens : List Comprehension} {scope : Scope} {pos : Pos} {x : Str} {px : Pos} {iter : Expr} {ifs : List Expr} {z : Int} {gs : List Comprehension} (hs : 1 < h₀.objs.size) (hi : EvP prog w C h₀ fs n cl iter) (hc : CdP prog w C h₀ fs n cl ifs)
    (hgn : GnP prog w C h₀ fs n cl elt gens scope pos gs) : GnP prog w C h₀ fs n cl elt gens scope pos (⟨.Name x px, iter, ifs, z⟩ :: gs) := by
  intro d env m A E s φ h h' r done D k Q hd okg oke hm b x0 hl e hk
  (refine ae2 (fun okt okg => ?_) (and2 (show (!isTarget gs x && (okE fs iter env.scope.names && plainIt iter && z == 0 && env.scope.names.lookup x == some .local && okTs fs ifs env.scope.names && okGs fs gs env.scope.names)) = true from okg)))
  have hnt : ∀ y, isTarget gs y = true → y ≠ x := fun y hy q => by rw [q] at hy; rw [hy] at okt; cases okt
  (refine ae2 (fun okg okg6 => ?_) (and2 okg))
  (refine ae2 (fun okg okg5 => ?_) (and2 okg))
  (refine ae2 (fun okg okg4 => ?_) (and2 okg))
  (refine ae2 (fun okg okg3 => ?_) (and2 okg))
  (refine ae2 (fun okg1 okg2 => ?_) (and2 okg))
  have hz := beq_iff_eq.mp okg3
  subst hz
  have e : (do
    let src ← evalA cl iter m
    let r ← iterA src
    compA r.2 (fun v => do
      let c ← condsA cl ifs (upd m x v)
      if c = true then gensA cl gs (upd m x v) (fun m' => evalA cl elt m') else pure []) r.1 : M (List V)) h = some (r, h') := e
  (refine xe2 (fun sv h1 zq1 => ?_) (bind_some e); revert zq1; refine ae2 fun e1 ea => ?_)
  (refine xe2 (fun ri h2 zq1 => ?_) (bind_some ea); revert zq1; refine ae2 fun e2 eb => ?_)
  clear e ea
  have hg : gens[d + 1]? = some ⟨.Name x px, iter, ifs, 0⟩ := by
    have := congrArg (·[0]?) hd
    simpa using this
  have hd' : gens.drop (d + 1 + 1) = gs := by
    have := congrArg List.tail hd
    simpa using this
  unfold tailSem
  rw [hg]
  dsimp only
  refine wpAny_bind (P0_then (hi env m A E s φ h h1 sv okg1 b x0.R x0.en e1) fun rv φ1 g1 tk st R1 v1 => wpAny_bind (wpAny_standAt ?_))
  have x1 := x0.step st R1
  rw [if_neg (by decide)]
  rw [folded_plain okg2]
  refine wpAny_bind (wpAny_pure (wpAny_bind (wpAny_holding ?_)))
  (refine ae2 (fun q zq1 => ?_) (iter_ok (prog := prog) (w := w) (s := { s with heap := g1, toks := tk }) hs R1 v1 e2); revert zq1; refine xe1 fun src zq2 => ?_; revert zq2; refine ae5 fun hr1 hnr hck hckk hit => ?_)
  subst q
  rw [hr1] at eb
  refine wpAny_mono (hit A E) (fun itv s' q => ?_) fun zz zz e => e
  (revert q; refine xe2 fun g2 tk2 zq1 => ?_; revert zq1; refine ae2 fun zq2 zq3 => ?_; subst zq2; revert zq3; refine ae2 fun zq4 zq5 => ?_; subst zq4; revert zq5; refine ae2 fun kp at2 => ?_)
  dsimp only at kp at2 ⊢
  have hnone : g1.get? g1.objs.size = none := get_size g1
  have it1 : g1.objs.size ∉ ownE env := fun q => by (refine ae3 (fun zz zz zq1 => ?_) (x1.en.own _ q); revert zq1; refine xe1 fun o e => ?_); rw [hnone] at e; cases e
  have it2 : g1.objs.size ≠ D := fun q => by obtain ⟨ys, n', e, _⟩ := x1.acc; rw [← q, hnone] at e; cases e
  have itφ : g1.objs.size ∉ φ1 := fun q => Nat.lt_irrefl _ (R1.lt q)
  refine wpAny_bind (wpAny_runOwn ?_)
  rw [Around.mark_none]
  have loop : codeAny (model prog w) A (.compLoop (.ListComp elt gens scope pos) (d + 1) (.ref g1.objs.size) (.ref D) env)
      (fun r s' => match r with | .ok f => wpAny (model prog w) A k Q E s' | .error e => cameBackBy (model prog w) A env E e s') { s with heap := g2, toks := tk2 } := by
    refine compLoop_ok hs hg hd' hc hgn b (beq_iff_eq.mp okg4) okg5 okg6 oke (hm x isTarget_head) (fun y hy => ⟨hm y (isTarget_cons hy), hnt y hy⟩) hckk it1 it2 x1.en.z (φ0 := φ1) hnone
      src.vals 0 _ φ1 h2 h' r done rfl hck at2 itφ (Step.grow kp) (x1.push kp) hl eb fun φ' g' tk' st' x' => ?_
    exact hk φ' g' tk' ((Step.nil st).trans st') x'
  exact compStart_any hg loop (iter_self hnr at2 loop)
end
end

section
open PySem PySem.W PyProof.Rows PySem.SeqAt PySem.Calls

theorem clrL_some {gs : List Comprehension} {m : L} {y : Str} {v : V} (h : clrL gs m y = some v) : m y = some v ∧ isTarget gs y = false := by
  unfold clrL at h
  split at h
  · cases h
  · rename_i q; exact ⟨h, by simpa using q⟩

section
variable {prog : Program} {w : World} {K : Frag} {C : Addr} {h₀ : Heap} {fs : List Str} {fn fm : List (Str × Value)} {n : Nat} {cl : Str → List V → M V}
variable {A : Around} {E : Value → Shared → Prop} {R : Result → Shared → Prop} {s : Shared}

structure ScC (ks : NK) (gs : List Comprehension) (sc : Scope) : Prop where
  kind : sc.kind = .function
  nodup : (sc.names.map (·.1)).Nodup
  each : ∀ y k, (y, k) ∈ sc.names → (k = .local ∧ isTarget gs y = true) ∨ (k = .free ∧ isTarget gs y = false ∧ (ks.lookup y = some .cell ∨ ks.lookup y = some .free)) ∨ k = .globalImplicit
theorem okSc_ok {ks : NK} {gs : List Comprehension} {sc : Scope} (h : okSc ks gs sc = true) : ScC ks gs sc := by
  unfold okSc at h
  (refine ae2 (fun h h3 => ?_) (and2 h))
  (refine ae2 (fun h1 h2 => ?_) (and2 h))
  refine ⟨beq_iff_eq.mp h1, of_decide_eq_true h2, fun y k hy => ?_⟩
  have := List.all_eq_true.mp h3 _ hy
  cases k <;> simp_all

theorem comp_env {env : Env} {m : L} {φ : List Addr} {g1 g4 : Heap} {gs : List Comprehension} {sc : Scope} {l : List (Str × Addr)} {CL : Addr} (en : EnvOk h₀ env m φ g1) (sco : ScC env.scope.names gs sc) (kp : ∀ b o, g1.get? b = some o → g4.get? b = some o)
    (hcl : ∀ x c, (x, c) ∈ l → env.cells.lookup x = some c) (hlk : ∀ x, (x, NameKind.free) ∈ sc.names → l.lookup x = env.cells.lookup x) (hns : g4.Ns CL fun zz => none) (hnew : g1.get? CL = none) (hφ : CL ∉ φ) (hlo : h₀.objs.size ≤ CL) :
    EnvOk h₀ (compEnvC sc l CL env) (clrL gs m) φ g4 := by
  have hk : ∀ x k, (compEnvC sc l CL env).kindOf x = some k → ∃ k', (x, k') ∈ sc.names ∧ k = (if k' == .free && env.scope.names.lookup x == some .cell then .cell else k') := fun x k h => by
    unfold Env.kindOf compEnvC at h
    dsimp only at h
    rw [relabel_names en.kind, relK_lookup, Option.map_eq_some_iff] at h
    (revert h; refine xe1 fun k' zq1 => ?_; revert zq1; refine ae2 fun h1 h2 => ?_)
    exact ⟨k', mem_of_lookup h1, h2.symm⟩
  refine ⟨sco.kind, en.globals, en.builtins, ⟨_, hns, fun x hx v hv => ?_⟩, fun x hx => ?_, ⟨hφ, hlo⟩, fun x c hc => ?_, fun x y c h1 h2 => ?_⟩
  · (refine xe1 (fun k' zq1 => ?_) (hk x _ hx); revert zq1; refine ae2 fun h1 h2 => ?_)
    (refine ae2 (fun hv1 hv2 => ?_) (clrL_some hv))
    rcases sco.each x k' h1 with ⟨rfl, q⟩ | ⟨rfl, _, _⟩ | rfl
    · rw [hv2] at q; cases q
    · split at h2 <;> cases h2
    · cases h2
  · have hf : (x, NameKind.free) ∈ sc.names ∧ isTarget gs x = false ∧ (env.scope.names.lookup x = some .cell ∨ env.scope.names.lookup x = some .free) := by
      have : ∃ k, (compEnvC sc l CL env).kindOf x = some k ∧ (k = .cell ∨ k = .free) := by
        rcases hx with q | q
        · exact ⟨_, q, .inl rfl⟩
        · exact ⟨_, q, .inr rfl⟩
      (revert this; refine xe1 fun k zq1 => ?_; revert zq1; refine ae2 fun hk1 hk2 => ?_)
      (refine xe1 (fun k' zq1 => ?_) (hk x k hk1); revert zq1; refine ae2 fun h1 h2 => ?_)
      rcases sco.each x k' h1 with ⟨rfl, q⟩ | ⟨rfl, q1, q2⟩ | rfl
      · rcases hk2 with rfl | rfl <;> cases h2
      · exact ⟨h1, q1, q2⟩
      · rcases hk2 with rfl | rfl <;> cases h2
    (revert hf; refine ae3 fun hf ht hp => ?_)
    (refine xe2 (fun c r zq1 => ?_) (en.cell x hp); revert zq1; refine ae3 fun e1 e2 e3 => ?_)
    refine ⟨c, r, (hlk x hf).trans e1, e2.keeps kp, fun v hv => ?_⟩
    exact e3 v (clrL_some hv).1
  · (refine ae4 (fun a1 a2 a3 zq1 => ?_) (en.cnew x c (mem_of_lookup (hcl x c hc))); revert zq1; refine xe1 fun r a4 => ?_)
    refine ⟨a1, a2, fun q => ?_, r, a4.keeps kp⟩
    (revert a4; refine xe1 fun o zq1 => ?_; revert zq1; refine ae2 fun e zz => ?_)
    rw [show c = CL from q, hnew] at e; cases e
  · exact en.inj x y c (hcl x c (mem_of_lookup h1)) (hcl y c (mem_of_lookup h2))

theorem comp_core {elt : Expr} {x : Str} {px : Pos} {iter : Expr} {ifs : List Expr} {z : Int} {gs : List Comprehension} {scope : Scope} {pos : Pos} {env : Env} {m : L} {φ : List Addr} {h h2 : H} {r : List V} {pp : Pos} {use : Option (Value → Sem Unit)} {Q : Value → Shared → Prop}
    (hs : 1 < h₀.objs.size) (hi : EvP prog w C h₀ fs n cl iter) (hc : CdP prog w C h₀ fs n cl ifs) (hgn : ∀ gens, GnP prog w C h₀ fs n cl elt gens scope pos gs)
    (ok : okE fs (.ListComp elt (⟨.Name x px, iter, ifs, z⟩ :: gs) scope pos) env.scope.names = true) (b : Bd A n) (R0 : Rel C h₀ φ h s.heap) (en : EnvOk h₀ env m φ s.heap) (hl : r.length ≤ lim)
    (e : (do
      let src ← evalA cl iter m
      let r ← iterA src
      compA r.2 (fun v => do
        let c ← condsA cl ifs (upd (clrL (⟨.Name x px, iter, ifs, z⟩ :: gs) m) x v)
        if c = true then gensA cl gs (upd (clrL (⟨.Name x px, iter, ifs, z⟩ :: gs) m) x v) (fun m' => evalA cl elt m') else pure []) r.1 : M (List V)) h = some (r, h2))
    (fin : ∀ D CL φ' g' tk, s.heap.get? D = none → s.heap.get? CL = none → CL ≠ D → Step [CL, D] φ s.heap φ' g' → Rel C h₀ φ' h2 g' → EnvOk h₀ env m φ' g' → AccAt D φ' g' r → D ∉ φ' → h₀.objs.size ≤ D → CL ∉ φ' → h₀.objs.size ≤ CL →
      (∃ mm, g'.Ns CL mm) → compPost (model prog w) A E use Q (.ref D) CL (.ok .next) { s with heap := g', toks := tk }) :
    wpAny (model prog w) A (comprehension (.ListComp elt (⟨.Name x px, iter, ifs, z⟩ :: gs) scope pos) scope env pp (newList []) false (eval iter env) use) Q E s := by
  obtain ⟨okt, ok⟩ := and2 (show (!isTarget gs x && (okE fs iter env.scope.names && plainIt iter && z == 0 && okSc env.scope.names (⟨.Name x px, iter, ifs, z⟩ :: gs) scope && (relK env.scope.names scope.names).lookup x == some .local &&
    okTs fs ifs (relK env.scope.names scope.names) && okGs fs gs (relK env.scope.names scope.names) && okE fs elt (relK env.scope.names scope.names))) = true from ok)
  have hnt : ∀ y, isTarget gs y = true → y ≠ x := fun y hy q => by rw [q] at hy; rw [hy] at okt; cases okt
  (refine ae2 (fun ok ok8 => ?_) (and2 ok))
  (refine ae2 (fun ok ok7 => ?_) (and2 ok))
  (refine ae2 (fun ok ok6 => ?_) (and2 ok))
  (refine ae2 (fun ok ok5 => ?_) (and2 ok))
  (refine ae2 (fun ok ok4 => ?_) (and2 ok))
  (refine ae2 (fun ok ok3 => ?_) (and2 ok))
  (refine ae2 (fun ok1 ok2 => ?_) (and2 ok))
  have sco := okSc_ok ok4
  have hz := beq_iff_eq.mp ok3
  (refine xe2 (fun sv h1 zq1 => ?_) (bind_some e); revert zq1; refine ae2 fun e1 ea => ?_)
  (refine xe2 (fun ri h3 zq1 => ?_) (bind_some ea); revert zq1; refine ae2 fun e2 eb => ?_)
  obtain ⟨l, hl1, hl2, hl3⟩ := closure_ok (sc := scope) (env := env) (fun y hy => by
    rcases sco.each y _ hy with ⟨q, _⟩ | ⟨_, _, q⟩ | q
    · cases q
    · (refine xe2 (fun c r zq1 => ?_) (en.cell y q); revert zq1; refine ae2 fun e1 zz => ?_); exact ⟨c, e1⟩
    · cases q)
  refine wpAny_comprehension_free (g := ⟨.Name x px, iter, ifs, z⟩) (gs := gs) rfl (fun y => folded_plain ok2 env y) hl1 sco.kind (fun y hy hl => ?_) ?_
  · obtain ⟨y, k⟩ := y
    dsimp only at hl
    subst hl
    exact lookup_of_mem sco.nodup hy
  refine P0_then (hi env m A E s φ h h1 sv ok1 b R0 en e1) fun rv φ1 g1 tk st R1 v1 => ?_
  have en1 := en.step st
  (refine ae2 (fun q zq1 => ?_) (iter_ok (prog := prog) (w := w) (s := { s with heap := g1, toks := tk }) hs R1 v1 e2); revert zq1; refine xe1 fun src zq2 => ?_; revert zq2; refine ae5 fun hr1 hnr hck hckk hit => ?_)
  subst q
  rw [hr1] at eb
  refine wpAny_mono (hit A E) (fun itv s' q => ?_) fun zz zz e => e
  (revert q; refine xe2 fun g2 tk2 zq1 => ?_; revert zq1; refine ae2 fun zq2 zq3 => ?_; subst zq2; revert zq3; refine ae2 fun zq4 zq5 => ?_; subst zq4; revert zq5; refine ae2 fun kp at2 => ?_)
  dsimp only at kp at2 ⊢
  have hnone : g1.get? g1.objs.size = none := get_size g1
  have hlt2 : g1.objs.size < g2.objs.size := by obtain ⟨o, e⟩ := at2.live; exact Heap.lt_size e
  refine wpAny_newObj_type (wpAny_newFunctionEnv (fun y hy => ?_) (by intro y hy; simp at hy) (fun h₁ hns₁ hsb₁ => ?_) sco.kind)
  · obtain ⟨y, k⟩ := y
    rcases sco.each y k hy with ⟨rfl, _⟩ | ⟨rfl, _⟩ | rfl <;> exact fun q => nomatch q
  dsimp only at hns₁ hsb₁ ⊢
  generalize hH2 : g2.push { cls := .type "list", dict := none, data := .seq ([] : List Value).toArray } = H2 at hns₁ hsb₁ ⊢
  have hC : H2.objs.size = g2.objs.size + 1 := by rw [← hH2, Heap.size_push]
  have dead : ∀ a, g2.objs.size ≤ a → g1.get? a = none ∧ s.heap.get? a = none := fun a ha => by
    have h1 : g1.get? a = none := by
      cases e : g1.get? a with
      | none => rfl
      | some o => exact absurd (Heap.lt_size (kp a o e)) (Nat.not_lt.mpr ha)
    refine ⟨h1, ?_⟩
    cases e : s.heap.get? a with
    | none => rfl
    | some o => (refine xe1 (fun o' e' => ?_) (st.alive a o e)); rw [h1] at e'; cases e'
  have hDd := dead g2.objs.size (Nat.le_refl _)
  have hCd := dead H2.objs.size (by rw [hC]; exact Nat.le_succ _)
  have hCD : H2.objs.size ≠ g2.objs.size := by rw [hC]; exact Nat.succ_ne_self _
  have kp4 : ∀ b o, g2.get? b = some o → h₁.get? b = some o := fun b o e => hsb₁.extBut b o (fun q => by
    have := Heap.lt_size e; rw [q, hC] at this; exact Nat.lt_irrefl _ (Nat.lt_of_succ_lt this)) (Heap.get?_push_of_some _ (hH2 ▸ Heap.get?_push_of_some _ e))
  have kp14 : ∀ b o, g1.get? b = some o → h₁.get? b = some o := fun b o e => kp4 b o (kp b o e)
  have hlo1 : h₀.objs.size ≤ g1.objs.size := en1.z
  have hlo2 : h₀.objs.size ≤ g2.objs.size := Nat.le_trans hlo1 (Nat.le_of_lt hlt2)
  have dnφ : ∀ a, g2.objs.size ≤ a → a ∉ φ1 := fun a ha q => Nat.lt_irrefl _ (Nat.lt_of_lt_of_le (Nat.lt_trans (R1.lt q) hlt2) ha)
  have cen := comp_env (CL := H2.objs.size) (gs := ⟨.Name x px, iter, ifs, z⟩ :: gs) en1 sco kp14 hl2 hl3 (by simpa using hns₁) hCd.1 (dnφ _ (by rw [hC]; exact Nat.le_succ _)) (Nat.le_trans hlo2 (by rw [hC]; exact Nat.le_succ _))
  have notOwn : ∀ a, (∀ o, g1.get? a ≠ some o) → a ≠ H2.objs.size → a ∉ ownE (compEnvC scope l H2.objs.size env) := fun a ha hne q => by
    rcases List.mem_cons.mp q with q | q
    · exact hne q
    · (refine xe1 (fun zq1 zq2 => ?_) (List.mem_map.mp q); rcases zq1 with ⟨y, c⟩; revert zq2; refine ae2 fun hy zq3 => ?_; subst zq3)
      (refine ae4 (fun zz zz zz zq1 => ?_) (en1.cnew y c (mem_of_lookup (hl2 y c hy))); revert zq1; refine xe2 fun r o zq2 => ?_; revert zq2; refine ae2 fun e zz => ?_)
      exact ha o e
  have hacc : h₁.get? g2.objs.size = some (seqObj "list" (List.toArray []) 0) := hsb₁.extBut _ _ (fun q => hCD q.symm) (Heap.get?_push_of_some _ (hH2 ▸ Heap.get?_push_size _ rfl))
  have cs0 : CS C h₀ (compEnvC scope l H2.objs.size env) g2.objs.size (clrL (⟨.Name x px, iter, ifs, z⟩ :: gs) m) φ1 h3 h₁ [] :=
    ⟨R1.grow kp14, cen, ⟨[], 0, hacc, .nil⟩, dnφ _ (Nat.le_refl _), hlo2, notOwn _ (fun o q => by rw [hDd.1] at q; cases q) (fun q => hCD q.symm)⟩
  have at4 : src.At φ1 g1.objs.size 0 h₁ := at2.keep (List.prefix_refl _) fun o e => kp4 _ o e
  have names : (compEnvC scope l H2.objs.size env).scope.names = relK env.scope.names scope.names := relabel_names en.kind
  have loop : codeAny (model prog w) A (.compLoop (.ListComp elt (⟨.Name x px, iter, ifs, z⟩ :: gs) scope pos) 0 (.ref g1.objs.size) (.ref g2.objs.size) (compEnvC scope l H2.objs.size env))
      (compPost (model prog w) A E use Q (.ref g2.objs.size) H2.objs.size) { s with heap := h₁, toks := tk2 + ([] : List (Str × Value)).length } := by
    refine compLoop_ok (gs := gs) (x := x) (px := px) (iter := iter) (ifs := ifs) (m := clrL (⟨.Name x px, iter, ifs, z⟩ :: gs) m) hs (by rw [hz]; rfl) rfl hc (hgn _) b (by rw [names]; exact beq_iff_eq.mp ok5) (by rw [names]; exact ok6) (by rw [names]; exact ok7) (by rw [names]; exact ok8)
      (by unfold clrL; rw [if_pos isTarget_head]) (fun y hy => ⟨by unfold clrL; rw [if_pos (isTarget_cons hy)], hnt y hy⟩) hckk
      (notOwn _ (fun o q => by rw [hnone] at q; cases q) (Nat.ne_of_lt (Nat.lt_trans hlt2 (by rw [hC]; exact Nat.lt_succ_self _)))) (Nat.ne_of_lt hlt2) hlo1 (g0 := g1) (φ0 := φ1) hnone
      src.vals 0 { s with heap := h₁, toks := tk2 + ([] : List (Str × Value)).length } φ1 h3 h2 r [] rfl hck at4 (fun q => Nat.lt_irrefl _ (R1.lt q)) (Step.grow kp14) cs0 (by simpa using hl) eb fun φ' g' tk' st' x' => ?_
    rw [List.nil_append] at x'
    have stt : Step [H2.objs.size, g2.objs.size] φ s.heap φ' g' := (Step.nil st).trans st'
    refine fin g2.objs.size H2.objs.size φ' g' tk' hDd.2 hCd.2 hCD stt x'.R (en.step' stt fun a ha q => ?_) x'.acc x'.dn.1 x'.dn.2.1 x'.en.new.1 x'.en.new.2 (let ⟨mm, h, _⟩ := x'.en.loc; ⟨mm, h⟩)
    (refine ae3 (fun zz zz zq1 => ?_) (en.own a q); revert zq1; refine xe1 fun o e => ?_)
    rcases List.mem_cons.mp ha with rfl | ha
    · rw [hCd.2] at e; cases e
    · rw [List.mem_singleton] at ha; rw [ha, hDd.2] at e; cases e
  exact compStart_any (gens := ⟨.Name x px, iter, ifs, z⟩ :: gs) (d := 0) (by rw [hz]; rfl) loop (iter_self hnr at4 loop)

theorem newL_some {vs : List V} {h h' : H} {v : V} (e : newL vs h = some (v, h')) : vs.length ≤ lim ∧ v = .ref h.length ∧ h' = h ++ [.list vs] := by
  unfold newL at e
  (refine ae2 (fun q e => ?_) (ite_some e))
  have e := new_bind e
  (refine ae2 (fun zq1 zq2 => ?_) (pure_some e); subst zq1; subst zq2)
  exact ⟨q, rfl, rfl⟩

/- the collected list is told at the end -/
theorem comp_end {D CL : Addr} {φ φ' : List Addr} {g' g'' : Heap} {h2 : H} {r : List V} {g : Heap} (hD : g.get? D = none) (hCL : g.get? CL = none) (hne : CL ≠ D) (st : Step [CL, D] φ g φ' g') (R' : Rel C h₀ φ' h2 g') (acc : AccAt D φ' g' r) (h1 : D ∉ φ') (h2' : h₀.objs.size ≤ D)
    (h3 : CL ∉ φ') (h4 : h₀.objs.size ≤ CL) (sb : Heap.ExtBut CL g' g'') : Step [] φ g (φ' ++ [D]) g'' ∧ Rel C h₀ (φ' ++ [D]) (h2 ++ [.list r]) g'' ∧ VR (φ' ++ [D]) (.ref h2.length) (.ref D) := by
  (revert acc; refine xe2 fun ys k zq1 => ?_; revert zq1; refine ae2 fun e rr => ?_)
  have e'' : g''.get? D = some (seqObj "list" (List.toArray ys) k) := sb D _ (fun q => hne q.symm) e
  have s1 : Step [CL, D] φ g φ' g'' := st.last sb hCL
  refine ⟨⟨s1.pre.trans (List.prefix_append _ _), fun b o e h zz => s1.keep b o e h fun q => ?_, s1.alive, fun b hb => ?_⟩, (R'.ext sb h3 h4).alloc e'' h1 h2' ⟨ys, k, rfl, rr.mono (List.prefix_append _ _)⟩, .ref _ _ (by rw [← R'.len, List.getElem?_concat_length])⟩
  · rcases List.mem_cons.mp q with q | q
    · rw [q, hCL] at e; cases e
    · rw [List.mem_singleton] at q; rw [q, hD] at e; cases e
  · rcases List.mem_append.mp hb with q | q
    · exact s1.fresh b q
    · rw [List.mem_singleton] at q; exact .inr (q ▸ hD)

theorem ev_ListComp {elt : Expr} {x : Str} {px : Pos} {iter : Expr} {ifs : List Expr} {z : Int} {gs : List Comprehension} {scope : Scope} {pos : Pos}
    (hs : 1 < h₀.objs.size) (hi : EvP prog w C h₀ fs n cl iter) (hc : CdP prog w C h₀ fs n cl ifs) (hgn : ∀ gens, GnP prog w C h₀ fs n cl elt gens scope pos gs) :
    EvP prog w C h₀ fs n cl (.ListComp elt (⟨.Name x px, iter, ifs, z⟩ :: gs) scope pos) := by
  intro env m A E s φ h h' v ok b R en e
  have e : (do
    let src ← evalA cl iter m
    let r ← iterA src
    let vs ← compA r.2 (fun v => do
      let c ← condsA cl ifs (upd (clrL (⟨.Name x px, iter, ifs, z⟩ :: gs) m) x v)
      if c = true then gensA cl gs (upd (clrL (⟨.Name x px, iter, ifs, z⟩ :: gs) m) x v) (fun m' => evalA cl elt m') else pure []) r.1
    newL vs : M V) h = some (v, h') := e
  (refine xe2 (fun sv h1 zq1 => ?_) (bind_some e); revert zq1; refine ae2 fun e1 ea => ?_)
  (refine xe2 (fun ri h3 zq1 => ?_) (bind_some ea); revert zq1; refine ae2 fun e2 eb => ?_)
  (refine xe2 (fun r h2 zq1 => ?_) (bind_some eb); revert zq1; refine ae2 fun e3 ec => ?_)
  (refine ae3 (fun hl zq1 zq2 => ?_) (newL_some ec); subst zq1; subst zq2)
  rw [eval_ListComp]
  have hz : z = 0 := by
    have ok := (and2 (show (!isTarget gs x && (okE fs iter env.scope.names && plainIt iter && z == 0 && okSc env.scope.names (⟨.Name x px, iter, ifs, z⟩ :: gs) scope && (relK env.scope.names scope.names).lookup x == some .local &&
      okTs fs ifs (relK env.scope.names scope.names) && okGs fs gs (relK env.scope.names scope.names) && okE fs elt (relK env.scope.names scope.names))) = true from ok)).2
    exact beq_iff_eq.mp (and2 (and2 (and2 (and2 (and2 (and2 ok).1).1).1).1).1).2
  have hf : firstAsync (⟨.Name x px, iter, ifs, z⟩ :: gs) = false := by rw [hz]; rfl
  rw [hf]
  refine comp_core (h2 := h2) (r := r) hs hi hc hgn ok b R en hl ?_ fun D CL φ' g' tk a1 a2 a3 a4 a5 a6 a7 a8 a9 a10 a11 a12 => ?_
  · show (evalA cl iter m >>= fun src => _) h = _
    change (evalA cl iter m h).bind _ = _
    rw [e1]
    change (iterA sv h1).bind _ = _
    rw [e2]
    exact e3
  · (revert a12; refine xe1 fun mm hn => ?_)
    refine ⟨mm, hn, fun g'' sb => ?_⟩
    (refine ae3 (fun p1 p2 p3 => ?_) (comp_end a1 a2 a3 a4 a5 a7 a8 a9 a10 a11 sb.extBut))
    exact ⟨_, g'', tk, rfl, p1, p2, p3⟩
end
end

section
open PySem PySem.W PyProof.Rows PySem.SeqAt PySem.Calls

section
variable {prog : Program} {w : World} {K : Frag} {C : Addr} {h₀ : Heap} {fs : List Str} {fn fm : List (Str × Value)} {n : Nat} {cl : Str → List V → M V}

theorem no_ev {e : Expr} (h : ∀ ks, okE fs e ks = false) : EvP prog w C h₀ fs n cl e := by
  intro env m A E s φ h' h'' v ok
  rw [h] at ok; cases ok
theorem no_ts {e : Expr} (h : ∀ ks, okT fs e ks = false) : TsP prog w C h₀ fs n cl e := by
  intro env m A E s φ h' h'' v ok
  rw [h] at ok; cases ok

theorem okSub_eq {i : Expr} (h : plainSl i = true) (x : Expr) (p : Pos) (ks : NK) : okE fs (.Subscript x i p) ks = (okE fs x ks && okE fs i ks && plainSl i) := by
  cases i with
  | Slice a b c q => exact (Bool.false_ne_true h).elim
  | _ => exact Eq.refl _
theorem evSub_eq {i : Expr} (h : plainSl i = true) (x : Expr) (p : Pos) (m : L) : evalA cl (.Subscript x i p) m = (do let o ← evalA cl x m; let j ← evalA cl i m; getItemA o j) := by
  cases i with
  | Slice a b c q => exact (Bool.false_ne_true h).elim
  | _ => exact Eq.refl _
theorem isSl {i : Expr} (h : plainSl i = false) : ∃ a b c q, i = .Slice a b c q := by
  cases i with
  | Slice a b c q => exact ⟨a, b, c, q, rfl⟩
  | _ => exact (Bool.false_ne_true h.symm).elim
theorem ev_Sub_all (v i : Expr) (p : Pos) (hv : EvP prog w C h₀ fs n cl v) (hi : EvP prog w C h₀ fs n cl i) : EvP prog w C h₀ fs n cl (.Subscript v i p) := by
  cases hp : plainSl i with
  | true => exact ev_Subscript v _ p hv hi hp (okSub_eq hp v p) (evSub_eq hp v p)
  | false =>
    (refine xe4 (fun a b c q e => ?_) (isSl hp))
    clear hi hp
    subst e
    have no : (∀ ks, okE fs (.Subscript v (.Slice a b c q) p) ks = false) → EvP prog w C h₀ fs n cl (.Subscript v (.Slice a b c q) p) := fun h => no_ev h
    cases a with
    | some a => exact no fun zz => Bool.and_false _
    | none =>
      cases b with
      | none => exact no fun zz => Bool.and_false _
      | some b =>
        cases c with
        | some c =>
          refine no ?_
          clear no hv
          cases b with
          | Constant k c' p1 => cases k <;> exact fun zz => Bool.and_false _
          | _ => exact fun zz => Bool.and_false _
        | none =>
          cases b with
          | Constant k c' p1 =>
            cases k with
            | int k => exact ev_Slice v k c' p1 q p hv
            | _ => exact no fun zz => Bool.and_false _
          | _ => exact no fun zz => Bool.and_false _

noncomputable def AllE (prog : Program) (w : World) (C : Addr) (h₀ : Heap) (fs : List Str) (n : Nat) (cl : Str → List V → M V) (N : Nat) : Prop :=
  (∀ e : Expr, sizeOf e < N → EvP prog w C h₀ fs n cl e ∧ TsP prog w C h₀ fs n cl e) ∧
  (∀ es : List Expr, sizeOf es < N → EvsP prog w C h₀ fs n cl es ∧ BoP prog w C h₀ fs n cl es ∧ TssP prog w C h₀ fs n cl es ∧ CdP prog w C h₀ fs n cl es) ∧
  (∀ gs : List Comprehension, sizeOf gs < N → ∀ elt gens scope pos, EvP prog w C h₀ fs n cl elt → GnP prog w C h₀ fs n cl elt gens scope pos gs)

theorem no_gn {g : Comprehension} {gs gens : List Comprehension} {elt : Expr} {scope : Scope} {pos : Pos} (h : ∀ ks, okGs fs (g :: gs) ks = false) : GnP prog w C h₀ fs n cl elt gens scope pos (g :: gs) := by
  intro d env m A E s φ h' h'' r done D k Q _ ok
  rw [h] at ok; cases ok

-- a part is smaller than the whole: qA_i: the i-th of A parts
theorem q2_1 {x a b N : Nat} (e : x = 1 + a + b) (h : x < N + 1) : a < N := by omega
theorem q2_2 {x a b N : Nat} (e : x = 1 + a + b) (h : x < N + 1) : b < N := by omega
theorem q3_1 {x a b c N : Nat} (e : x = 1 + a + b + c) (h : x < N + 1) : a < N := q2_1 (Nat.add_assoc _ b c ▸ e) h
theorem q3_2 {x a b c N : Nat} (e : x = 1 + a + b + c) (h : x < N + 1) : b < N := q2_1 (b := a + c) (by rw [e, Nat.add_right_comm 1 a b, Nat.add_assoc (1 + b)]) h
theorem q4_1 {x a b c d N : Nat} (e : x = 1 + a + b + c + d) (h : x < N + 1) : a < N := q3_1 (Nat.add_assoc _ c d ▸ e) h
theorem q4_2 {x a b c d N : Nat} (e : x = 1 + a + b + c + d) (h : x < N + 1) : b < N := q3_2 (Nat.add_assoc _ c d ▸ e) h
theorem q4_3 {x a b c d N : Nat} (e : x = 1 + a + b + c + d) (h : x < N + 1) : c < N := q3_2 (a := a + b) (by rw [e, Nat.add_assoc 1 a b]) h
theorem q_s {x N : Nat} (h : x < N) : x < N + 1 := Nat.lt_succ_of_lt h

theorem okE_kw {f : Expr} {as : List Expr} {kw : Keyword} {kws : List Keyword} {p : Pos} : ∀ ks, okE fs (.Call f as (kw :: kws) p) ks = false := fun ks => by cases f <;> exact Eq.refl false
theorem okT_kw {f : Expr} {as : List Expr} {kw : Keyword} {kws : List Keyword} {p : Pos} : ∀ ks, okT fs (.Call f as (kw :: kws) p) ks = false := fun ks => by cases f <;> exact Eq.refl false

theorem evE (X : Cx prog w K C h₀ fs fn fm n cl) {N : Nat} (iE : ∀ e : Expr, sizeOf e < N → EvP prog w C h₀ fs n cl e) (iT : ∀ e : Expr, sizeOf e < N → TsP prog w C h₀ fs n cl e)
    (iS : ∀ es : List Expr, sizeOf es < N → EvsP prog w C h₀ fs n cl es) (iB : ∀ es : List Expr, sizeOf es < N → BoP prog w C h₀ fs n cl es) (iC : ∀ es : List Expr, sizeOf es < N → CdP prog w C h₀ fs n cl es)
    (ig : ∀ gs : List Comprehension, sizeOf gs < N → ∀ elt gens scope pos, EvP prog w C h₀ fs n cl elt → GnP prog w C h₀ fs n cl elt gens scope pos gs)
    (no : ∀ e, (∀ ks, okE fs e ks = false) → EvP prog w C h₀ fs n cl e) : ∀ e : Expr, sizeOf e < N + 1 → EvP prog w C h₀ fs n cl e := fun e h => by
  cases e with
  | BoolOp op vs p => exact ev_BoolOp op vs p (iB vs (q3_2 (Expr.BoolOp.sizeOf_spec op vs p) h))
  | BinOp l op r p =>
    have s := Expr.BinOp.sizeOf_spec l op r p
    exact ev_BinOp l op r p (iE l (q4_1 s h)) (iE r (q4_3 s h))
  | UnaryOp op x p =>
    cases op with
    | USub => exact ev_USub x p (iE x (q3_2 (Expr.UnaryOp.sizeOf_spec .USub x p) h))
    | _ =>
      intro env m A E s φ h1 h2 v _ _ _ _ e
      exact (fail_some (show (fail : M V) h1 = some (v, h2) from e)).elim
  | IfExp t b o p =>
    have s := Expr.IfExp.sizeOf_spec t b o p
    exact ev_IfExp t b o p (iT t (q4_1 s h)) (iE b (q4_2 s h)) (iE o (q4_3 s h))
  | Compare l ops rs p =>
    have s := Expr.Compare.sizeOf_spec l ops rs p
    cases ops with
    | nil => exact no _ fun zz => Eq.refl false
    | cons op ops =>
      cases ops with
      | cons _ _ => exact no _ fun zz => Eq.refl false
      | nil =>
        cases rs with
        | nil => exact no _ fun zz => Eq.refl false
        | cons r rs =>
          cases rs with
          | cons _ _ => exact no _ fun zz => Eq.refl false
          | nil => exact ev_Compare X.two l op r p (iE l (q4_1 s h)) (iE r (q2_1 (List.cons.sizeOf_spec r []) (q_s (q4_3 s h))))
  | Call f as kws p =>
    have s := Expr.Call.sizeOf_spec f as kws p
    cases kws with
    | cons kw kws => exact no _ okE_kw
    | nil =>
      cases f with
      | Name f pf => exact ev_CallName X f pf as p (iS as (q4_2 s h))
      | Attribute o x ap => exact ev_CallMeth X o x ap as p (iE o (q3_1 (Expr.Attribute.sizeOf_spec o x ap) (q_s (q4_1 s h)))) (iS as (q4_2 s h))
      | _ => exact no _ fun zz => Eq.refl false
  | Attribute o x p => exact ev_Attribute (C' := X) o x p (iE o (q3_1 (Expr.Attribute.sizeOf_spec o x p) h))
  | Subscript v i p =>
    have s := Expr.Subscript.sizeOf_spec v i p
    exact ev_Sub_all v i p (iE v (q3_1 s h)) (iE i (q3_2 s h))
  | List es p => exact ev_List es p (iS es (q2_1 (Expr.List.sizeOf_spec es p) h))
  | Tuple es k p => exact ev_Tuple es k p (iS es (q3_1 (Expr.Tuple.sizeOf_spec es k p) h))
  | Dict ks vs p =>
    cases ks with
    | nil =>
      cases vs with
      | nil => exact ev_Dict p
      | cons v vs => exact no _ fun zz => Eq.refl false
    | cons k ks => exact no _ fun zz => Eq.refl false
  | ListComp e gs sc p =>
    have s := Expr.ListComp.sizeOf_spec e gs sc p
    cases gs with
    | nil => exact no _ fun zz => Eq.refl false
    | cons g gs =>
      have s1 := q_s (q4_2 s h)
      have s2 := List.cons.sizeOf_spec g gs
      have s3 := q_s (q2_1 s2 s1)
      cases g with
      | mk t it ifs z =>
      have s4 := Comprehension.mk.sizeOf_spec t it ifs z
      cases t with
      | Name x px => exact ev_ListComp X.two (iE it (q4_2 s4 s3)) (iC ifs (q4_3 s4 s3)) (fun gens => ig gs (q2_2 s2 s1) e gens sc p (iE e (q4_1 s h)))
      | _ => exact no _ fun zz => Eq.refl false
  | Constant c k p => exact ev_Constant c k p
  | Name x p => exact ev_Name x p
  | _ => exact no _ fun zz => Eq.refl false

theorem tsE (X : Cx prog w K C h₀ fs fn fm n cl) {N : Nat} (iE : ∀ e : Expr, sizeOf e < N → EvP prog w C h₀ fs n cl e) (iT : ∀ e : Expr, sizeOf e < N → TsP prog w C h₀ fs n cl e)
    (iTs : ∀ es : List Expr, sizeOf es < N → TssP prog w C h₀ fs n cl es) (he : ∀ e : Expr, sizeOf e < N + 1 → EvP prog w C h₀ fs n cl e)
    (no : ∀ e, (∀ ks, okT fs e ks = false) → TsP prog w C h₀ fs n cl e) : ∀ e : Expr, sizeOf e < N + 1 → TsP prog w C h₀ fs n cl e := fun e h => by
  cases e with
  | UnaryOp op x p =>
    cases op with
    | Not => exact ts_Not x p (iT x (q3_2 (Expr.UnaryOp.sizeOf_spec .Not x p) h))
    | _ => exact no _ fun zz => Eq.refl false
  | BoolOp op vs p => exact ts_BoolOp op vs p (iTs vs (q3_2 (Expr.BoolOp.sizeOf_spec op vs p) h))
  | Compare l ops rs p =>
    have s := Expr.Compare.sizeOf_spec l ops rs p
    cases ops with
    | nil => exact no _ fun zz => Eq.refl false
    | cons op ops =>
      cases ops with
      | cons _ _ => exact no _ fun zz => Eq.refl false
      | nil =>
        cases rs with
        | nil => exact no _ fun zz => Eq.refl false
        | cons r rs =>
          cases rs with
          | cons _ _ => exact no _ fun zz => Eq.refl false
          | nil => exact ts_Compare X.two l op r p (iE l (q4_1 s h)) (iE r (q2_1 (List.cons.sizeOf_spec r []) (q_s (q4_3 s h))))
  | Name x p => exact ts_value _ (he _ h) (fun zz zz => rfl) (fun zz zz => rfl) (fun zz q => q)
  | Call f as kws p =>
    cases kws with
    | cons kw kws => exact no _ okT_kw
    | nil =>
      cases f with
      | Name f pf => exact ts_value _ (he _ h) (fun zz zz => rfl) (fun zz zz => rfl) (fun zz q => q)
      | _ => exact no _ fun zz => Eq.refl false
  | _ => exact no _ fun zz => Eq.refl false

theorem allE (X : Cx prog w K C h₀ fs fn fm n cl) : ∀ N, AllE prog w C h₀ fs n cl N
  | 0 => ⟨fun e h => absurd h (Nat.not_lt_zero _), fun es h => absurd h (Nat.not_lt_zero _), fun gs h => absurd h (Nat.not_lt_zero _)⟩
  | N + 1 => by
    have ih := allE X N
    have iE : ∀ e : Expr, sizeOf e < N → EvP prog w C h₀ fs n cl e := fun e h => (ih.1 e h).1
    have iT : ∀ e : Expr, sizeOf e < N → TsP prog w C h₀ fs n cl e := fun e h => (ih.1 e h).2
    have il := ih.2.1
    have ig := ih.2.2
    have he := evE X iE iT (fun es h => (il es h).1) (fun es h => (il es h).2.1) (fun es h => (il es h).2.2.2) ig (fun e h => no_ev h)
    have ht := tsE X iE iT (fun es h => (il es h).2.2.1) he (fun e h => no_ts h)
    refine ⟨fun e h => ⟨he e h, ht e h⟩, fun es h => ?_, fun gs h => ?_⟩
    · cases es with
      | nil => exact ⟨evs_nil, bo_nil, tss_nil, cd_nil⟩
      | cons e es =>
        have s := List.cons.sizeOf_spec e es
        have h1 := iE e (q2_1 s h)
        have t1 := iT e (q2_1 s h)
        have h2 := il es (q2_2 s h)
        exact ⟨evs_cons e es h1 h2.1, bo_cons e es h1 h2.2.1, tss_cons e es t1 h2.2.2.1, cd_cons e es t1 h2.2.2.2⟩
    · cases gs with
      | nil => exact fun elt gens scope pos he => gn_nil he
      | cons g gs =>
        have s := List.cons.sizeOf_spec g gs
        have s3 := q_s (q2_1 s h)
        have hg := ig gs (q2_2 s h)
        intro elt gens scope pos he
        cases g with
        | mk t it ifs z =>
        have s4 := Comprehension.mk.sizeOf_spec t it ifs z
        cases t with
        | Name x px => exact gn_cons X.two (iE it (q4_2 s4 s3)) (il ifs (q4_3 s4 s3)).2.2.2 (hg elt gens scope pos he)
        | _ => exact no_gn fun zz => Eq.refl false

theorem eval_ok (X : Cx prog w K C h₀ fs fn fm n cl) (e : Expr) : EvP prog w C h₀ fs n cl e := ((allE X _).1 e (Nat.lt_succ_self _)).1
theorem test_ok (X : Cx prog w K C h₀ fs fn fm n cl) (e : Expr) : TsP prog w C h₀ fs n cl e := ((allE X _).1 e (Nat.lt_succ_self _)).2
theorem conds_ok (X : Cx prog w K C h₀ fs fn fm n cl) (es : List Expr) : CdP prog w C h₀ fs n cl es := ((allE X _).2.1 es (Nat.lt_succ_self _)).2.2.2
theorem gens_ok (X : Cx prog w K C h₀ fs fn fm n cl) (gs : List Comprehension) (elt : Expr) (gens : List Comprehension) (scope : Scope) (pos : Pos) : GnP prog w C h₀ fs n cl elt gens scope pos gs := (allE X _).2.2 gs (Nat.lt_succ_self _) elt gens scope pos (eval_ok X elt)
end
end

section
open PySem PySem.W PyProof.Rows PySem.SeqAt PySem.Calls

noncomputable def notLC : Expr → Bool
  | .ListComp .. => false
  | .SetComp .. => false
  | .DictComp .. => false
  | _ => true
noncomputable def tgOk (ks : NK) : List Expr → Bool
  | [] => true
  | .Name x _ :: r => isStore ks x && tgOk ks r
  | _ => false
noncomputable def notTup : Expr → Bool
  | .Tuple .. => false
  | _ => true
/- a pair of names that is exchanged -/
noncomputable def asNm : Expr → Option (Str × Pos)
  | .Name x p => some (x, p)
  | _ => .none
noncomputable def asTup : Expr → Option (List Expr)
  | .Tuple us _ _ => some us
  | _ => .none
noncomputable def swN (ks : NK) (o1 o2 : Option (Str × Pos)) (v1 v2 : Expr) : Bool :=
  match o1 with
  | some p => match o2 with
    | some q => ks.lookup p.1 == some .local && ks.lookup q.1 == some .local && p.2.line == q.2.line && !(p.1 == q.1) && notStar v1 && notStar v2 && !([v1, v2].all (foldedForSure 8)) && !([v1, v2].all (constantsAlone 8))
    | .none => false
  | .none => false
noncomputable def on2 {α : Type} (f : α → α → Bool) : List α → Bool
  | [a, b] => f a b
  | _ => false
noncomputable def swIn (ks : NK) (ts us : List Expr) : Bool := on2 (fun t1 t2 => on2 (fun v1 v2 => swN ks (asNm t1) (asNm t2) v1 v2) us) ts
noncomputable def swOk (ks : NK) (ts : List Expr) (v : Expr) : Bool :=
  match asTup v with
  | some us => swIn ks ts us
  | .none => true

section
variable (fs : List Str)
mutual
noncomputable def okS : Stmt → NK → Bool
  | .Assign [.Name x _] e _, ks => isStore ks x && okE fs e ks
  | .Assign [.Tuple ts _ _] e _, ks => okE fs e ks && notLC e && tgOk ks ts && swOk ks ts e
  | .Assign [.Subscript o i _] e _, ks => okE fs e ks && notLC e && okE fs o ks && okE fs i ks
  | .Assign [.Attribute o _ _] e _, ks => okE fs e ks && notLC e && okE fs o ks
  | .AugAssign (.Name x _) _ e _, ks => isVar ks x && isStore ks x && okE fs e ks
  | .Delete [.Subscript o i _] _, ks => okE fs o ks && okE fs i ks
  | .Expr e _, ks => okE fs e ks && notLC e
  | .Return (some e) _, ks => okE fs e ks
  | .If t b o _, ks => okT fs t ks && okSs b ks && okSs o ks
  | .For (.Name x _) it body [] _, ks => isStore ks x && okE fs it ks && plainIt it && okSs body ks
  | .Continue _, _ => true
  | _, _ => false
noncomputable def okSs : List Stmt → NK → Bool
  | [], _ => true
  | s :: r, ks => okS s ks && okSs r ks
end
end

theorem swaps_plain {e : Expr} (h : notLC e = true) (t : Option Expr) (l : Nat) (env : Env) : swapsWith e t l env = pure false := by
  cases e <;> first | rfl | cases h

inductive FlR (φ : List Addr) : Fl → Flow → Prop where
  | next : FlR φ .next .next
  | cont : FlR φ .cont .cont
  | ret {v : V} {r : Value} (h : VR φ v r) : FlR φ (.ret v) (.ret r)

section
variable (prog : Program) (w : World) (C : Addr) (h₀ : Heap) (fs : List Str) (n : Nat) (cl : Str → List V → M V)
noncomputable def SX (x : Sem Flow) (env : Env) (A : Around) (E : Value → Shared → Prop) (s : Shared) (φ : List Addr) (h' : H) (fl : Fl) (m' : L) : Prop :=
  wpAny (model prog w) A x (fun f s' => P0 C h₀ (ownE env) φ s h' (fun φ' g => EnvOk h₀ env m' φ' g ∧ FlR φ' fl f) s') E s
noncomputable def StP (st : Stmt) : Prop := ∀ (env : Env) (m m' : L) (A : Around) (E : Value → Shared → Prop) (s : Shared) (φ : List Addr) (h h' : H) (fl : Fl), okS fs st env.scope.names = true → Bd A n → Rel C h₀ φ h s.heap → EnvOk h₀ env m φ s.heap →
  execA cl st m h = some ((fl, m'), h') → SX prog w C h₀ (exec st env) env A E s φ h' fl m'
noncomputable def StsP (st : List Stmt) : Prop := ∀ (env : Env) (m m' : L) (A : Around) (E : Value → Shared → Prop) (s : Shared) (φ : List Addr) (h h' : H) (fl : Fl), okSs fs st env.scope.names = true → Bd A n → Rel C h₀ φ h s.heap → EnvOk h₀ env m φ s.heap →
  execsA cl st m h = some ((fl, m'), h') → SX prog w C h₀ (execs st env) env A E s φ h' fl m'
end

section
variable {prog : Program} {w : World} {K : Frag} {C : Addr} {h₀ : Heap} {fs : List Str} {fn fm : List (Str × Value)} {n : Nat} {cl : Str → List V → M V}

theorem no_st {e : Stmt} (h : ∀ ks, okS fs e ks = false) : StP prog w C h₀ fs n cl e := by
  intro env m m' A E s φ h' h'' v ok
  rw [h] at ok; cases ok

theorem isStore_or {env : Env} {x : Str} (h : isStore env.scope.names x = true) : env.kindOf x = some .local ∨ env.kindOf x = some .cell := by
  unfold isStore at h
  rcases Bool.or_eq_true_iff.mp h with h | h
  · exact .inl (beq_iff_eq.mp h)
  · exact .inr (beq_iff_eq.mp h)

section
variable {A : Around} {E : Value → Shared → Prop} {s : Shared} {env : Env} {m m' : L} {φ : List Addr} {h h' : H}

/- a store at the end of a statement -/
theorem st_store {x : Str} {v : V} {rv : Value} {φ1 : List Addr} {g1 : Heap} {tk : Nat} (st : Step [] φ s.heap φ1 g1) (R : Rel C h₀ φ1 h' g1) (en : EnvOk h₀ env m φ1 g1) (hx : isStore env.scope.names x = true) (hv : VR φ1 v rv) :
    wpAny (model prog w) A (storeName env x rv) (fun zz s' => P0 C h₀ (ownE env) φ s h' (fun φ' g => EnvOk h₀ env (upd m x v) φ' g ∧ FlR φ' .next .next) s') E { s with heap := g1, toks := tk } := by
  refine wpAny_mono (store_ok (s := { s with heap := g1, toks := tk }) R en (isStore_or hx) hv) (fun zz s' q => ?_) fun zz zz e => e
  (revert q; refine xe2 fun g2 tk2 zq1 => ?_; revert zq1; refine ae2 fun zq2 zq3 => ?_; subst zq2; revert zq3; refine ae4 fun st2 zz R2 en2 => ?_)
  exact ⟨φ1, g2, tk2, rfl, (Step.nil st).trans st2, R2, en2, .next⟩
end

theorem st_Name_plain {x : Str} {px : Pos} {e : Expr} {p : Pos} (he : EvP prog w C h₀ fs n cl e) (hn : ∀ env : Env, swapsWith e (some (.Name x px)) p.line env = pure false) : StP prog w C h₀ fs n cl (.Assign [.Name x px] e p) := by
  intro env m m' A E s φ h h' fl ok b R en ex
  (refine ae2 (fun ok1 ok2 => ?_) (and2 (show (isStore env.scope.names x && okE fs e env.scope.names) = true from ok)))
  have ex : (do let v ← evalA cl e m; pure (.next, upd m x v) : M (Fl × L)) h = some ((fl, m'), h') := ex
  (refine xe2 (fun v h1 zq1 => ?_) (bind_some ex); revert zq1; refine ae2 fun e1 ex => ?_)
  (refine ae2 (fun q zq1 => ?_) (pure_some ex); subst zq1)
  cases q
  refine wpAny_Assign_Name (P0_then (he env m A E s φ h h' v ok2 b R en e1) fun rv φ1 g1 tk st R1 v1 => ?_) (hn env)
  exact st_store st R1 (en.step st) ok1 v1

theorem st_Name_comp {x : Str} {px : Pos} {elt : Expr} {gens : List Comprehension} {sc : Scope} {pc : Pos} {p : Pos} (X : Cx prog w K C h₀ fs fn fm n cl) : StP prog w C h₀ fs n cl (.Assign [.Name x px] (.ListComp elt gens sc pc) p) := by
  intro env m m' A E s φ h h' fl ok b R en ex
  have hsw : swapsWith (.ListComp elt gens sc pc) (some (.Name x px)) p.line env = pure (env.blockKind == .function && env.kindOf x == some .local && px.line == pc.line && !(sc.names.any fun (n, k) => n == x && (k == .local || k == .cell))) := rfl
  generalize (env.blockKind == .function && env.kindOf x == some .local && px.line == pc.line && !(sc.names.any fun (n, k) => n == x && (k == .local || k == .cell))) = bb at hsw
  cases bb with
  | false =>
    (refine ae2 (fun ok1 ok2 => ?_) (and2 (show (isStore env.scope.names x && okE fs (.ListComp elt gens sc pc) env.scope.names) = true from ok)))
    have ex : (do let v ← evalA cl (.ListComp elt gens sc pc) m; pure (.next, upd m x v) : M (Fl × L)) h = some ((fl, m'), h') := ex
    (refine xe2 (fun v h1 zq1 => ?_) (bind_some ex); revert zq1; refine ae2 fun e1 ex => ?_)
    (refine ae2 (fun q zq1 => ?_) (pure_some ex); subst zq1)
    cases q
    refine wpAny_Assign_Name (P0_then (eval_ok X _ env m A E s φ h h' v ok2 b R en e1) fun rv φ1 g1 tk st R1 v1 => ?_) hsw
    exact st_store st R1 (en.step st) ok1 v1
  | true =>
    (refine ae2 (fun ok1 ok2 => ?_) (and2 (show (isStore env.scope.names x && okE fs (.ListComp elt gens sc pc) env.scope.names) = true from ok)))
    rcases gens with _ | ⟨⟨t, it, ifs, z⟩, gs⟩
    · cases ok2
    cases t with
    | Name y py =>
      have ex : (do
        let v ← (do
          let src ← evalA cl it m
          let r ← iterA src
          let vs ← compA r.2 (fun v => do
            let c ← condsA cl ifs (upd (clrL (⟨.Name y py, it, ifs, z⟩ :: gs) m) y v)
            if c = true then gensA cl gs (upd (clrL (⟨.Name y py, it, ifs, z⟩ :: gs) m) y v) (fun m' => evalA cl elt m') else pure []) r.1
          newL vs)
        pure (.next, upd m x v) : M (Fl × L)) h = some ((fl, m'), h') := ex
      (refine xe2 (fun v h1' zq1 => ?_) (bind_some ex); revert zq1; refine ae2 fun e0 ex => ?_)
      (refine ae2 (fun q zq1 => ?_) (pure_some ex); subst zq1)
      cases q
      (refine xe2 (fun sv h1 zq1 => ?_) (bind_some e0); revert zq1; refine ae2 fun e1 ea => ?_)
      clear e0
      (refine xe2 (fun ri h3 zq1 => ?_) (bind_some ea); revert zq1; refine ae2 fun e2 eb => ?_)
      (refine xe2 (fun r h2 zq1 => ?_) (bind_some eb); revert zq1; refine ae2 fun e3 ec => ?_)
      (refine ae3 (fun hl zq1 zq2 => ?_) (newL_some ec); subst zq1; subst zq2)
      have hz : z = 0 := by
        have ok := (and2 (show (!isTarget gs y && (okE fs it env.scope.names && plainIt it && z == 0 && okSc env.scope.names (⟨.Name y py, it, ifs, z⟩ :: gs) sc && (relK env.scope.names sc.names).lookup y == some .local &&
          okTs fs ifs (relK env.scope.names sc.names) && okGs fs gs (relK env.scope.names sc.names) && okE fs elt (relK env.scope.names sc.names))) = true from ok2)).2
        exact beq_iff_eq.mp (and2 (and2 (and2 (and2 (and2 (and2 ok).1).1).1).1).1).2
      have hf : firstAsync (⟨.Name y py, it, ifs, z⟩ :: gs) = false := by rw [hz]; rfl
      unfold SX
      rw [exec_Assign_Name_used _ _ _ _ hsw]
      refine wpAny_bind (wpAny_standAt (wpAny_bind ?_))
      show wpAny _ A (do let _ ← comprehension (.ListComp elt (⟨.Name y py, it, ifs, z⟩ :: gs) sc pc) sc env _ (newList []) (firstAsync (⟨.Name y py, it, ifs, z⟩ :: gs)) (eval it env) (some (assign (.Name x px) env))) _ _ s
      rw [hf]
      refine wpAny_bind (wpAny_mono (comp_core (n := n) (Q := fun zz s' => P0 C h₀ (ownE env) φ s (h2 ++ [.list r]) (fun φ' g => EnvOk h₀ env (upd m x (.ref h2.length)) φ' g ∧ FlR φ' .next .next) s') X.two (eval_ok X it) (conds_ok X ifs) (fun gens => gens_ok X gs elt gens sc pc) ok2 b R en hl (h2 := h2) (r := r) ?_ fun D CL φ' g' tk a1 a2 a3 a4 a5 a6 a7 a8 a9 a10 a11 a12 => ?_) (fun zz s' q => wpAny_pure (wpAny_pure q)) fun zz zz e => e)
      · show (evalA cl it m >>= fun src => _) h = _
        change (evalA cl it m h).bind _ = _
        rw [e1]
        change (iterA sv h1).bind _ = _
        rw [e2]
        exact e3
      · refine wpAny_assign_Name ?_
        (revert a12; refine xe1 fun mm hn => ?_)
        (refine ae3 (fun p1 p2 p3 => ?_) (comp_end (g'' := g') a1 a2 a3 a4 a5 a7 a8 a9 a10 a11 (fun zz zz zz e => e)))
        have en1 := en.step p1
        have hCL : CL ∉ φ' ++ [D] := fun q => by
          rcases List.mem_append.mp q with q | q
          · exact a10 q
          · exact a3 (List.mem_singleton.mp q)
        have hCO : CL ∉ ownE env := fun q => by
          (refine ae3 (fun zz zz zq1 => ?_) (en.own _ q); revert zq1; refine xe1 fun o e => ?_)
          rw [a2] at e; cases e
        refine wpAny_mono (store_ok (s := { s with heap := g', toks := tk }) p2 en1 (isStore_or ok1) p3) (fun zz s' q => ?_) fun zz zz e => e
        (revert q; refine xe2 fun g2 tk2 zq1 => ?_; revert zq1; refine ae2 fun zq2 zq3 => ?_; subst zq2; revert zq3; refine ae4 fun st2 zz R2 en2 => ?_)
        have hn2 : g2.Ns CL mm := hn.at' fun o e => st2.keep CL o e hCL hCO
        refine ⟨mm, hn2, fun g3 sb => ?_⟩
        have stt : Step (ownE env) φ s.heap (φ' ++ [D]) g2 := (Step.nil p1).trans st2
        refine ⟨φ' ++ [D], g3, tk2, rfl, stt.last sb.extBut a2, R2.ext sb.extBut hCL a11, en2.keeps fun a ha o e => sb.extBut a o (fun q => hCO (q ▸ ha)) e, .next⟩
    | _ => cases ok2
end
end

section
open PySem PySem.W PyProof.Rows PySem.SeqAt PySem.Calls

section
variable {prog : Program} {w : World} {K : Frag} {C : Addr} {h₀ : Heap} {fs : List Str} {fn fm : List (Str × Value)} {n : Nat} {cl : Str → List V → M V}

theorem st_Subscript {o i e : Expr} {q p : Pos} (he : EvP prog w C h₀ fs n cl e) (ho : EvP prog w C h₀ fs n cl o) (hi : EvP prog w C h₀ fs n cl i) : StP prog w C h₀ fs n cl (.Assign [.Subscript o i q] e p) := by
  intro env m m' A E s φ h h' fl ok b R en ex
  (refine ae2 (fun ok ok4 => ?_) (and2 (show (okE fs e env.scope.names && notLC e && okE fs o env.scope.names && okE fs i env.scope.names) = true from ok)))
  (refine ae2 (fun ok ok3 => ?_) (and2 ok))
  (refine ae2 (fun ok1 ok2 => ?_) (and2 ok))
  have ex : (do let v ← evalA cl e m; let ov ← evalA cl o m; let iv ← evalA cl i m; setItemA ov iv v; pure (.next, m) : M (Fl × L)) h = some ((fl, m'), h') := ex
  (refine xe2 (fun v h1 zq1 => ?_) (bind_some ex); revert zq1; refine ae2 fun e1 ex => ?_)
  (refine xe2 (fun ov h2 zq1 => ?_) (bind_some ex); revert zq1; refine ae2 fun e2 ex => ?_)
  (refine xe2 (fun iv h3 zq1 => ?_) (bind_some ex); revert zq1; refine ae2 fun e3 ex => ?_)
  obtain ⟨⟨⟩, h4, e4, ex⟩ := bind_some ex
  (refine ae2 (fun qq zq1 => ?_) (pure_some ex); subst zq1)
  cases qq
  refine wpAny_Assign_Subscript (P0_then (he env m A E s φ h h1 v ok1 b R en e1) fun rv φ1 g1 tk st R1 v1 => ?_) (swaps_plain ok2 _ _ _)
  have en1 := en.step st
  refine P0_then (ho env m A E _ φ1 h1 h2 ov ok3 b R1 en1 e2) fun ro φ2 g2 tk2 st2 R2 v2 => ?_
  have en2 := en1.step st2
  refine P0_then (hi env m A E _ φ2 h2 h3 iv ok4 b R2 en2 e3) fun ri φ3 g3 tk3 st3 R3 v3 => ?_
  have en3 := en2.step st3
  refine wpAny_mono (setItem_ok (F := []) (s := { s with heap := g3, toks := tk3 }) R3 (v2.mono st3.pre) v3 ((v1.mono st2.pre).mono st3.pre) e4) (fun zz s' q => ?_) fun zz zz e => e
  (revert q; refine xe3 fun φ4 g4 tk4 zq1 => ?_; revert zq1; refine ae2 fun zq2 zq3 => ?_; subst zq2; revert zq3; refine ae3 fun st4 R4 zz => ?_)
  exact ⟨φ4, g4, tk4, rfl, Step.nil (((st.trans st2).trans st3).trans st4), R4, en3.step st4, .next⟩

theorem st_Attribute {o e : Expr} {x : Str} {q p : Pos} (X : Cx prog w K C h₀ fs fn fm n cl) (he : EvP prog w C h₀ fs n cl e) (ho : EvP prog w C h₀ fs n cl o) : StP prog w C h₀ fs n cl (.Assign [.Attribute o x q] e p) := by
  intro env m m' A E s φ h h' fl ok b R en ex
  (refine ae2 (fun ok ok3 => ?_) (and2 (show (okE fs e env.scope.names && notLC e && okE fs o env.scope.names) = true from ok)))
  (refine ae2 (fun ok1 ok2 => ?_) (and2 ok))
  have ex : (do let v ← evalA cl e m; let ov ← evalA cl o m; setAttrA x v ov; pure (.next, m) : M (Fl × L)) h = some ((fl, m'), h') := ex
  (refine xe2 (fun v h1 zq1 => ?_) (bind_some ex); revert zq1; refine ae2 fun e1 ex => ?_)
  (refine xe2 (fun ov h2 zq1 => ?_) (bind_some ex); revert zq1; refine ae2 fun e2 ex => ?_)
  obtain ⟨⟨⟩, h4, e4, ex⟩ := bind_some ex
  (refine ae2 (fun qq zq1 => ?_) (pure_some ex); subst zq1)
  cases qq
  refine plainObj_wpAny_Assign_Attribute (P0_then (he env m A E s φ h h1 v ok1 b R en e1) fun rv φ1 g1 tk st R1 v1 => ?_) (swaps_plain ok2 _ _ _)
  have en1 := en.step st
  refine P0_then (ho env m A E _ φ1 h1 h2 ov ok3 b R1 en1 e2) fun ro φ2 g2 tk2 st2 R2 v2 => ?_
  have en2 := en1.step st2
  refine wpAny_mono (setAttr_ok (F := []) (s := { s with heap := g2, toks := tk2 }) X.cls (X.X.keeps R2.keep) R2 v2 (v1.mono st2.pre) e4) (fun zz s' q => ?_) fun zz zz e => e
  (revert q; refine xe3 fun φ4 g4 tk4 zq1 => ?_; revert zq1; refine ae2 fun zq2 zq3 => ?_; subst zq2; revert zq3; refine ae3 fun st4 R4 zz => ?_)
  exact ⟨φ4, g4, tk4, rfl, Step.nil ((st.trans st2).trans st4), R4, en2.step st4, .next⟩

theorem st_Aug {x : Str} {op : Operator} {e : Expr} {q p : Pos} (he : EvP prog w C h₀ fs n cl e) : StP prog w C h₀ fs n cl (.AugAssign (.Name x q) op e p) := by
  intro env m m' A E s φ h h' fl ok b R en ex
  (refine ae2 (fun ok ok3 => ?_) (and2 (show (isVar env.scope.names x && isStore env.scope.names x && okE fs e env.scope.names) = true from ok)))
  (refine ae2 (fun ok1 ok2 => ?_) (and2 ok))
  (refine ae3 (fun k1 k2 k3 => ?_) (isVar_or ok1))
  have ex : (do let old ← nameA m x; let v ← evalA cl e m; let r ← augA op old v; pure (.next, upd m x r) : M (Fl × L)) h = some ((fl, m'), h') := ex
  (refine xe2 (fun old h1 zq1 => ?_) (bind_some ex); revert zq1; refine ae2 fun e1 ex => ?_)
  (refine xe2 (fun v h2 zq1 => ?_) (bind_some ex); revert zq1; refine ae2 fun e2 ex => ?_)
  (refine xe2 (fun r h4 zq1 => ?_) (bind_some ex); revert zq1; refine ae2 fun e4 ex => ?_)
  (refine ae2 (fun qq zq1 => ?_) (pure_some ex); subst zq1)
  cases qq
  unfold nameA at e1
  simp only [Option.map_eq_some_iff, Prod.mk.injEq] at e1
  (revert e1; refine xe1 fun v' zq1 => ?_; revert zq1; refine ae3 fun e1 zq2 zq3 => ?_; subst zq2; subst zq3)
  refine wpAny_AugAssign_Name (load_ok en k1 k3 e1 fun rold vold => ?_)
  refine P0_then (he env m A E s φ h h2 v ok3 b R en e2) fun rv φ1 g1 tk st R1 v1 => ?_
  have en1 := en.step st
  refine P0_then (augop_ok (F := []) (s := { s with heap := g1, toks := tk }) R1 (vold.mono st.pre) v1 e4) fun rr φ2 g2 tk2 st2 R2 v2 => ?_
  exact st_store (st.trans st2) R2 (en1.step st2) ok2 v2

theorem st_Delete {o i : Expr} {q p : Pos} (ho : EvP prog w C h₀ fs n cl o) (hi : EvP prog w C h₀ fs n cl i) : StP prog w C h₀ fs n cl (.Delete [.Subscript o i q] p) := by
  intro env m m' A E s φ h h' fl ok b R en ex
  (refine ae2 (fun ok1 ok2 => ?_) (and2 (show (okE fs o env.scope.names && okE fs i env.scope.names) = true from ok)))
  have ex : (do let ov ← evalA cl o m; let iv ← evalA cl i m; delItemA ov iv; pure (.next, m) : M (Fl × L)) h = some ((fl, m'), h') := ex
  (refine xe2 (fun ov h2 zq1 => ?_) (bind_some ex); revert zq1; refine ae2 fun e2 ex => ?_)
  (refine xe2 (fun iv h3 zq1 => ?_) (bind_some ex); revert zq1; refine ae2 fun e3 ex => ?_)
  obtain ⟨⟨⟩, h4, e4, ex⟩ := bind_some ex
  (refine ae2 (fun qq zq1 => ?_) (pure_some ex); subst zq1)
  cases qq
  refine wpAny_Delete (wpAny_deleteEach_cons (wpAny_delete_Subscript (P0_then (ho env m A E s φ h h2 ov ok1 b R en e2) fun ro φ2 g2 tk2 st2 R2 v2 => ?_)))
  have en2 := en.step st2
  refine P0_then (hi env m A E _ φ2 h2 h3 iv ok2 b R2 en2 e3) fun ri φ3 g3 tk3 st3 R3 v3 => ?_
  have en3 := en2.step st3
  refine wpAny_mono (delItem_ok (F := []) (s := { s with heap := g3, toks := tk3 }) R3 (v2.mono st3.pre) v3 e4) (fun zz s' q => ?_) fun zz zz e => e
  (revert q; refine xe3 fun φ4 g4 tk4 zq1 => ?_; revert zq1; refine ae2 fun zq2 zq3 => ?_; subst zq2; revert zq3; refine ae3 fun st4 R4 zz => ?_)
  exact wpAny_deleteEach_nil ⟨φ4, g4, tk4, rfl, Step.nil ((st2.trans st3).trans st4), R4, en3.step st4, .next⟩

theorem st_Expr {e : Expr} {p : Pos} (he : EvP prog w C h₀ fs n cl e) : StP prog w C h₀ fs n cl (.Expr e p) := by
  intro env m m' A E s φ h h' fl ok b R en ex
  (refine ae2 (fun ok1 ok2 => ?_) (and2 (show (okE fs e env.scope.names && notLC e) = true from ok)))
  have ex : (do let v ← evalA cl e m; match v with | .none => pure (.next, m) | _ => fail : M (Fl × L)) h = some ((fl, m'), h') := ex
  (refine xe2 (fun v h1 zq1 => ?_) (bind_some ex); revert zq1; refine ae2 fun e1 ex => ?_)
  have hm : fl = .next ∧ m' = m ∧ h' = h1 := by
    cases v <;> first | exact (fail_some ex).elim | ((refine ae2 (fun qq zq1 => ?_) (pure_some ex); subst zq1); cases qq; exact ⟨rfl, rfl, rfl⟩)
  (revert hm; refine ae2 fun zq1 zq2 => ?_; subst zq1; revert zq2; refine ae2 fun zq3 zq4 => ?_; subst zq3; subst zq4)
  refine wpAny_Expr_any (P0_then (he env m' A E s φ h h' v ok1 b R en e1) fun rv φ1 g1 tk st R1 v1 => ?_) (by unfold interactive; rw [en.kind]; rfl) (swaps_plain ok2 _ _ _)
  exact ⟨φ1, g1, tk, rfl, Step.nil st, R1, en.step st, .next⟩

theorem st_Return {e : Expr} {p : Pos} (he : EvP prog w C h₀ fs n cl e) : StP prog w C h₀ fs n cl (.Return (some e) p) := by
  intro env m m' A E s φ h h' fl ok b R en ex
  have ex : (do let v ← evalA cl e m; pure (.ret v, m) : M (Fl × L)) h = some ((fl, m'), h') := ex
  (refine xe2 (fun v h1 zq1 => ?_) (bind_some ex); revert zq1; refine ae2 fun e1 ex => ?_)
  (refine ae2 (fun qq zq1 => ?_) (pure_some ex); subst zq1)
  cases qq
  refine wpAny_Return_some (P0_then (he env m A E s φ h h' v ok b R en e1) fun rv φ1 g1 tk st R1 v1 => ?_)
  exact ⟨φ1, g1, tk, rfl, Step.nil st, R1, en.step st, .ret v1⟩

theorem st_Continue {p : Pos} : StP prog w C h₀ fs n cl (.Continue p) := by
  intro env m m' A E s φ h h' fl ok b R en ex
  have ex : (pure (.cont, m) : M (Fl × L)) h = some ((fl, m'), h') := ex
  (refine ae2 (fun qq zq1 => ?_) (pure_some ex); subst zq1)
  cases qq
  exact wpAny_Continue ⟨φ, s.heap, s.toks, rfl, Step.refl _ _ _, R, en, .cont⟩

theorem sts_nil : StsP prog w C h₀ fs n cl [] := by
  intro env m m' A E s φ h h' fl ok b R en ex
  have ex : (pure (.next, m) : M (Fl × L)) h = some ((fl, m'), h') := ex
  (refine ae2 (fun qq zq1 => ?_) (pure_some ex); subst zq1)
  cases qq
  exact wpAny_execs_nil ⟨φ, s.heap, s.toks, rfl, Step.refl _ _ _, R, en, .next⟩

theorem SX.after {x : Sem Flow} {env : Env} {A : Around} {E : Value → Shared → Prop} {s : Shared} {φ φ1 : List Addr} {h' : H} {fl : Fl} {m' : L} {g1 : Heap} {tk : Nat} (st : Step (ownE env) φ s.heap φ1 g1) (x1 : SX prog w C h₀ x env A E { s with heap := g1, toks := tk } φ1 h' fl m') :
    wpAny (model prog w) A x (fun f s' => P0 C h₀ (ownE env) φ s h' (fun φ' g => EnvOk h₀ env m' φ' g ∧ FlR φ' fl f) s') E { s with heap := g1, toks := tk } :=
  wpAny_mono (Q := fun f s' => P0 C h₀ (ownE env) φ1 { s with heap := g1, toks := tk } h' (fun φ' g => EnvOk h₀ env m' φ' g ∧ FlR φ' fl f) s') x1 (fun zz zz p => P0.after st p) fun zz zz e => e

theorem sts_cons {x : Stmt} {xs : List Stmt} (hx : StP prog w C h₀ fs n cl x) (hxs : StsP prog w C h₀ fs n cl xs) : StsP prog w C h₀ fs n cl (x :: xs) := by
  intro env m m' A E s φ h h' fl ok b R en ex
  (refine ae2 (fun ok1 ok2 => ?_) (and2 (show (okS fs x env.scope.names && okSs fs xs env.scope.names) = true from ok)))
  have ex : (do
    let q ← execA cl x m
    match q with
    | (.next, m') => execsA cl xs m'
    | (f, m') => pure (f, m') : M (Fl × L)) h = some ((fl, m'), h') := ex
  (refine xe2 (fun zq1 h1 zq2 => ?_) (bind_some ex); rcases zq1 with ⟨f1, m1⟩; revert zq2; refine ae2 fun e1 ex => ?_)
  refine wpAny_execs_cons (P0_then (hx env m m1 A E s φ h h1 f1 ok1 b R en e1) fun f φ1 g1 tk st R1 q => ?_)
  (revert q; refine ae2 fun en1 fr => ?_)
  cases fr with
  | next => exact SX.after st (hxs env m1 m' A E _ φ1 h1 h' fl ok2 b R1 en1 ex)
  | cont =>
    (refine ae2 (fun qq zq1 => ?_) (pure_some ex); subst zq1)
    cases qq
    exact ⟨φ1, g1, tk, rfl, st, R1, en1, .cont⟩
  | ret v =>
    (refine ae2 (fun qq zq1 => ?_) (pure_some ex); subst zq1)
    cases qq
    exact ⟨φ1, g1, tk, rfl, st, R1, en1, .ret v⟩

theorem st_If {t : Expr} {bd o : List Stmt} {p : Pos} (ht : TsP prog w C h₀ fs n cl t) (hb : StsP prog w C h₀ fs n cl bd) (ho : StsP prog w C h₀ fs n cl o) : StP prog w C h₀ fs n cl (.If t bd o p) := by
  intro env m m' A E s φ h h' fl ok b R en ex
  (refine ae2 (fun ok ok3 => ?_) (and2 (show (okT fs t env.scope.names && okSs fs bd env.scope.names && okSs fs o env.scope.names) = true from ok)))
  (refine ae2 (fun ok1 ok2 => ?_) (and2 ok))
  have ex : (do let c ← testA cl t m (evalA cl t m); if c = true then execsA cl bd m else execsA cl o m : M (Fl × L)) h = some ((fl, m'), h') := ex
  (refine xe2 (fun c h1 zq1 => ?_) (bind_some ex); revert zq1; refine ae2 fun e1 ex => ?_)
  refine wpAny_If (wpAny_mono (ht env m A E s φ h h1 c ok1 b R en e1) (fun r s' q => ?_) fun zz zz e => e)
  (revert q; refine ae2 fun zq1 zq2 => ?_; subst zq1; revert zq2; refine xe3 fun φ1 g1 tk zq3 => ?_; revert zq3; refine ae2 fun zq4 zq5 => ?_; subst zq4; revert zq5; refine ae3 fun st R1 zz => ?_)
  have en1 := en.step st
  cases r with
  | true =>
    simp only [if_true] at ex ⊢
    exact SX.after (Step.nil st) (hb env m m' A E _ φ1 h1 h' fl ok2 b R1 en1 ex)
  | false =>
    simp only [Bool.false_eq_true, if_false] at ex ⊢
    exact SX.after (Step.nil st) (ho env m m' A E _ φ1 h1 h' fl ok3 b R1 en1 ex)
end
end

section
open PySem PySem.W PyProof.Rows PySem.SeqAt PySem.Calls

theorem assignEach_name {x : Str} {p : Pos} {r : List Expr} {env : Env} : assignEach (.Name x p :: r) env = (false, assign (.Name x p) env) :: assignEach r env := rfl

theorem namesOf_each {env : Env} : ∀ {ts : List Expr} {xs : List Str}, namesOf ts = some xs → (assignEach ts env).length = xs.length ∧ (assignEach ts env).findIdx? (·.1) = none ∧ xs.length = ts.length
  | [], xs, h => by cases h; exact ⟨rfl, rfl, rfl⟩
  | t :: r, xs, h => by
    cases t with
    | Name x p =>
      have h : (namesOf r).map (fun xs => x :: xs) = some xs := h
      rw [Option.map_eq_some_iff] at h
      (revert h; refine xe1 fun ys zq1 => ?_; revert zq1; refine ae2 fun h1 zq2 => ?_; subst zq2)
      (refine ae3 (fun a b c => ?_) (namesOf_each (env := env) h1))
      rw [assignEach_name]
      refine ⟨by simp [a], ?_, by simp [c]⟩
      rw [List.findIdx?_cons, b]; rfl
    | _ => cases h

section
variable {prog : Program} {w : World} {K : Frag} {C : Addr} {h₀ : Heap} {fs : List Str} {fn fm : List (Str × Value)} {n : Nat} {cl : Str → List V → M V}

theorem assign_names {env : Env} {A : Around} {E : Value → Shared → Prop} {h : H} {φ : List Addr} : ∀ (ts : List Expr) (xs : List Str) (vs : List V) (rvs : List Value) (m : L) (s : Shared), namesOf ts = some xs → tgOk env.scope.names ts = true → VRs φ vs rvs → vs.length = xs.length →
    Rel C h₀ φ h s.heap → EnvOk h₀ env m φ s.heap →
    wpAny (model prog w) A (assignInOrder ((assignEach ts env).map (·.2)) rvs) (fun zz s' => P0 C h₀ (ownE env) φ s h (fun φ' g => EnvOk h₀ env (bindAll m xs vs) φ' g) s') E s
  | [], xs, vs, rvs, m, s, h1, h2, h3, h4, R, en => by
    cases h1
    cases h3 with
    | nil => exact assignInOrder_nil ⟨φ, s.heap, s.toks, rfl, Step.refl _ _ _, R, en⟩
    | cons _ _ => cases h4
  | t :: r, xs, vs, rvs, m, s, h1, h2, h3, h4, R, en => by
    cases t with
    | Name x p =>
      have h1' : (namesOf r).map (fun xs => x :: xs) = some xs := h1
      rw [Option.map_eq_some_iff] at h1'
      (revert h1'; refine xe1 fun ys zq1 => ?_; revert zq1; refine ae2 fun h1' zq2 => ?_; subst zq2)
      (refine ae2 (fun k1 k2 => ?_) (and2 (show (isStore env.scope.names x && tgOk env.scope.names r) = true from h2)))
      cases h3 with
      | nil => cases h4
      | cons hv ht =>
        rw [assignEach_name, List.map_cons]
        refine assignInOrder_cons (wpAny_assign_Name (wpAny_mono (store_ok R en (isStore_or k1) hv) (fun zz s' q => ?_) fun zz zz e => e))
        (revert q; refine xe2 fun g2 tk2 zq1 => ?_; revert zq1; refine ae2 fun zq2 zq3 => ?_; subst zq2; revert zq3; refine ae4 fun st2 zz R2 en2 => ?_)
        exact wpAny_mono (assign_names r ys _ _ _ _ h1' k2 ht (by simpa using h4) R2 en2) (fun zz zz p => P0.after st2 p) fun zz zz e => e
    | _ => cases h1

theorem ext_old {g g' : Heap} (x : Heap.ExtBut g.objs.size g g') : ∀ b o, g.get? b = some o → g'.get? b = some o := fun b o e => x b o (fun q => Nat.lt_irrefl _ (q ▸ Heap.lt_size e)) e

theorem unpackA_some {ts : List Expr} {v : V} {m m' : L} {h h' : H} (e : unpackA ts v m h = some (m', h')) : ∃ xs a vs, namesOf ts = some xs ∧ v = .ref a ∧ h[a]? = some (.tuple vs) ∧ vs.length = xs.length ∧ xs.Nodup ∧ m' = bindAll m xs vs ∧ h' = h := by
  unfold unpackA at e
  cases hx : namesOf ts with
  | none => rw [hx] at e; exact (fail_some e).elim
  | some xs =>
    rw [hx] at e
    cases v with
    | ref a =>
      (refine xe1 (fun o zq1 => ?_) (rd_bind e); revert zq1; refine ae2 fun q e => ?_)
      cases o with
      | tuple vs =>
        (refine ae2 (fun zq1 e => ?_) (ite_some e); revert zq1; refine ae2 fun q1 q2 => ?_)
        (refine ae2 (fun zq1 zq2 => ?_) (pure_some e); subst zq1; subst zq2)
        exact ⟨xs, a, vs, rfl, rfl, q, q1, q2, rfl, rfl⟩
      | _ => exact (fail_some e).elim
    | _ => exact (fail_some e).elim

theorem asNm_some {t : Expr} {q : Str × Pos} (h : asNm t = some q) : t = .Name q.1 q.2 := by
  cases t with
  | Name x p => exact congrArg (fun q : Str × Pos => Expr.Name q.1 q.2) (Option.some.inj h)
  | _ => exact nomatch h
theorem swN_some {ks : NK} {o1 o2 : Option (Str × Pos)} {v1 v2 : Expr} (h : swN ks o1 o2 v1 v2 = true) : ∃ p q, o1 = some p ∧ o2 = some q ∧
    (ks.lookup p.1 == some .local && ks.lookup q.1 == some .local && p.2.line == q.2.line && !(p.1 == q.1) && notStar v1 && notStar v2 && !([v1, v2].all (foldedForSure 8)) && !([v1, v2].all (constantsAlone 8))) = true := by
  cases o1 with
  | none => exact nomatch h
  | some p => cases o2 with
    | none => exact nomatch h
    | some q => exact ⟨p, q, rfl, rfl, h⟩
theorem two_of {α : Type} {l : List α} {f : α → α → Bool} (h : on2 f l = true) : ∃ a b, l = [a, b] ∧ f a b = true := by
  cases l with
  | nil => exact nomatch h
  | cons a l => cases l with
    | nil => exact nomatch h
    | cons b l => cases l with
      | nil => exact ⟨a, b, rfl, h⟩
      | cons _ _ => exact nomatch h
theorem swOk_some {ks : NK} {ts us : List Expr} {k : Nat} {p : Pos} (h : swOk ks ts (.Tuple us k p) = true) : ∃ a pa b pb v1 v2, ts = [.Name a pa, .Name b pb] ∧ us = [v1, v2] ∧
    (ks.lookup a == some .local && ks.lookup b == some .local && pa.line == pb.line && !(a == b) && notStar v1 && notStar v2 && !([v1, v2].all (foldedForSure 8)) && !([v1, v2].all (constantsAlone 8))) = true := by
  (refine xe2 (fun t1 t2 zq1 => ?_) (two_of (f := fun t1 t2 => on2 (fun v1 v2 => swN ks (asNm t1) (asNm t2) v1 v2) us) (show swIn ks ts us = true from h)); revert zq1; refine ae2 fun e1 h => ?_)
  (refine xe2 (fun v1 v2 zq1 => ?_) (two_of h); revert zq1; refine ae2 fun e2 h => ?_)
  (refine xe2 (fun p q zq1 => ?_) (swN_some h); revert zq1; refine ae3 fun q1 q2 h => ?_)
  exact ⟨p.1, p.2, q.1, q.2, v1, v2, by rw [e1, asNm_some q1, asNm_some q2], e2, h⟩

noncomputable def isStar : Expr → Bool
  | .Starred .. => true
  | _ => false
theorem notStar_is {v : Expr} (h : notStar v = true) : isStar v = false := by
  cases v <;> first | rfl | exact (Bool.false_ne_true h).elim

theorem upd_comm {m : L} {a b : Str} {u v : V} (h : a ≠ b) : upd (upd m b v) a u = upd (upd m a u) b v := by
  funext y
  unfold upd
  by_cases h1 : y = a
  · subst h1; rw [if_pos rfl, if_neg h, if_pos rfl]
  · rw [if_neg h1, if_neg h1]

theorem notTup_stores {e : Expr} (h : notTup e = true) (ts : List Expr) (k : Nat) (tp : Pos) (env : Env) : swappedStores [.Tuple ts k tp] e env = pure none := by
  cases e <;> first | rfl | exact (Bool.false_ne_true h).elim
theorem isTup_some {e : Expr} (h : notTup e = false) : ∃ us k p, e = .Tuple us k p := by
  cases e <;> first | exact ⟨_, _, _, rfl⟩ | exact (Bool.false_ne_true h.symm).elim

theorem b4 {a b c d : Bool} (h : (a && b && c && d) = true) : a = true ∧ b = true ∧ c = true ∧ d = true := by
  cases a <;> cases b <;> cases c <;> cases d <;> first | exact ⟨rfl, rfl, rfl, rfl⟩ | exact nomatch h
theorem b8 {a b c d e f g i : Bool} (h : (a && b && c && d && e && f && g && i) = true) : (a = true ∧ b = true ∧ c = true ∧ d = true) ∧ e = true ∧ f = true ∧ g = true ∧ i = true := by
  have := b4 (a := a && b && c && d && e) h
  have q := and2 this.1
  exact ⟨b4 q.1, q.2, this.2⟩
theorem sw_stores {env : Env} {a1 a2 : Str} {pa pb : Pos} {v1 v2 : Expr} {k k2 : Nat} {tp tp2 : Pos} (hbk : env.blockKind = .function) (hk1 : env.kindOf a1 = some .local) (hk2 : env.kindOf a2 = some .local) (o3 : (pa.line == pb.line) = true) (hne : a1 ≠ a2)
    (o5 : notStar v1 = true) (o6 : notStar v2 = true) (o7 : (!([v1, v2].all (foldedForSure 8))) = true) (o8 : (!([v1, v2].all (constantsAlone 8))) = true) :
    swappedStores [.Tuple [.Name a1 pa, .Name a2 pb] k tp] (.Tuple [v1, v2] k2 tp2) env = pure (some [a1, a2]) := by
  have h1 : (env.kindOf a1 == some .local && pa.line == pa.line) = true := by rw [hk1]; simp
  have h2 : (env.kindOf a2 == some .local && pb.line == pa.line) = true := by rw [hk2, ← beq_iff_eq.mp o3]; simp
  have hdd : [a1, a2].eraseDups.length = 2 := by
    have : (a2 == a1) = false := beq_eq_false_iff_ne.mpr (Ne.symm hne)
    rw [List.eraseDups_cons]
    simp [this, List.eraseDups_cons]
  have o7 : ¬ ([v1, v2].all (foldedForSure 8)) = true := fun q => by rw [q] at o7; cases o7
  have o8 : ¬ ([v1, v2].all (constantsAlone 8)) = true := fun q => by rw [q] at o8; cases o8
  unfold swappedStores
  have hp : (Expr.Name a1 pa).pos = pa := rfl
  simp only [List.head?_cons, Option.map_some, Option.getD_some, hp, List.filterMap_cons, List.filterMap_nil, h1, h2, if_true]
  rw [hbk]
  refine (if_neg Bool.false_ne_true).trans ((if_neg ?_).trans ?_)
  · show ¬ ((isStar v1 || (isStar v2 || false)) = true)
    rw [notStar_is o5, notStar_is o6]
    exact Bool.false_ne_true
  rw [hdd]
  exact (if_neg Bool.false_ne_true).trans ((if_neg o7).trans ((if_neg o8).trans rfl))

theorem st_Tuple {ts : List Expr} {k : Nat} {tp : Pos} {e : Expr} {p : Pos} (he : EvP prog w C h₀ fs n cl e) : StP prog w C h₀ fs n cl (.Assign [.Tuple ts k tp] e p) := by
  intro env m m' A E s φ h h' fl ok b R en ex
  (refine ae4 (fun ok1 ok2 ok3 ok4 => ?_) (b4 (show (okE fs e env.scope.names && notLC e && tgOk env.scope.names ts && swOk env.scope.names ts e) = true from ok)))
  clear ok
  have ex : (do let v ← evalA cl e m; let m' ← unpackA ts v m; pure (.next, m') : M (Fl × L)) h = some ((fl, m'), h') := ex
  (refine xe2 (fun v h1 zq1 => ?_) (bind_some ex); revert zq1; refine ae2 fun e1 ex => ?_)
  (refine xe2 (fun m2 h2 zq1 => ?_) (bind_some ex); revert zq1; refine ae2 fun e2 ex => ?_)
  (refine ae2 (fun qq zq1 => ?_) (pure_some ex); subst zq1)
  cases qq
  (refine xe3 (fun xs a vs zq1 => ?_) (unpackA_some e2); revert zq1; refine ae3 fun q1 zq2 zq3 => ?_; subst zq2; revert zq3; refine ae5 fun q2 q3 q4 zq4 zq5 => ?_; subst zq4; subst zq5)
  have hsole : swapsWithSole [.Tuple ts k tp] e p.line env = pure false := by
    show swapsWith e (some (.Tuple ts k tp)) p.line env = _
    exact swaps_plain ok2 _ _ _
  have plain : swappedStores [.Tuple ts k tp] e env = pure none → SX prog w C h₀ (exec (.Assign [.Tuple ts k tp] e p) env) env A E s φ h' .next (bindAll m xs vs) := fun hw => by
    refine Assign_Tuple (P0_then (he env m A E s φ h h' _ ok1 b R en e1) fun rv φ1 g1 tk st R1 v1 => ?_) hsole hw
    have en1 := en.step st
    replace v1 := VR.r v1
    (revert v1; refine xe1 fun x zq1 => ?_; revert zq1; refine ae2 fun zq2 hx => ?_; subst zq2)
    (refine xe2 (fun rvs n1 zq1 => ?_) (Rel.tupAt (s := { s with heap := g1, toks := tk }) R1 q2 hx); revert zq1; refine ae2 fun g r => ?_)
    (refine ae3 (fun l1 l2 l3 => ?_) (namesOf_each (env := env) q1))
    refine assign_Tuple_tuple (s := { s with heap := g1, toks := tk }) b.1 (items := List.toArray rvs) ⟨_, g, rfl, n1, rfl⟩ (by rw [l1, List.size_toArray, ← r.length, q3]) l2 fun g2 x2 => ?_
    have kp := ext_old x2
    refine wpAny_mono (assign_names (s := { s with heap := g2, toks := tk }) ts xs vs rvs m q1 ok3 r q3 (R1.grow kp) (en1.keeps fun a zz o e => kp a o e)) (fun zz s' q => ?_) fun zz zz e => e
    (revert q; refine xe3 fun φ3 g3 tk3 zq1 => ?_; revert zq1; refine ae2 fun zq2 zq3 => ?_; subst zq2; revert zq3; refine ae3 fun st3 R3 en3 => ?_)
    exact ⟨φ3, g3, tk3, rfl, ((Step.nil st).trans (Step.grow kp)).trans st3, R3, en3, .next⟩
  cases hnt : notTup e with
  | true => exact plain (notTup_stores hnt _ _ _ _)
  | false =>
    (refine xe3 (fun us k2 tp2 zq1 => ?_) (isTup_some hnt); subst zq1)
    · (refine xe5 (fun a1 pa a2 pb v1 zq1 => ?_) (swOk_some ok4); revert zq1; refine xe1 fun v2 zq2 => ?_; revert zq2; refine ae2 fun zq3 zq4 => ?_; subst zq3; revert zq4; refine ae2 fun zq5 ok4 => ?_; subst zq5)
      (refine ae2 (fun zq1 zq2 => ?_) (b8 ok4); revert zq1; refine ae4 fun o1 o2 o3 o4 => ?_; revert zq2; refine ae4 fun o5 o6 o7 o8 => ?_)
      have hk1 : env.kindOf a1 = some .local := beq_iff_eq.mp o1
      have hk2 : env.kindOf a2 = some .local := beq_iff_eq.mp o2
      have hne : a1 ≠ a2 := by simpa using o4
      have hw := sw_stores (k := k) (k2 := k2) (tp := tp) (tp2 := tp2) (show env.blockKind = .function by unfold Env.blockKind; rw [en.kind]; rfl) hk1 hk2 o3 hne o5 o6 o7 o8
      clear o1 o2 o3 o4 o5 o6 o7 o8 ok4
      refine Assign_Tuple_swapped (P0_then (he env m A E s φ h h' _ ok1 b R en e1) fun rv φ1 g1 tk st R1 v1 => ?_) hsole hw
      have en1 := en.step st
      replace v1 := VR.r v1
      (revert v1; refine xe1 fun x zq1 => ?_; revert zq1; refine ae2 fun zq2 hx => ?_; subst zq2)
      (refine xe2 (fun rvs n1 zq1 => ?_) (Rel.tupAt (s := { s with heap := g1, toks := tk }) R1 q2 hx); revert zq1; refine ae2 fun g r => ?_)
      cases q1
      have hlen : (List.toArray rvs).size = 2 := by rw [List.size_toArray, ← r.length, q3]; rfl
      show wpAny _ _ (unpackItems (.ref x) 2 none) _ _ _
      rw [← hlen]
      refine unpackItems_tuple (s := { s with heap := g1, toks := tk }) b.1 (items := List.toArray rvs) ⟨_, g, rfl, n1, rfl⟩ fun g2 x2 => ?_
      have kp := ext_old x2
      have R2 : Rel C h₀ φ1 h' g2 := R1.grow kp
      have en2 : EnvOk h₀ env m φ1 g2 := en1.keeps fun a zz o e => kp a o e
      rcases r with _ | ⟨hv1, r⟩
      · cases q3
      rcases r with _ | ⟨hv2, r⟩
      · cases q3
      cases r with
      | cons _ _ => cases q3
      | nil =>
      show wpAny _ _ (assignInOrder [fun v => bindName env a2 v, fun v => bindName env a1 v] [_, _]) _ _ _
      refine assignInOrder_cons (wpAny_bindName (wpAny_mono (store_ok (s := { s with heap := g2, toks := tk }) R2 en2 (.inl hk2) hv2) (fun zz s' q => ?_) fun zz zz e => e))
      (revert q; refine xe2 fun g3 tk3 zq1 => ?_; revert zq1; refine ae2 fun zq2 zq3 => ?_; subst zq2; revert zq3; refine ae4 fun st3 zz R3 en3 => ?_)
      refine assignInOrder_cons (wpAny_bindName (wpAny_mono (store_ok (s := { s with heap := g3, toks := tk3 }) R3 en3 (.inl hk1) hv1) (fun zz s' q => ?_) fun zz zz e => e))
      (revert q; refine xe2 fun g4 tk4 zq1 => ?_; revert zq1; refine ae2 fun zq2 zq3 => ?_; subst zq2; revert zq3; refine ae4 fun st4 zz R4 en4 => ?_)
      refine assignInOrder_nil ⟨φ1, g4, tk4, rfl, (((Step.nil st).trans (Step.grow kp)).trans st3).trans st4, R4, ?_, .next⟩
      rw [upd_comm hne] at en4
      exact en4
end
end

section
open PySem PySem.W PyProof.Rows PySem.SeqAt PySem.Calls

section
variable {prog : Program} {w : World} {K : Frag} {C : Addr} {h₀ : Heap} {fs : List Str} {fn fm : List (Str × Value)} {n : Nat} {cl : Str → List V → M V}

theorem loop_ok {x : Str} {px : Pos} {body : List Stmt} {env : Env} {src : Src} {ck : M Unit} {A : Around} {it : Addr} {s0 : Shared} {φ0 : List Addr} {fl : Fl} {m' : L} {h' : H} {R : Result → Shared → Prop}
    (hs : 1 < h₀.objs.size) (hb : StsP prog w C h₀ fs n cl body) (bd : Bd A n) (okx : isStore env.scope.names x = true) (okb : okSs fs body env.scope.names = true)
    (hck : ∀ g g' u, ck g = some (u, g') → g' = g ∧ src.chk g) (it1 : it ∉ ownE env) (it3 : h₀.objs.size ≤ it) (it0 : s0.heap.get? it = none)
    (hR : ∀ φ' g' tk f, Step (ownE env) φ0 s0.heap φ' g' → Rel C h₀ φ' h' g' → EnvOk h₀ env m' φ' g' → FlR φ' fl f → R (.ok f) { s0 with heap := g', toks := tk })
    {φ : List Addr} {h : H} {m : L} {g : Heap} {tk : Nat} (ckh : src.chk h) (at0 : src.At φ it 0 g) (itφ : it ∉ φ) (st : Step (ownE env) φ0 s0.heap φ g) (R0 : Rel C h₀ φ h g) (en : EnvOk h₀ env m φ g)
    (ex : loopA ck (fun v m1 => execsA cl body (upd m1 x v)) src.vals m h = some ((fl, m'), h')) :
    codeAny (model prog w) A (.forLoop (.Name x px) (.ref it) body [] env) R { s0 with heap := g, toks := tk } := by
  refine codeAny_forLoop (fun j s => ∃ k φ h m g tk, s = { s0 with heap := g, toks := tk } ∧ (src.vals.drop k).length = j ∧ src.chk h ∧ src.At φ it k g ∧ it ∉ φ ∧ Step (ownE env) φ0 s0.heap φ g ∧ Rel C h₀ φ h g ∧ EnvOk h₀ env m φ g ∧
    loopA ck (fun v m1 => execsA cl body (upd m1 x v)) (src.vals.drop k) m h = some ((fl, m'), h')) ?_ src.vals.length ⟨0, φ, h, m, g, tk, rfl, rfl, ckh, at0, itφ, st, R0, en, ex⟩
  intro j s zq
  (revert zq; refine xe5 fun k φ h m g zq1 => ?_; revert zq1; refine xe1 fun tk zq2 => ?_; revert zq2; refine ae2 fun zq3 zq4 => ?_; subst zq3; revert zq4; refine ae8 fun hj ckh at0 itφ st R0 en ex => ?_)
  cases hd : src.vals.drop k with
  | nil =>
    rw [hd] at ex
    have ex : (pure (.next, m) : M (Fl × L)) h = some ((fl, m'), h') := ex
    (refine ae2 (fun qq zq1 => ?_) (pure_some ex); subst zq1)
    cases qq
    have hn : src.vals[k]? = none := by rw [List.getElem?_eq_none_iff]; exact List.drop_eq_nil_iff.mp hd
    refine wpAny_mono (next_end (s := { s0 with heap := g, toks := tk }) bd.1 R0 ckh at0 hn) (fun rr s' q => ?_) fun zz zz e => e
    (revert q; refine ae2 fun zq1 zq2 => ?_; subst zq1; revert zq2; refine xe1 fun h1 zq3 => ?_; revert zq3; refine ae2 fun zq4 exb => ?_; subst zq4)
    dsimp only
    exact wpAny_execs_nil (hR φ h1 tk _ (st.last exb it0) (R0.ext exb itφ it3) (en.keeps fun a ha o e => exb a o (fun q => it1 (q ▸ ha)) e) .next)
  | cons v xs =>
    have hv : src.vals[k]? = some v := by
      have := congrArg (·[0]?) hd
      simpa using this
    have hd' : src.vals.drop (k + 1) = xs := by
      have := congrArg List.tail hd
      simpa using this
    rw [hd] at ex
    have ex : (do
      match ← execsA cl body (upd m x v) with
      | (.ret v, m') => pure (.ret v, m')
      | (_, m') => do ck; loopA ck (fun v m1 => execsA cl body (upd m1 x v)) xs m' : M (Fl × L)) h = some ((fl, m'), h') := ex
    (refine xe2 (fun zq1 h1 zq2 => ?_) (bind_some ex); rcases zq1 with ⟨f1, m1⟩; revert zq2; refine ae2 fun e1 ex => ?_)
    refine wpAny_mono (next_item (s := { s0 with heap := g, toks := tk }) hs R0 ckh at0 hv) (fun rr s' q => ?_) fun zz zz e => e
    (revert q; refine xe3 fun rv g1 tk1 zq1 => ?_; revert zq1; refine ae2 fun zq2 zq3 => ?_; subst zq2; revert zq3; refine ae3 fun vr zq4 zq5 => ?_; subst zq4; revert zq5; refine ae2 fun sb at1 => ?_)
    dsimp only at sb at1 ⊢
    have R1 := R0.ext sb.extBut itφ it3
    have en1 : EnvOk h₀ env m φ g1 := en.keeps fun a ha o e => sb.extBut a o (fun q => it1 (q ▸ ha)) e
    have st1 := st.last sb.extBut it0
    refine wpAny_assign_Name (wpAny_mono (store_ok (s := { s0 with heap := g1, toks := tk1 }) R1 en1 (isStore_or okx) vr) (fun zz s' q => ?_) fun zz zz e => e)
    (revert q; refine xe2 fun g2 tk2 zq1 => ?_; revert zq1; refine ae2 fun zq2 zq3 => ?_; subst zq2; revert zq3; refine ae4 fun st2 zz R2 en2 => ?_)
    have at2 : src.At φ it (k + 1) g2 := at1.keep (List.prefix_refl _) fun o e => st2.keep it o e itφ it1
    refine wpAny_mono (hb env _ m1 A _ { s0 with heap := g2, toks := tk2 } φ h h1 f1 okb bd R2 en2 e1) (fun f s' q => ?_) fun zz zz e => e
    (revert q; refine xe3 fun φ3 g3 tk3 zq1 => ?_; revert zq1; refine ae2 fun zq2 zq3 => ?_; subst zq2; revert zq3; refine ae4 fun st3 R3 en3 fr => ?_)
    have S3 := (st1.trans st2).trans st3
    obtain ⟨oit, hoit⟩ := at2.live
    have itφ3 := not_in_step st3 itφ hoit
    have at3 : src.At φ3 it (k + 1) g3 := at2.keep st3.pre fun o e => st3.keep it o e itφ it1
    have next : ∀ {m2 : L}, EnvOk h₀ env m2 φ3 g3 → (do ck; loopA ck (fun v m1 => execsA cl body (upd m1 x v)) xs m2 : M (Fl × L)) h1 = some ((fl, m'), h') →
        ∃ m, m < j ∧ ∃ k φ h m_1 g tk, ({ s0 with heap := g3, toks := tk3 } : Shared) = { s0 with heap := g, toks := tk } ∧ (src.vals.drop k).length = m ∧ src.chk h ∧ src.At φ it k g ∧ it ∉ φ ∧ Step (ownE env) φ0 s0.heap φ g ∧ Rel C h₀ φ h g ∧ EnvOk h₀ env m_1 φ g ∧
          loopA ck (fun v m1 => execsA cl body (upd m1 x v)) (src.vals.drop k) m_1 h = some ((fl, m'), h') := fun {m2} en3 ex => by
      (refine xe2 (fun u h2 zq1 => ?_) (bind_some ex); revert zq1; refine ae2 fun e2 ex2 => ?_)
      clear ex
      (refine ae2 (fun q hk2 => ?_) (hck _ _ _ e2))
      subst q
      refine ⟨xs.length, ?_, k + 1, φ3, h2, m2, g3, tk3, rfl, by rw [hd'], hk2, at3, itφ3, S3, R3, en3, by rw [hd']; exact ex2⟩
      rw [← hj, hd]; simp
    cases fr with
    | next => exact next en3 ex
    | cont => exact next en3 ex
    | ret v =>
      (refine ae2 (fun qq zq1 => ?_) (pure_some ex); subst zq1)
      cases qq
      exact hR φ3 g3 tk3 _ S3 R3 en3 (.ret v)

theorem st_For {x : Str} {px p : Pos} {it : Expr} {body : List Stmt} (X : Cx prog w K C h₀ fs fn fm n cl) (hr : fn.lookup (Str.ofString "range") = some (.type "range")) (hit : EvP prog w C h₀ fs n cl it) (harg : ∀ e, rangeArg it = some e → EvP prog w C h₀ fs n cl e)
    (hb : StsP prog w C h₀ fs n cl body) : StP prog w C h₀ fs n cl (.For (.Name x px) it body [] p) := by
  intro env m m' A E s φ h h' fl ok b R en ex
  (refine ae2 (fun ok ok4 => ?_) (and2 (show (isStore env.scope.names x && okE fs it env.scope.names && plainIt it && okSs fs body env.scope.names) = true from ok)))
  (refine ae2 (fun ok ok3 => ?_) (and2 ok))
  (refine ae2 (fun ok1 ok2 => ?_) (and2 ok))
  have ex : (match rangeArg it with
    | some e => do
      let v ← evalA cl e m
      let r ← rangeA v
      loopA (pure ()) (fun v m' => execsA cl body (upd m' x v)) r m
    | _ => do
      let src ← evalA cl it m
      let r ← iterA src
      loopA r.2 (fun v m' => execsA cl body (upd m' x v)) r.1 m : M (Fl × L)) h = some ((fl, m'), h') := ex
  have fin : ∀ (φ1 : List Addr) (g1 g2 : Heap) (tk1 tk2 : Nat) (h1 : H) (I : Addr) (src : Src) (ck : M Unit), Step [] φ s.heap φ1 g1 → Rel C h₀ φ1 h1 g1 → EnvOk h₀ env m φ1 g1 → g1.get? I = none → g1.objs.size ≤ I → (∀ b o, g1.get? b = some o → g2.get? b = some o) → src.At φ1 I 0 g2 → src.chk h1 →
      (∀ g g' u, ck g = some (u, g') → g' = g ∧ src.chk g) → loopA ck (fun v m' => execsA cl body (upd m' x v)) src.vals m h1 = some ((fl, m'), h') →
      codeAny (model prog w) A (.forLoop (.Name x px) (.ref I) body [] env) (fun r s' => match r with | .ok f => P0 C h₀ (ownE env) φ s h' (fun φ' g => EnvOk h₀ env m' φ' g ∧ FlR φ' fl f) s' | .error e => cameBackBy (model prog w) A env E e s') { s with heap := g2, toks := tk2 } := by
    intro φ1 g1 g2 tk1 tk2 h1 I src ck st R1 en1 hI hge kp at0 ckh hck exl
    refine loop_ok (s0 := { s with heap := g1, toks := tk1 }) (φ0 := φ1) X.two hb b ok1 ok4 hck (fun q => ?_) (Nat.le_trans en1.z hge) hI (fun φ' g' tk f st' R' en' fr => ?_) ckh at0 (fun q => ?_) (Step.grow kp) (R1.grow kp) (en1.keeps fun a zz o e => kp a o e) exl
    · (refine ae3 (fun zz zz zq1 => ?_) (en1.own _ q); revert zq1; refine xe1 fun o e => ?_)
      rw [hI] at e; cases e
    · exact ⟨φ', g', tk, rfl, (Step.nil st).trans st', R', en', fr⟩
    · exact absurd (R1.lt q) (Nat.not_lt.mpr hge)
  cases ha : rangeArg it with
  | none =>
    rw [ha] at ex
    (refine xe2 (fun sv h1 zq1 => ?_) (bind_some ex); revert zq1; refine ae2 fun e1 ex1 => ?_)
    (refine xe2 (fun ri h2 zq1 => ?_) (bind_some ex1); revert zq1; refine ae2 fun e2 ex2 => ?_)
    clear ex ex1
    refine wpAny_For (P0_then (hit env m A E s φ h h1 sv ok2 b R en e1) fun rv φ1 g1 tk st R1 v1 => ?_) (fun y => folded_plain ok3 env y)
    (refine ae2 (fun q zq1 => ?_) (iter_ok (prog := prog) (w := w) (s := { s with heap := g1, toks := tk }) X.two R1 v1 e2); revert zq1; refine xe1 fun src zq2 => ?_; revert zq2; refine ae5 fun hr1 hnr hck hckk hi => ?_)
    subst q
    rw [hr1] at ex2
    refine wpAny_mono (hi A E) (fun itv s' q => ?_) fun zz zz e => e
    (revert q; refine xe2 fun g2 tk2 zq1 => ?_; revert zq1; refine ae2 fun zq2 zq3 => ?_; subst zq2; revert zq3; refine ae2 fun zq4 zq5 => ?_; subst zq4; revert zq5; refine ae2 fun kp at2 => ?_)
    exact fin φ1 g1 g2 tk tk2 h2 _ src ri.2 st R1 (en.step st) (get_size _) (Nat.le_refl _) kp at2 hck hckk ex2
  | some e =>
    rw [ha] at ex
    (refine xe2 (fun sv h1 zq1 => ?_) (bind_some ex); revert zq1; refine ae2 fun e1 ex1 => ?_)
    (refine xe2 (fun r h2 zq1 => ?_) (bind_some ex1); revert zq1; refine ae2 fun e2 ex2 => ?_)
    clear ex ex1
    have hform : ∃ f pf pc, it = .Call (.Name f pf) [e] [] pc ∧ f = Str.ofString "range" := by
      unfold rangeArg at ha
      split at ha
      · split at ha
        · rename_i hf
          cases ha
          exact ⟨_, _, _, rfl, hf⟩
        · cases ha
      · cases ha
    (revert hform; refine xe3 fun f pf pc zq1 => ?_; revert zq1; refine ae2 fun zq2 zq3 => ?_; subst zq2; subst zq3)
    (refine ae2 (fun k1 k2 => ?_) (and2 (show (isFun fs env.scope.names (Str.ofString "range") && okEs fs [e] env.scope.names) = true from ok2)))
    have k2' : (okE fs e env.scope.names && notStar e && okEs fs [] env.scope.names) = true := k2
    have he := harg e ha
    refine wpAny_For (s := s) ?_ (fun y => folded_plain ok3 env y)
    refine wpAny_Call_Name_kw (name_fun X k1 R en fun rf hrf => ?_)
    rw [hr] at hrf
    cases hrf
    refine callWith_any (P := K.In) k2 (X.keep _ _ hr) ?_
    refine wpAny_items_cons (P0_then (he env m A E s φ h h1 sv (and2 (and2 k2').1).1 b R en e1) fun rv φ1 g1 tk st R1 v1 => wpAny_items_nil ⟨X.X.keeps R1.keep, ?_⟩) (starEach_plain (and2 (and2 k2').1).2)
    (refine ae2 (fun q zq1 => ?_) (range_ok (prog := prog) (w := w) (s := { s with heap := g1, toks := tk }) v1 e2); revert zq1; refine xe1 fun src zq2 => ?_; revert zq2; refine ae3 fun hr1 hck hi => ?_)
    subst q
    subst hr1
    refine wpAny_mono (hi A E) (fun rg s1 q => ?_) fun zz zz e => e
    (revert q; refine xe2 fun g2 tk2 zq1 => ?_; revert zq1; refine ae2 fun zq2 zq3 => ?_; subst zq2; revert zq3; refine ae2 fun kp hi => ?_)
    refine wpAny_mono hi (fun itv s' q => ?_) fun zz zz e => e
    (revert q; refine xe3 fun I g3 tk3 zq1 => ?_; revert zq1; refine ae2 fun zq2 zq3 => ?_; subst zq2; revert zq3; refine ae4 fun hI hge zq4 zq5 => ?_; subst zq4; revert zq5; refine ae2 fun kp3 at3 => ?_)
    exact fin φ1 g1 g3 tk tk3 h2 I src (pure ()) st R1 (en.step st) hI hge kp3 at3 (hck _) (fun g g' u e => ⟨(pure_some e).2, hck _⟩) ex2
end
end

section
open PySem PySem.W PyProof.Rows PySem.SeqAt PySem.Calls

section
variable {prog : Program} {w : World} {K : Frag} {C : Addr} {h₀ : Heap} {fs : List Str} {fn fm : List (Str × Value)} {n : Nat} {cl : Str → List V → M V}

theorem okAss1 {t : Expr} {e : Expr} {t2 : Expr} {ts : List Expr} {p : Pos} : ∀ ks, okS fs (.Assign (t :: t2 :: ts) e p) ks = false := fun ks => by cases t <;> exact Eq.refl false
theorem okDel1 {t : Expr} {t2 : Expr} {ts : List Expr} {p : Pos} : ∀ ks, okS fs (.Delete (t :: t2 :: ts) p) ks = false := fun ks => by cases t <;> exact Eq.refl false
noncomputable def isComp : Expr → Option (Option (Expr × List Comprehension × Scope × Pos))
  | .ListComp elt gens sc pc => some (some (elt, gens, sc, pc))
  | .SetComp .. => some none
  | .DictComp .. => some none
  | _ => none
theorem notComp {e : Expr} (h : isComp e = none) (x : Str) (px : Pos) (l : Nat) (env : Env) : swapsWith e (some (.Name x px)) l env = pure false := by
  cases e with
  | ListComp _ _ _ _ => exact nomatch h
  | SetComp _ _ _ _ => exact nomatch h
  | DictComp _ _ _ _ _ => exact nomatch h
  | _ => exact Eq.refl (pure false)
theorem badComp {e : Expr} (h : isComp e = some none) (ks : NK) : okE fs e ks = false := by
  cases e with
  | SetComp _ _ _ _ => exact Eq.refl false
  | DictComp _ _ _ _ _ => exact Eq.refl false
  | _ => exact nomatch h
theorem isListComp {e : Expr} {elt : Expr} {gens : List Comprehension} {sc : Scope} {pc : Pos} (h : isComp e = some (some (elt, gens, sc, pc))) : e = .ListComp elt gens sc pc := by
  cases e with
  | ListComp _ _ _ _ => cases h; rfl
  | _ => exact nomatch h
theorem asg_Name (X : Cx prog w K C h₀ fs fn fm n cl) (x : Str) (px : Pos) (e : Expr) (p : Pos) : StP prog w C h₀ fs n cl (.Assign [.Name x px] e p) := by
  cases h : isComp e with
  | none => exact st_Name_plain (eval_ok X _) (notComp h x px _)
  | some o =>
    cases o with
    | none => exact no_st fun ks => (congrArg (_ && ·) (badComp h ks)).trans (Bool.and_false _)
    | some q => exact isListComp (elt := q.1) (gens := q.2.1) (sc := q.2.2.1) (pc := q.2.2.2) h ▸ st_Name_comp X

theorem allS (X : Cx prog w K C h₀ fs fn fm n cl) (hr : fn.lookup (Str.ofString "range") = some (.type "range")) : ∀ N : Nat, (∀ st : Stmt, sizeOf st < N → StP prog w C h₀ fs n cl st) ∧ (∀ ss : List Stmt, sizeOf ss < N → StsP prog w C h₀ fs n cl ss)
  | 0 => ⟨fun e h => absurd h (Nat.not_lt_zero _), fun es h => absurd h (Nat.not_lt_zero _)⟩
  | N + 1 => by
    have ih := allS X hr N
    have ie := ih.1
    have il := ih.2
    have ev := eval_ok X
    have no : ∀ st, (∀ ks, okS fs st ks = false) → StP prog w C h₀ fs n cl st := fun e h => no_st h
    clear ih
    refine ⟨fun st h => ?_, fun ss h => ?_⟩
    · cases st with
      | Assign ts e p =>
        clear h
        cases ts with
        | nil => exact no _ fun zz => Eq.refl false
        | cons t ts =>
          cases ts with
          | cons t2 ts => exact no _ okAss1
          | nil =>
            cases t with
            | Name x px => exact asg_Name X x px e p
            | Tuple ts k tp => exact st_Tuple (ev _)
            | Subscript o i q => exact st_Subscript (ev _) (ev _) (ev _)
            | Attribute o x q => exact st_Attribute X (ev _) (ev _)
            | _ => exact no _ fun zz => Eq.refl false
      | AugAssign t op e p =>
        clear h
        cases t with
        | Name x q => exact st_Aug (ev _)
        | _ => exact no _ fun zz => Eq.refl false
      | Delete ts p =>
        clear h
        cases ts with
        | nil => exact no _ fun zz => Eq.refl false
        | cons t ts =>
          cases ts with
          | cons t2 ts => exact no _ okDel1
          | nil =>
            cases t with
            | Subscript o i q => exact st_Delete (ev _) (ev _)
            | _ => exact no _ fun zz => Eq.refl false
      | Expr e p => exact st_Expr (ev _)
      | Return e p =>
        cases e with
        | none => exact no _ fun zz => Eq.refl false
        | some e => exact st_Return (ev _)
      | If t b o p =>
        have s := Stmt.If.sizeOf_spec t b o p
        exact st_If (test_ok X _) (il b (q4_2 s h)) (il o (q4_3 s h))
      | For t it body o p =>
        have s := Stmt.For.sizeOf_spec t it body o p
        cases t with
        | Name x px =>
          cases o with
          | nil => exact st_For X hr (ev _) (fun e zz => ev e) (il body (q4_3 (Nat.add_assoc _ _ (sizeOf p) ▸ s) h))
          | cons o os => exact no _ fun zz => Eq.refl false
        | _ => exact no _ fun zz => Eq.refl false
      | Continue p => exact st_Continue
      | _ => exact no _ fun zz => Eq.refl false
    · cases ss with
      | nil => exact sts_nil
      | cons x xs =>
        have s := List.cons.sizeOf_spec x xs
        exact sts_cons (ie x (q2_1 s h)) (il xs (q2_2 s h))

theorem execs_ok (X : Cx prog w K C h₀ fs fn fm n cl) (hr : fn.lookup (Str.ofString "range") = some (.type "range")) (ss : List Stmt) : StsP prog w C h₀ fs n cl ss := (allS X hr _).2 ss (Nat.lt_succ_self _)
end

noncomputable def bnames : List (Str × Value) := [(Str.ofString "len", .builtin "len"), (Str.ofString "sorted", .builtin "sorted"), (Str.ofString "list", .type "list"), (Str.ofString "min", .builtin "min"), (Str.ofString "max", .builtin "max"), (Str.ofString "range", .type "range")]

/- a function of the text -/
noncomputable def FunAt (p : Program) (K : Frag) (fs : List Str) (f : Str) (a : Addr) : Prop := ∃ fd, FT p f = some fd ∧ FnOk K a fd ∧ okSs fs fd.body fd.scope.names = true

/- all that is known ahead of the run -/
structure Px (p : Program) (K : Frag) (C : Addr) (h₀ : Heap) (fs : List Str) (fn fm : List (Str × Value)) : Prop where
  X : K.In h₀
  nl : h₀.NoLimit
  two : 1 < h₀.objs.size
  cls : Cls K C
  gat : findIn K (.ref C) "__getattr__" = some none
  names : ∀ f, fs.contains f = true → ∃ rf, fn.lookup f = some rf
  glob : ∃ mg mb, h₀.Ns mainGlobals mg ∧ h₀.Ns builtinsNs mb ∧ ∀ f rf, fn.lookup f = some rf → mg f = some rf ∨ (mg f = none ∧ mb f = some rf)
  keep : ∀ f rf, fn.lookup f = some rf → ∀ (prog : Program) (w : World) h, K.In h → ∃ k, (k = Keeper.frame ∨ k = Keeper.machine ∨ k = Keeper.boundFrame) ∧ Looks (model prog w) h (keeperOf rf) k
  meth : ∀ x f, methN x = some f → x ≠ sNear ∧ x ≠ sMembers ∧ ∃ a, fm.lookup f = some (.ref a) ∧ findIn K (.ref C) x = some (some (.ref a)) ∧ typeIn K (.ref a) = some (.type "function") ∧ keepIn K (.ref a) = true
  range : fn.lookup (Str.ofString "range") = some (.type "range")
  fns : ∀ f rf, fn.lookup f = some rf → (f = sGraph ∧ rf = .ref C) ∨ (f ≠ sGraph ∧ ∃ a, rf = .ref a ∧ FunAt p K fs f a) ∨ (f ≠ sGraph ∧ FT p f = none ∧ (f, rf) ∈ bnames)
  fms : ∀ f rf, fm.lookup f = some rf → f ≠ sGraph ∧ ∃ a, rf = .ref a ∧ FunAt p K fs f a
  init : sInit ≠ sGraph ∧ ∃ a, FunAt p K fs sInit a ∧ findIn K (.ref C) "__init__" = some (some (.ref a)) ∧ typeIn K (.ref a) = some (.type "function")
  makes : makesIn K C = true

section
variable {prog : Program} {w : World} {p : Program} {K : Frag} {C : Addr} {h₀ : Heap} {fs : List Str} {fn fm : List (Str × Value)}

noncomputable def CallP (prog : Program) (w : World) (p : Program) (C : Addr) (h₀ : Heap) (fn fm : List (Str × Value)) (n : Nat) : Prop :=
  ∀ f rf vs h h' v, fn.lookup f = some rf ∨ fm.lookup f = some rf → callA p n f vs h = some (v, h') → ∀ (A : Around) (E : Value → Shared → Prop) (s : Shared) (φ : List Addr) (rvs : List Value), Bd A n → Rel C h₀ φ h s.heap →
    h₀.objs.size ≤ s.heap.objs.size → VRs φ vs rvs → wpAny (model prog w) A (call rf rvs) (PV C h₀ [] φ s h' v) E s

theorem Px.cx (P : Px p K C h₀ fs fn fm) {n : Nat} (hc : CallP prog w p C h₀ fn fm n) : Cx prog w K C h₀ fs fn fm n (callA p n) :=
  ⟨P.X, P.nl, P.two, P.cls, P.gat, P.names, P.glob, fun f rf h => P.keep f rf h prog w, P.meth, hc⟩

theorem fun_code (P : Px p K C h₀ fs fn fm) {n : Nat} (hc : CallP prog w p C h₀ fn fm n) {f : Str} {a : Addr} (F : FunAt p K fs f a) (hf : f ≠ sGraph) {vs : List V} {h h' : H} {v : V} (e : callA p (n + 1) f vs h = some (v, h'))
    {A : Around} {E : Value → Shared → Prop} {s : Shared} {φ : List Addr} {rvs : List Value} (b : Bd A (n + 1)) (R : Rel C h₀ φ h s.heap) (z : h₀.objs.size ≤ s.heap.objs.size) (hv : VRs φ vs rvs) :
    codeAny (model prog w) A (.call (.ref a) ⟨rvs, []⟩) (CB (PV C h₀ [] φ s h' v) E) s := by
  (revert F; refine xe1 fun fd zq1 => ?_; revert zq1; refine ae3 fun h1 h2 h3 => ?_)
  unfold callA at e
  rw [if_neg hf, h1] at e
  refine call_fn_code P.X P.nl h2 b R z hv e fun env E' s1 fl m' hsc R1 en ex => ?_
  refine wpAny_mono (execs_ok (P.cx hc) P.range fd.body env _ m' (A.deeper env) E' s1 φ h h' fl (by rw [hsc]; exact h3) (b.deeper env) R1 en ex) (fun f s' q => ?_) fun zz zz e => e
  (revert q; refine xe3 fun φ' g tk zq1 => ?_; revert zq1; refine ae2 fun zq2 zq3 => ?_; subst zq2; revert zq3; refine ae4 fun st R' en' fr => ?_)
  refine ⟨φ', g, tk, rfl, st, R', ?_⟩
  cases fr with
  | next => trivial
  | cont => trivial
  | ret h => exact h

theorem Bd.tc {A : Around} {n : Nat} (b : Bd A (n + 1)) (C : Addr) (r : List Value) : Bd (A.under (.builtin "type.__call__" ⟨.ref C :: r, []⟩)) n := by
  (revert b; refine ae3 fun a b c => ?_)
  refine ⟨a, ?_, ?_⟩
  · show A.depth + 1 + 10 * n < 900; omega
  · show A.units + 1 + 50 * n + 200 < cLine; omega

theorem graph_ok (P : Px p K C h₀ fs fn fm) {n : Nat} (hc : CallP prog w p C h₀ fn fm n) {h h' : H} {v : V} {vs : List V} (e : callA p (n + 1 + 1) sGraph vs h = some (v, h'))
    {A : Around} {E : Value → Shared → Prop} {s : Shared} {φ : List Addr} {rvs : List Value} (b : Bd A (n + 1 + 1)) (R : Rel C h₀ φ h s.heap) (z : h₀.objs.size ≤ s.heap.objs.size) (hv : VRs φ vs rvs) :
    wpAny (model prog w) A (call (.ref C) rvs) (PV C h₀ [] φ s h' v) E s := by
  unfold callA at e
  rw [if_pos rfl] at e
  cases hv with
  | cons _ _ => exact (fail_some e).elim
  | nil =>
  have e := new_bind e
  have e := new_bind e
  (refine xe2 (fun r h2 zq1 => ?_) (bind_some e); revert zq1; refine ae2 fun e1 e2 => ?_)
  (refine ae2 (fun q e2 => ?_) (ite_some e2))
  (refine ae2 (fun zq1 zq2 => ?_) (pure_some e2); subst zq1; subst zq2)
  subst q
  obtain ⟨hig, a, F, hfi, hty⟩ := P.init
  refine wpAny_call ?_
  obtain ⟨hh, g, d, t, os⟩ := s
  dsimp only at R z
  refine make_core (makes_of (P.X.keeps R.keep) P.makes) (looks_findIn (P.X.keeps R.keep) hfi) (fun self => bind_fn (P.X.keeps R.keep) self hty) (.inl rfl) ?_
  have R1 : Rel C h₀ (φ ++ [hh.objs.size]) (h ++ [.ns none none]) (hh.push emptyDict) :=
    (R.push emptyDict).alloc (Heap.get?_push_size _ rfl) (fun q => Nat.lt_irrefl _ (R.lt q)) z ⟨#[], 0, rfl, fun zz q => by simp at q, List.Pairwise.nil, .none, .none, fun zz zz zz => rfl⟩
  have hl : h.length = φ.length := R.len.symm
  have R2 : Rel C h₀ (φ ++ [hh.objs.size] ++ [hh.objs.size + 1]) (h ++ [.ns none none] ++ [.inst h.length]) ((hh.push emptyDict).push (instObj C hh.objs.size)) := by
    refine (R1.push (instObj C hh.objs.size)).alloc (by rw [← Heap.size_push hh emptyDict]; exact Heap.get?_push_size _ rfl) (fun q => ?_) (Nat.le_succ_of_le z) ⟨hh.objs.size, ?_, rfl⟩
    · have := R1.lt q
      rw [Heap.size_push] at this
      exact Nat.lt_irrefl _ this
    · rw [hl, List.append_assoc, List.getElem?_append_right (Nat.le_refl _)]; simp
  have hi : (φ ++ [hh.objs.size] ++ [hh.objs.size + 1])[(h ++ [O.ns none none]).length]? = some (hh.objs.size + 1) := by
    rw [← R1.len, List.getElem?_concat_length]
  have st1 : Step [] φ hh (φ ++ [hh.objs.size]) (hh.push emptyDict) := Step.alloc (fun zz zz e => Heap.get?_push_of_some _ e) (get_size _)
  have st2 : Step [] (φ ++ [hh.objs.size]) (hh.push emptyDict) (φ ++ [hh.objs.size] ++ [hh.objs.size + 1]) ((hh.push emptyDict).push (instObj C hh.objs.size)) :=
    Step.alloc (fun zz zz e => Heap.get?_push_of_some _ e) (by rw [← Heap.size_push hh emptyDict]; exact get_size _)
  refine codeAny_mono (fun_code (A := A.under (.builtin "type.__call__" ⟨[.ref C], []⟩)) (E := E) (s := ⟨(hh.push emptyDict).push (instObj C hh.objs.size), g, d, t, os⟩) P hc F hig e1 (b.tc _ _) R2 (by show h₀.objs.size ≤ ((hh.push emptyDict).push (instObj C hh.objs.size)).objs.size; rw [Heap.size_push, Heap.size_push]; omega) (.one (.ref _ _ hi))) fun r s' q => ?_
  rcases r with e | (rv | _ | _ | _)
  · exact q
  all_goals first | exact q.elim | skip
  (revert q; refine xe3 fun φ' g' tk zq1 => ?_; revert zq1; refine ae2 fun zq2 zq3 => ?_; subst zq2; revert zq3; refine ae3 fun st R' x => ?_)
  cases x
  exact ⟨rfl, φ', g', tk, rfl, (st1.trans st2).trans st, R', .ref _ _ (pre_get st.pre hi)⟩
end
end

section
open PySem PySem.W PyProof.Rows PySem.SeqAt PySem.Calls

section
variable {prog : Program} {w : World} {p : Program} {K : Frag} {C : Addr} {h₀ : Heap} {fs : List Str} {fn fm : List (Str × Value)}

theorem builtin_ok {f : Str} {rf : Value} {vs : List V} {h h' : H} {v : V} (hm : (f, rf) ∈ bnames) (e : builtinA f vs h = some (v, h')) {A : Around} {n : Nat} {E : Value → Shared → Prop} {s : Shared} {φ : List Addr} {rvs : List Value}
    (two : 1 < h₀.objs.size) (b : Bd A (n + 1)) (R : Rel C h₀ φ h s.heap) (z : h₀.objs.size ≤ s.heap.objs.size) (hv : VRs φ vs rvs) : wpAny (model prog w) A (call rf rvs) (PV C h₀ [] φ s h' v) E s := by
  have hu : A.units + 2 < cLine := by have := b.2.2; omega
  unfold bnames at hm
  simp only [List.mem_cons, Prod.mk.injEq, List.not_mem_nil, or_false] at hm
  unfold builtinA at e
  rcases hm with ⟨rfl, rfl⟩ | ⟨rfl, rfl⟩ | ⟨rfl, rfl⟩ | ⟨rfl, rfl⟩ | ⟨rfl, rfl⟩ | ⟨rfl, rfl⟩
  · rw [if_pos rfl] at e
    cases hv with
    | nil => exact (fail_some e).elim
    | cons h1 t =>
      cases t with
      | nil => exact len_ok two R h1 e
      | cons _ _ => exact (fail_some e).elim
  · rw [if_neg (by decide), if_pos rfl] at e
    cases hv with
    | nil => exact (fail_some e).elim
    | cons h1 t =>
      cases t with
      | nil => exact sorted_ok b.1 two hu z R h1 e
      | cons _ _ => exact (fail_some e).elim
  · rw [if_neg (by decide), if_neg (by decide), if_pos rfl] at e
    cases hv with
    | nil => exact (fail_some e).elim
    | cons h1 t =>
      cases t with
      | nil => exact copy_ok z R h1 e
      | cons _ _ => exact (fail_some e).elim
  · rw [if_neg (by decide), if_neg (by decide), if_neg (by decide), if_pos rfl] at e
    split at e
    · (refine ae2 (fun zq1 zq2 => ?_) (pure_some e); subst zq1; subst zq2)
      cases hv with
      | cons h1 t =>
      cases h1
      cases t with
      | cons h2 t =>
      cases h2
      cases t
      exact min_ok b.1 R
    · exact (fail_some e).elim
  · rw [if_neg (by decide), if_neg (by decide), if_neg (by decide), if_neg (by decide), if_pos rfl] at e
    split at e
    · (refine ae2 (fun zq1 zq2 => ?_) (pure_some e); subst zq1; subst zq2)
      cases hv with
      | cons h1 t =>
      cases h1
      cases t with
      | cons h2 t =>
      cases h2
      cases t
      exact max_ok b.1 R
    · exact (fail_some e).elim
  · rw [if_neg (by decide), if_neg (by decide), if_neg (by decide), if_neg (by decide), if_neg (by decide)] at e
    exact (fail_some e).elim

theorem call_all (P : Px p K C h₀ fs fn fm) : ∀ n, CallP prog w p C h₀ fn fm n ∧ CallP prog w p C h₀ fn fm (n + 1)
  | 0 => by
    have h0 : CallP prog w p C h₀ fn fm 0 := fun f rf vs h h' v zz e => (fail_some (show (fail : M V) h = some (v, h') from e)).elim
    refine ⟨h0, fun f rf vs h h' v hf e A E s φ rvs b R z hv => ?_⟩
    rcases hf with hf | hf
    · rcases P.fns f rf hf with ⟨rfl, rfl⟩ | ⟨hg, a, rfl, F⟩ | ⟨hg, hn, hm⟩
      · unfold callA at e
        rw [if_pos rfl] at e
        cases hv with
        | cons _ _ => exact (fail_some e).elim
        | nil =>
        have e := new_bind e
        have e := new_bind e
        (refine xe2 (fun r h2 zq1 => ?_) (bind_some e); revert zq1; refine ae2 fun e1 e2 => ?_)
        exact (fail_some (show (fail : M V) _ = some (r, h2) from e1)).elim
      · exact wpAny_call (fun_code P h0 F hg e b R z hv)
      · unfold callA at e
        rw [if_neg hg, hn] at e
        exact builtin_ok hm e P.two b R z hv
    · (refine ae2 (fun hg zq1 => ?_) (P.fms f rf hf); revert zq1; refine xe1 fun a zq2 => ?_; revert zq2; refine ae2 fun zq3 F => ?_; subst zq3)
      exact wpAny_call (fun_code P h0 F hg e b R z hv)
  | n + 1 => by
    (refine ae2 (fun i0 i1 => ?_) (call_all P n))
    refine ⟨i1, fun f rf vs h h' v hf e A E s φ rvs b R z hv => ?_⟩
    rcases hf with hf | hf
    · rcases P.fns f rf hf with ⟨rfl, rfl⟩ | ⟨hg, a, rfl, F⟩ | ⟨hg, hn, hm⟩
      · exact graph_ok P i0 e b R z hv
      · exact wpAny_call (fun_code P i1 F hg e b R z hv)
      · unfold callA at e
        rw [if_neg hg, hn] at e
        exact builtin_ok hm e P.two b R z hv
    · (refine ae2 (fun hg zq1 => ?_) (P.fms f rf hf); revert zq1; refine xe1 fun a zq2 => ?_; revert zq2; refine ae2 fun zq3 F => ?_; subst zq3)
      exact wpAny_call (fun_code P i1 F hg e b R z hv)

/- a run of the abstract text is one of the text -/
theorem call_ok (P : Px p K C h₀ fs fn fm) (n : Nat) : CallP prog w p C h₀ fn fm n := (call_all P n).1
end
end

set_option maxRecDepth 100000
section
open PySem PySem.W PyProof.Rows

noncomputable abbrev pw : Program := PySem.Challenge.pw_pq0792_01
noncomputable def defsIn (b : List Stmt) (pre : String) : List (Str × Arguments × List Stmt × Scope) := b.filterMap fun
  | .FunctionDef n a b _ _ _ s _ _ _ => some (Str.ofString pre ++ n, a, b, s)
  | _ => none
noncomputable def allDefs : List (Str × Arguments × List Stmt × Scope) := defsIn pw.main.body "" ++ defsIn (graphBody pw.main.body) "Graph."
noncomputable def fD (n : String) : Arguments × List Stmt × Scope := match allDefs.lookup (Str.ofString n) with
  | some x => x
  | _ => ({ posonlyargs := [], args := [], vararg := none, kwonlyargs := [], kw_defaults := [], kwarg := none, defaults := [] }, [], { kind := .module, names := [], isGenerator := false, isCoroutine := false })
noncomputable def fA (n : String) : Arguments := (fD n).1
noncomputable def fB (n : String) : List Stmt := (fD n).2.1
noncomputable def fS (n : String) : Scope := (fD n).2.2

/- the part of the heap behind the top that the law reaches -/
noncomputable def kF (P : Params) : Frag :=
  [(2, { cls := Value.none, data := Data.dict #[] }),
  (3, { cls := Value.type "dict", data := Data.dict #[{ hash := PyData.keyHash P (Str.ofString "__name__"), key := Value.str (Str.ofString "__name__") 165, val := Value.str (Str.ofString "law_pq0792_01") 324 }, { hash := PyData.keyHash P (Str.ofString "__doc__"), key := Value.str (Str.ofString "__doc__") 166, val := Value.none }, { hash := PyData.keyHash P (Str.ofString "__package__"), key := Value.str (Str.ofString "__package__") 167, val := Value.none }, { hash := PyData.keyHash P (Str.ofString "__loader__"), key := Value.str (Str.ofString "__loader__") 168, val := Value.builtin "__main__.__loader__#opaque" }, { hash := PyData.keyHash P (Str.ofString "__spec__"), key := Value.str (Str.ofString "__spec__") 169, val := Value.none }, { hash := PyData.keyHash P (Str.ofString "__annotations__"), key := Value.str (Str.ofString "__annotations__") 170, val := Value.ref 6 }, { hash := PyData.keyHash P (Str.ofString "__builtins__"), key := Value.str (Str.ofString "__builtins__") 171, val := Value.ref 4 }, { hash := PyData.keyHash P (Str.ofString "__file__"), key := Value.str (Str.ofString "__file__") 173, val := Value.str (Str.ofString "/claim/cut.py") 172 }, { hash := PyData.keyHash P (Str.ofString "__cached__"), key := Value.str (Str.ofString "__cached__") 174, val := Value.none }, { hash := PyData.keyHash P (Str.ofString "two_operand_names"), key := Value.str (Str.ofString "two_operand_names") 194, val := Value.ref 21 }, { hash := PyData.keyHash P (Str.ofString "defined"), key := Value.str (Str.ofString "defined") 201, val := Value.ref 28 }, { hash := PyData.keyHash P (Str.ofString "used"), key := Value.str (Str.ofString "used") 208, val := Value.ref 35 }, { hash := PyData.keyHash P (Str.ofString "spans"), key := Value.str (Str.ofString "spans") 218, val := Value.ref 42 }, { hash := PyData.keyHash P (Str.ofString "overlap"), key := Value.str (Str.ofString "overlap") 226, val := Value.ref 49 }, { hash := PyData.keyHash P (Str.ofString "Graph"), key := Value.str (Str.ofString "Graph") 284, val := Value.ref 87 }, { hash := PyData.keyHash P (Str.ofString "interference"), key := Value.str (Str.ofString "interference") 296, val := Value.ref 98 }, { hash := PyData.keyHash P (Str.ofString "heavy_neighbours"), key := Value.str (Str.ofString "heavy_neighbours") 310, val := Value.ref 105 }, { hash := PyData.keyHash P (Str.ofString "coalesce"), key := Value.str (Str.ofString "coalesce") 323, val := Value.ref 112 }, { hash := PyData.keyHash P (Str.ofString "_law_pull"), key := Value.str (Str.ofString "_law_pull") 338, val := Value.ref 119 }, { hash := PyData.keyHash P (Str.ofString "_law_program"), key := Value.str (Str.ofString "_law_program") 354, val := Value.ref 126 }, { hash := PyData.keyHash P (Str.ofString "_law_lives"), key := Value.str (Str.ofString "_law_lives") 368, val := Value.ref 133 }, { hash := PyData.keyHash P (Str.ofString "_law_meet"), key := Value.str (Str.ofString "_law_meet") 378, val := Value.ref 140 }, { hash := PyData.keyHash P (Str.ofString "_law_clash"), key := Value.str (Str.ofString "_law_clash") 390, val := Value.ref 147 }, { hash := PyData.keyHash P (Str.ofString "_law_joined"), key := Value.str (Str.ofString "_law_joined") 396, val := Value.ref 152 }, { hash := PyData.keyHash P (Str.ofString "_law_hangs"), key := Value.str (Str.ofString "_law_hangs") 407, val := Value.ref 159 }, { hash := PyData.keyHash P (Str.ofString "_law_graph_right"), key := Value.str (Str.ofString "_law_graph_right") 413, val := Value.ref 164 }, { hash := PyData.keyHash P (Str.ofString "_law_good"), key := Value.str (Str.ofString "_law_good") 419, val := Value.ref 169 }, { hash := PyData.keyHash P (Str.ofString "law"), key := Value.str (Str.ofString "law") 430, val := Value.ref 176 }] 28 }),
  (15, { cls := Value.type "tuple", data := Data.seq #[] }),
  (17, { cls := Value.type "tuple", data := Data.seq #[] }),
  (18, { cls := Value.type "tuple", data := Data.seq #[] }),
  (20, { cls := Value.type "code", data := Data.fields #[Value.str (Str.ofString "two_operand_names") 189, Value.str (Str.ofString "two_operand_names") 190, Value.str (Str.ofString "/claim/cut.py") 191, Value.int 2 0, Value.int 0 0, Value.int 0 0, Value.int 0 0, Value.int 3 0, Value.ref 15, Value.bool true, Value.int 181 0, Value.ref 16, Value.none, Value.ref 17, Value.ref 18, Value.ref 19, Value.int 192 0, Value.int 2 0, Value.str (Str.ofString "/claim/cut.py") 193] }),
  (21, { cls := Value.type "function", data := Data.func { name := Str.ofString "two_operand_names", qualname := Str.ofString "two_operand_names", params := fA "two_operand_names", body := FuncBody.stmts (fB "two_operand_names"), scope := fS "two_operand_names", globals := 3, closure := [], defaults := Value.none, kwdefaults := Value.none, pyModule := Value.str (Str.ofString "moduleyard.vcode") 187, code := Value.ref 20 } }),
  (22, { cls := Value.type "tuple", data := Data.seq #[] }),
  (24, { cls := Value.type "tuple", data := Data.seq #[Value.str (Str.ofString "row") 198] }),
  (25, { cls := Value.type "tuple", data := Data.seq #[] }),
  (27, { cls := Value.type "code", data := Data.fields #[Value.str (Str.ofString "defined") 195, Value.str (Str.ofString "defined") 196, Value.str (Str.ofString "/claim/cut.py") 197, Value.int 4 0, Value.int 1 0, Value.int 0 0, Value.int 0 0, Value.int 3 0, Value.ref 22, Value.bool true, Value.int 181 0, Value.ref 23, Value.none, Value.ref 24, Value.ref 25, Value.ref 26, Value.int 199 0, Value.int 4 0, Value.str (Str.ofString "/claim/cut.py") 200] }),
  (28, { cls := Value.type "function", data := Data.func { name := Str.ofString "defined", qualname := Str.ofString "defined", params := fA "defined", body := FuncBody.stmts (fB "defined"), scope := fS "defined", globals := 3, closure := [], defaults := Value.none, kwdefaults := Value.none, pyModule := Value.str (Str.ofString "moduleyard.vcode") 187, code := Value.ref 27 } }),
  (29, { cls := Value.type "tuple", data := Data.seq #[] }),
  (31, { cls := Value.type "tuple", data := Data.seq #[Value.str (Str.ofString "row") 205] }),
  (32, { cls := Value.type "tuple", data := Data.seq #[] }),
  (34, { cls := Value.type "code", data := Data.fields #[Value.str (Str.ofString "used") 202, Value.str (Str.ofString "used") 203, Value.str (Str.ofString "/claim/cut.py") 204, Value.int 8 0, Value.int 1 0, Value.int 0 0, Value.int 0 0, Value.int 3 0, Value.ref 29, Value.bool true, Value.int 181 0, Value.ref 30, Value.none, Value.ref 31, Value.ref 32, Value.ref 33, Value.int 206 0, Value.int 8 0, Value.str (Str.ofString "/claim/cut.py") 207] }),
  (35, { cls := Value.type "function", data := Data.func { name := Str.ofString "used", qualname := Str.ofString "used", params := fA "used", body := FuncBody.stmts (fB "used"), scope := fS "used", globals := 3, closure := [], defaults := Value.none, kwdefaults := Value.none, pyModule := Value.str (Str.ofString "moduleyard.vcode") 187, code := Value.ref 34 } }),
  (36, { cls := Value.type "tuple", data := Data.seq #[] }),
  (38, { cls := Value.type "tuple", data := Data.seq #[Value.str (Str.ofString "rows") 212, Value.str (Str.ofString "found") 213, Value.str (Str.ofString "index") 214, Value.str (Str.ofString "v") 215] }),
  (39, { cls := Value.type "tuple", data := Data.seq #[] }),
  (41, { cls := Value.type "code", data := Data.fields #[Value.str (Str.ofString "spans") 209, Value.str (Str.ofString "spans") 210, Value.str (Str.ofString "/claim/cut.py") 211, Value.int 16 0, Value.int 1 0, Value.int 0 0, Value.int 0 0, Value.int 3 0, Value.ref 36, Value.bool true, Value.int 181 0, Value.ref 37, Value.none, Value.ref 38, Value.ref 39, Value.ref 40, Value.int 216 0, Value.int 16 0, Value.str (Str.ofString "/claim/cut.py") 217] }),
  (42, { cls := Value.type "function", data := Data.func { name := Str.ofString "spans", qualname := Str.ofString "spans", params := fA "spans", body := FuncBody.stmts (fB "spans"), scope := fS "spans", globals := 3, closure := [], defaults := Value.none, kwdefaults := Value.none, pyModule := Value.str (Str.ofString "moduleyard.vcode") 187, code := Value.ref 41 } }),
  (43, { cls := Value.type "tuple", data := Data.seq #[] }),
  (45, { cls := Value.type "tuple", data := Data.seq #[Value.str (Str.ofString "one") 222, Value.str (Str.ofString "other") 223] }),
  (46, { cls := Value.type "tuple", data := Data.seq #[] }),
  (48, { cls := Value.type "code", data := Data.fields #[Value.str (Str.ofString "overlap") 219, Value.str (Str.ofString "overlap") 220, Value.str (Str.ofString "/claim/cut.py") 221, Value.int 25 0, Value.int 2 0, Value.int 0 0, Value.int 0 0, Value.int 3 0, Value.ref 43, Value.bool true, Value.int 181 0, Value.ref 44, Value.none, Value.ref 45, Value.ref 46, Value.ref 47, Value.int 224 0, Value.int 25 0, Value.str (Str.ofString "/claim/cut.py") 225] }),
  (49, { cls := Value.type "function", data := Data.func { name := Str.ofString "overlap", qualname := Str.ofString "overlap", params := fA "overlap", body := FuncBody.stmts (fB "overlap"), scope := fS "overlap", globals := 3, closure := [], defaults := Value.none, kwdefaults := Value.none, pyModule := Value.str (Str.ofString "moduleyard.vcode") 187, code := Value.ref 48 } }),
  (57, { cls := Value.type "tuple", data := Data.seq #[] }),
  (59, { cls := Value.type "tuple", data := Data.seq #[Value.str (Str.ofString "self") 244] }),
  (60, { cls := Value.type "tuple", data := Data.seq #[] }),
  (62, { cls := Value.type "code", data := Data.fields #[Value.str (Str.ofString "__init__") 241, Value.str (Str.ofString "Graph.__init__") 242, Value.str (Str.ofString "/claim/cut.py") 243, Value.int 30 0, Value.int 1 0, Value.int 0 0, Value.int 0 0, Value.int 3 0, Value.ref 57, Value.bool true, Value.int 181 0, Value.ref 58, Value.none, Value.ref 59, Value.ref 60, Value.ref 61, Value.int 245 0, Value.int 30 0, Value.str (Str.ofString "/claim/cut.py") 246] }),
  (63, { cls := Value.type "function", data := Data.func { name := Str.ofString "__init__", qualname := Str.ofString "Graph.__init__", params := fA "Graph.__init__", body := FuncBody.stmts (fB "Graph.__init__"), scope := fS "Graph.__init__", globals := 3, closure := [], defaults := Value.none, kwdefaults := Value.none, pyModule := Value.str (Str.ofString "moduleyard.colour") 227, code := Value.ref 62 } }),
  (64, { cls := Value.type "tuple", data := Data.seq #[] }),
  (66, { cls := Value.type "tuple", data := Data.seq #[Value.str (Str.ofString "self") 251, Value.str (Str.ofString "node") 252] }),
  (67, { cls := Value.type "tuple", data := Data.seq #[] }),
  (69, { cls := Value.type "code", data := Data.fields #[Value.str (Str.ofString "add") 248, Value.str (Str.ofString "Graph.add") 249, Value.str (Str.ofString "/claim/cut.py") 250, Value.int 34 0, Value.int 2 0, Value.int 0 0, Value.int 0 0, Value.int 3 0, Value.ref 64, Value.bool true, Value.int 181 0, Value.ref 65, Value.none, Value.ref 66, Value.ref 67, Value.ref 68, Value.int 253 0, Value.int 34 0, Value.str (Str.ofString "/claim/cut.py") 254] }),
  (70, { cls := Value.type "function", data := Data.func { name := Str.ofString "add", qualname := Str.ofString "Graph.add", params := fA "Graph.add", body := FuncBody.stmts (fB "Graph.add"), scope := fS "Graph.add", globals := 3, closure := [], defaults := Value.none, kwdefaults := Value.none, pyModule := Value.str (Str.ofString "moduleyard.colour") 227, code := Value.ref 69 } }),
  (71, { cls := Value.type "tuple", data := Data.seq #[] }),
  (73, { cls := Value.type "tuple", data := Data.seq #[Value.str (Str.ofString "self") 259, Value.str (Str.ofString "node") 260, Value.str (Str.ofString "other") 261, Value.str (Str.ofString "third") 262] }),
  (74, { cls := Value.type "tuple", data := Data.seq #[] }),
  (76, { cls := Value.type "code", data := Data.fields #[Value.str (Str.ofString "join_nodes") 256, Value.str (Str.ofString "Graph.join_nodes") 257, Value.str (Str.ofString "/claim/cut.py") 258, Value.int 38 0, Value.int 3 0, Value.int 0 0, Value.int 0 0, Value.int 3 0, Value.ref 71, Value.bool true, Value.int 181 0, Value.ref 72, Value.none, Value.ref 73, Value.ref 74, Value.ref 75, Value.int 263 0, Value.int 38 0, Value.str (Str.ofString "/claim/cut.py") 264] }),
  (77, { cls := Value.type "function", data := Data.func { name := Str.ofString "join_nodes", qualname := Str.ofString "Graph.join_nodes", params := fA "Graph.join_nodes", body := FuncBody.stmts (fB "Graph.join_nodes"), scope := fS "Graph.join_nodes", globals := 3, closure := [], defaults := Value.none, kwdefaults := Value.none, pyModule := Value.str (Str.ofString "moduleyard.colour") 227, code := Value.ref 76 } }),
  (78, { cls := Value.type "tuple", data := Data.seq #[] }),
  (80, { cls := Value.type "tuple", data := Data.seq #[Value.str (Str.ofString "self") 269, Value.str (Str.ofString "v") 270, Value.str (Str.ofString "node") 271] }),
  (81, { cls := Value.type "tuple", data := Data.seq #[] }),
  (83, { cls := Value.type "code", data := Data.fields #[Value.str (Str.ofString "holder") 266, Value.str (Str.ofString "Graph.holder") 267, Value.str (Str.ofString "/claim/cut.py") 268, Value.int 47 0, Value.int 2 0, Value.int 0 0, Value.int 0 0, Value.int 3 0, Value.ref 78, Value.bool true, Value.int 181 0, Value.ref 79, Value.none, Value.ref 80, Value.ref 81, Value.ref 82, Value.int 272 0, Value.int 47 0, Value.str (Str.ofString "/claim/cut.py") 273] }),
  (84, { cls := Value.type "function", data := Data.func { name := Str.ofString "holder", qualname := Str.ofString "Graph.holder", params := fA "Graph.holder", body := FuncBody.stmts (fB "Graph.holder"), scope := fS "Graph.holder", globals := 3, closure := [], defaults := Value.none, kwdefaults := Value.none, pyModule := Value.str (Str.ofString "moduleyard.colour") 227, code := Value.ref 83 } }),
  (85, { cls := Value.type "tuple", data := Data.seq #[Value.str (Str.ofString "members") 275, Value.str (Str.ofString "near") 276] }),
  (86, { cls := Value.type "dict", data := Data.dict #[{ hash := PyData.keyHash P (Str.ofString "__module__"), key := Value.str (Str.ofString "__module__") 236, val := Value.str (Str.ofString "moduleyard.colour") 227 }, { hash := PyData.keyHash P (Str.ofString "__firstlineno__"), key := Value.str (Str.ofString "__firstlineno__") 240, val := Value.int 28 239 }, { hash := PyData.keyHash P (Str.ofString "__init__"), key := Value.str (Str.ofString "__init__") 247, val := Value.ref 63 }, { hash := PyData.keyHash P (Str.ofString "add"), key := Value.str (Str.ofString "add") 255, val := Value.ref 70 }, { hash := PyData.keyHash P (Str.ofString "join_nodes"), key := Value.str (Str.ofString "join_nodes") 265, val := Value.ref 77 }, { hash := PyData.keyHash P (Str.ofString "holder"), key := Value.str (Str.ofString "holder") 274, val := Value.ref 84 }, { hash := PyData.keyHash P (Str.ofString "__static_attributes__"), key := Value.str (Str.ofString "__static_attributes__") 277, val := Value.ref 85 }, { hash := PyData.keyHash P (Str.ofString "__dict__"), key := Value.str (Str.ofString "__dict__") 279, val := Value.ref 88 }, { hash := PyData.keyHash P (Str.ofString "__weakref__"), key := Value.str (Str.ofString "__weakref__") 281, val := Value.ref 89 }, { hash := PyData.keyHash P (Str.ofString "__doc__"), key := Value.str (Str.ofString "__doc__") 282, val := Value.none }] 4 }),
  (87, { cls := Value.type "type", data := Data.cls { name := Str.ofString "Graph", bases := [Value.type "object"], mro := [Value.ref 87, Value.type "object"], ns := 86, qualname := Str.ofString "Graph" }, slots := #[none, none, some (Value.str (Str.ofString "Graph") 229), some (Value.str (Str.ofString "Graph") 237), some (Value.builtin "object.__new__"), some (Value.bool true)] }),
  (88, { cls := Value.type "getset_descriptor", data := Data.fields #[Value.str (Str.ofString "__dict__") 278, Value.ref 87, Value.builtin "function.__dict__", Value.builtin "function.__dict__#set"] }),
  (89, { cls := Value.type "getset_descriptor", data := Data.fields #[Value.str (Str.ofString "__weakref__") 280, Value.ref 87, Value.builtin "ExceptionGroup.__weakref__", Value.none] }),
  (92, { cls := Value.type "tuple", data := Data.seq #[] }),
  (94, { cls := Value.type "tuple", data := Data.seq #[Value.str (Str.ofString "rows") 288, Value.str (Str.ofString "lives") 289, Value.str (Str.ofString "names") 290, Value.str (Str.ofString "graph") 291, Value.str (Str.ofString "v") 292, Value.str (Str.ofString "other") 293] }),
  (95, { cls := Value.type "tuple", data := Data.seq #[] }),
  (97, { cls := Value.type "code", data := Data.fields #[Value.str (Str.ofString "interference") 285, Value.str (Str.ofString "interference") 286, Value.str (Str.ofString "/claim/cut.py") 287, Value.int 52 0, Value.int 1 0, Value.int 0 0, Value.int 0 0, Value.int 3 0, Value.ref 92, Value.bool true, Value.int 181 0, Value.ref 93, Value.none, Value.ref 94, Value.ref 95, Value.ref 96, Value.int 294 0, Value.int 52 0, Value.str (Str.ofString "/claim/cut.py") 295] }),
  (98, { cls := Value.type "function", data := Data.func { name := Str.ofString "interference", qualname := Str.ofString "interference", params := fA "interference", body := FuncBody.stmts (fB "interference"), scope := fS "interference", globals := 3, closure := [], defaults := Value.none, kwdefaults := Value.none, pyModule := Value.str (Str.ofString "moduleyard.colour") 227, code := Value.ref 97 } }),
  (99, { cls := Value.type "tuple", data := Data.seq #[] }),
  (101, { cls := Value.type "tuple", data := Data.seq #[Value.str (Str.ofString "graph") 300, Value.str (Str.ofString "node") 301, Value.str (Str.ofString "other") 302, Value.str (Str.ofString "count") 303, Value.str (Str.ofString "both") 304, Value.str (Str.ofString "third") 305, Value.str (Str.ofString "heavy") 306, Value.str (Str.ofString "degree") 307] }),
  (102, { cls := Value.type "tuple", data := Data.seq #[] }),
  (104, { cls := Value.type "code", data := Data.fields #[Value.str (Str.ofString "heavy_neighbours") 297, Value.str (Str.ofString "heavy_neighbours") 298, Value.str (Str.ofString "/claim/cut.py") 299, Value.int 64 0, Value.int 4 0, Value.int 0 0, Value.int 0 0, Value.int 3 0, Value.ref 99, Value.bool true, Value.int 181 0, Value.ref 100, Value.none, Value.ref 101, Value.ref 102, Value.ref 103, Value.int 308 0, Value.int 64 0, Value.str (Str.ofString "/claim/cut.py") 309] }),
  (105, { cls := Value.type "function", data := Data.func { name := Str.ofString "heavy_neighbours", qualname := Str.ofString "heavy_neighbours", params := fA "heavy_neighbours", body := FuncBody.stmts (fB "heavy_neighbours"), scope := fS "heavy_neighbours", globals := 3, closure := [], defaults := Value.none, kwdefaults := Value.none, pyModule := Value.str (Str.ofString "moduleyard.colour") 227, code := Value.ref 104 } }),
  (106, { cls := Value.type "tuple", data := Data.seq #[] }),
  (108, { cls := Value.type "tuple", data := Data.seq #[Value.str (Str.ofString "graph") 314, Value.str (Str.ofString "rows") 315, Value.str (Str.ofString "count") 316, Value.str (Str.ofString "joins") 317, Value.str (Str.ofString "row") 318, Value.str (Str.ofString "node") 319, Value.str (Str.ofString "other") 320] }),
  (109, { cls := Value.type "tuple", data := Data.seq #[] }),
  (111, { cls := Value.type "code", data := Data.fields #[Value.str (Str.ofString "coalesce") 311, Value.str (Str.ofString "coalesce") 312, Value.str (Str.ofString "/claim/cut.py") 313, Value.int 78 0, Value.int 3 0, Value.int 0 0, Value.int 0 0, Value.int 3 0, Value.ref 106, Value.bool true, Value.int 181 0, Value.ref 107, Value.none, Value.ref 108, Value.ref 109, Value.ref 110, Value.int 321 0, Value.int 78 0, Value.str (Str.ofString "/claim/cut.py") 322] }),
  (112, { cls := Value.type "function", data := Data.func { name := Str.ofString "coalesce", qualname := Str.ofString "coalesce", params := fA "coalesce", body := FuncBody.stmts (fB "coalesce"), scope := fS "coalesce", globals := 3, closure := [], defaults := Value.none, kwdefaults := Value.none, pyModule := Value.str (Str.ofString "moduleyard.colour") 227, code := Value.ref 111 } }),
  (113, { cls := Value.type "tuple", data := Data.seq #[] }),
  (115, { cls := Value.type "tuple", data := Data.seq #[Value.str (Str.ofString "well") 329, Value.str (Str.ofString "most") 330, Value.str (Str.ofString "spot_at") 331, Value.str (Str.ofString "cells") 332, Value.str (Str.ofString "cell") 333, Value.str (Str.ofString "mixed") 334, Value.str (Str.ofString "drawn") 335] }),
  (116, { cls := Value.type "tuple", data := Data.seq #[] }),
  (118, { cls := Value.type "code", data := Data.fields #[Value.str (Str.ofString "_law_pull") 326, Value.str (Str.ofString "_law_pull") 327, Value.str (Str.ofString "/claim/cut.py") 328, Value.int 90 0, Value.int 2 0, Value.int 0 0, Value.int 0 0, Value.int 3 0, Value.ref 113, Value.bool true, Value.int 181 0, Value.ref 114, Value.none, Value.ref 115, Value.ref 116, Value.ref 117, Value.int 336 0, Value.int 90 0, Value.str (Str.ofString "/claim/cut.py") 337] }),
  (119, { cls := Value.type "function", data := Data.func { name := Str.ofString "_law_pull", qualname := Str.ofString "_law_pull", params := fA "_law_pull", body := FuncBody.stmts (fB "_law_pull"), scope := fS "_law_pull", globals := 3, closure := [], defaults := Value.none, kwdefaults := Value.none, pyModule := Value.str (Str.ofString "law_pq0792_01") 324, code := Value.ref 118 } }),
  (120, { cls := Value.type "tuple", data := Data.seq #[] }),
  (122, { cls := Value.type "tuple", data := Data.seq #[Value.str (Str.ofString "well") 342, Value.str (Str.ofString "most") 343, Value.str (Str.ofString "copies") 344, Value.str (Str.ofString "ops") 345, Value.str (Str.ofString "made") 346, Value.str (Str.ofString "old_ones") 347, Value.str (Str.ofString "step") 348, Value.str (Str.ofString "v") 349, Value.str (Str.ofString "pick") 350, Value.str (Str.ofString "one") 351] }),
  (123, { cls := Value.type "tuple", data := Data.seq #[] }),
  (125, { cls := Value.type "code", data := Data.fields #[Value.str (Str.ofString "_law_program") 339, Value.str (Str.ofString "_law_program") 340, Value.str (Str.ofString "/claim/cut.py") 341, Value.int 104 0, Value.int 3 0, Value.int 0 0, Value.int 0 0, Value.int 3 0, Value.ref 120, Value.bool true, Value.int 181 0, Value.ref 121, Value.none, Value.ref 122, Value.ref 123, Value.ref 124, Value.int 352 0, Value.int 104 0, Value.str (Str.ofString "/claim/cut.py") 353] }),
  (126, { cls := Value.type "function", data := Data.func { name := Str.ofString "_law_program", qualname := Str.ofString "_law_program", params := fA "_law_program", body := FuncBody.stmts (fB "_law_program"), scope := fS "_law_program", globals := 3, closure := [], defaults := Value.none, kwdefaults := Value.none, pyModule := Value.str (Str.ofString "law_pq0792_01") 324, code := Value.ref 125 } }),
  (127, { cls := Value.type "tuple", data := Data.seq #[] }),
  (129, { cls := Value.type "tuple", data := Data.seq #[Value.str (Str.ofString "made") 358, Value.str (Str.ofString "born") 359, Value.str (Str.ofString "dies") 360, Value.str (Str.ofString "at") 361, Value.str (Str.ofString "op") 362, Value.str (Str.ofString "first") 363, Value.str (Str.ofString "left") 364, Value.str (Str.ofString "right") 365] }),
  (130, { cls := Value.type "tuple", data := Data.seq #[] }),
  (132, { cls := Value.type "code", data := Data.fields #[Value.str (Str.ofString "_law_lives") 355, Value.str (Str.ofString "_law_lives") 356, Value.str (Str.ofString "/claim/cut.py") 357, Value.int 126 0, Value.int 1 0, Value.int 0 0, Value.int 0 0, Value.int 3 0, Value.ref 127, Value.bool true, Value.int 181 0, Value.ref 128, Value.none, Value.ref 129, Value.ref 130, Value.ref 131, Value.int 366 0, Value.int 126 0, Value.str (Str.ofString "/claim/cut.py") 367] }),
  (133, { cls := Value.type "function", data := Data.func { name := Str.ofString "_law_lives", qualname := Str.ofString "_law_lives", params := fA "_law_lives", body := FuncBody.stmts (fB "_law_lives"), scope := fS "_law_lives", globals := 3, closure := [], defaults := Value.none, kwdefaults := Value.none, pyModule := Value.str (Str.ofString "law_pq0792_01") 324, code := Value.ref 132 } }),
  (134, { cls := Value.type "tuple", data := Data.seq #[] }),
  (136, { cls := Value.type "tuple", data := Data.seq #[Value.str (Str.ofString "born") 372, Value.str (Str.ofString "dies") 373, Value.str (Str.ofString "one") 374, Value.str (Str.ofString "two") 375] }),
  (137, { cls := Value.type "tuple", data := Data.seq #[] }),
  (139, { cls := Value.type "code", data := Data.fields #[Value.str (Str.ofString "_law_meet") 369, Value.str (Str.ofString "_law_meet") 370, Value.str (Str.ofString "/claim/cut.py") 371, Value.int 140 0, Value.int 4 0, Value.int 0 0, Value.int 0 0, Value.int 3 0, Value.ref 134, Value.bool true, Value.int 181 0, Value.ref 135, Value.none, Value.ref 136, Value.ref 137, Value.ref 138, Value.int 376 0, Value.int 140 0, Value.str (Str.ofString "/claim/cut.py") 377] }),
  (140, { cls := Value.type "function", data := Data.func { name := Str.ofString "_law_meet", qualname := Str.ofString "_law_meet", params := fA "_law_meet", body := FuncBody.stmts (fB "_law_meet"), scope := fS "_law_meet", globals := 3, closure := [], defaults := Value.none, kwdefaults := Value.none, pyModule := Value.str (Str.ofString "law_pq0792_01") 324, code := Value.ref 139 } }),
  (141, { cls := Value.type "tuple", data := Data.seq #[] }),
  (143, { cls := Value.type "tuple", data := Data.seq #[Value.str (Str.ofString "born") 382, Value.str (Str.ofString "dies") 383, Value.str (Str.ofString "one") 384, Value.str (Str.ofString "two") 385, Value.str (Str.ofString "v") 386, Value.str (Str.ofString "w") 387] }),
  (144, { cls := Value.type "tuple", data := Data.seq #[] }),
  (146, { cls := Value.type "code", data := Data.fields #[Value.str (Str.ofString "_law_clash") 379, Value.str (Str.ofString "_law_clash") 380, Value.str (Str.ofString "/claim/cut.py") 381, Value.int 144 0, Value.int 4 0, Value.int 0 0, Value.int 0 0, Value.int 3 0, Value.ref 141, Value.bool true, Value.int 181 0, Value.ref 142, Value.none, Value.ref 143, Value.ref 144, Value.ref 145, Value.int 388 0, Value.int 144 0, Value.str (Str.ofString "/claim/cut.py") 389] }),
  (147, { cls := Value.type "function", data := Data.func { name := Str.ofString "_law_clash", qualname := Str.ofString "_law_clash", params := fA "_law_clash", body := FuncBody.stmts (fB "_law_clash"), scope := fS "_law_clash", globals := 3, closure := [], defaults := Value.none, kwdefaults := Value.none, pyModule := Value.str (Str.ofString "law_pq0792_01") 324, code := Value.ref 146 } }),
  (148, { cls := Value.type "tuple", data := Data.seq #[] }),
  (151, { cls := Value.type "code", data := Data.fields #[Value.str (Str.ofString "_law_joined") 391, Value.str (Str.ofString "_law_joined") 392, Value.str (Str.ofString "/claim/cut.py") 393, Value.int 150 0, Value.int 3 0, Value.int 0 0, Value.int 0 0, Value.int 3 0, Value.ref 148, Value.bool true, Value.int 181 0, Value.ref 149, Value.none, Value.none, Value.none, Value.ref 150, Value.int 394 0, Value.int 150 0, Value.str (Str.ofString "/claim/cut.py") 395] }),
  (152, { cls := Value.type "function", data := Data.func { name := Str.ofString "_law_joined", qualname := Str.ofString "_law_joined", params := fA "_law_joined", body := FuncBody.stmts (fB "_law_joined"), scope := fS "_law_joined", globals := 3, closure := [], defaults := Value.none, kwdefaults := Value.none, pyModule := Value.str (Str.ofString "law_pq0792_01") 324, code := Value.ref 151 } }),
  (153, { cls := Value.type "tuple", data := Data.seq #[] }),
  (155, { cls := Value.type "tuple", data := Data.seq #[Value.str (Str.ofString "part") 400, Value.str (Str.ofString "made") 401, Value.str (Str.ofString "met_ones") 402, Value.str (Str.ofString "step") 403, Value.str (Str.ofString "entry") 404] }),
  (156, { cls := Value.type "tuple", data := Data.seq #[] }),
  (158, { cls := Value.type "code", data := Data.fields #[Value.str (Str.ofString "_law_hangs") 397, Value.str (Str.ofString "_law_hangs") 398, Value.str (Str.ofString "/claim/cut.py") 399, Value.int 164 0, Value.int 2 0, Value.int 0 0, Value.int 0 0, Value.int 3 0, Value.ref 153, Value.bool true, Value.int 181 0, Value.ref 154, Value.none, Value.ref 155, Value.ref 156, Value.ref 157, Value.int 405 0, Value.int 164 0, Value.str (Str.ofString "/claim/cut.py") 406] }),
  (159, { cls := Value.type "function", data := Data.func { name := Str.ofString "_law_hangs", qualname := Str.ofString "_law_hangs", params := fA "_law_hangs", body := FuncBody.stmts (fB "_law_hangs"), scope := fS "_law_hangs", globals := 3, closure := [], defaults := Value.none, kwdefaults := Value.none, pyModule := Value.str (Str.ofString "law_pq0792_01") 324, code := Value.ref 158 } }),
  (160, { cls := Value.type "tuple", data := Data.seq #[] }),
  (163, { cls := Value.type "code", data := Data.fields #[Value.str (Str.ofString "_law_graph_right") 408, Value.str (Str.ofString "_law_graph_right") 409, Value.str (Str.ofString "/claim/cut.py") 410, Value.int 172 0, Value.int 4 0, Value.int 0 0, Value.int 0 0, Value.int 3 0, Value.ref 160, Value.bool true, Value.int 181 0, Value.ref 161, Value.none, Value.none, Value.none, Value.ref 162, Value.int 411 0, Value.int 172 0, Value.str (Str.ofString "/claim/cut.py") 412] }),
  (164, { cls := Value.type "function", data := Data.func { name := Str.ofString "_law_graph_right", qualname := Str.ofString "_law_graph_right", params := fA "_law_graph_right", body := FuncBody.stmts (fB "_law_graph_right"), scope := fS "_law_graph_right", globals := 3, closure := [], defaults := Value.none, kwdefaults := Value.none, pyModule := Value.str (Str.ofString "law_pq0792_01") 324, code := Value.ref 163 } }),
  (165, { cls := Value.type "tuple", data := Data.seq #[] }),
  (168, { cls := Value.type "code", data := Data.fields #[Value.str (Str.ofString "_law_good") 414, Value.str (Str.ofString "_law_good") 415, Value.str (Str.ofString "/claim/cut.py") 416, Value.int 185 0, Value.int 2 0, Value.int 0 0, Value.int 0 0, Value.int 3 0, Value.ref 165, Value.bool true, Value.int 181 0, Value.ref 166, Value.none, Value.none, Value.none, Value.ref 167, Value.int 417 0, Value.int 185 0, Value.str (Str.ofString "/claim/cut.py") 418] }),
  (169, { cls := Value.type "function", data := Data.func { name := Str.ofString "_law_good", qualname := Str.ofString "_law_good", params := fA "_law_good", body := FuncBody.stmts (fB "_law_good"), scope := fS "_law_good", globals := 3, closure := [], defaults := Value.none, kwdefaults := Value.none, pyModule := Value.str (Str.ofString "law_pq0792_01") 324, code := Value.ref 168 } }),
  (170, { cls := Value.type "tuple", data := Data.seq #[] }),
  (172, { cls := Value.type "tuple", data := Data.seq #[Value.str (Str.ofString "script") 423, Value.str (Str.ofString "well") 424, Value.str (Str.ofString "made") 425, Value.str (Str.ofString "count") 426, Value.str (Str.ofString "fixed") 427] }),
  (173, { cls := Value.type "tuple", data := Data.seq #[] }),
  (175, { cls := Value.type "code", data := Data.fields #[Value.str (Str.ofString "law") 420, Value.str (Str.ofString "law") 421, Value.str (Str.ofString "/claim/cut.py") 422, Value.int 199 0, Value.int 1 0, Value.int 0 0, Value.int 0 0, Value.int 3 0, Value.ref 170, Value.bool true, Value.int 181 0, Value.ref 171, Value.none, Value.ref 172, Value.ref 173, Value.ref 174, Value.int 428 0, Value.int 199 0, Value.str (Str.ofString "/claim/cut.py") 429] }),
  (176, { cls := Value.type "function", data := Data.func { name := Str.ofString "law", qualname := Str.ofString "law", params := fA "law", body := FuncBody.stmts (fB "law"), scope := fS "law", globals := 3, closure := [], defaults := Value.none, kwdefaults := Value.none, pyModule := Value.str (Str.ofString "law_pq0792_01") 324, code := Value.ref 175 } })]

noncomputable def kAs : List Addr := [2, 3, 15, 17, 18, 20, 21, 22, 24, 25, 27, 28, 29, 31, 32, 34, 35, 36, 38, 39, 41, 42, 43, 45, 46, 48, 49, 57, 59, 60, 62, 63, 64, 66, 67, 69, 70, 71, 73, 74, 76, 77, 78, 80, 81, 83, 84, 85, 86, 87, 88, 89, 92, 94, 95, 97, 98, 99, 101, 102, 104, 105, 106, 108, 109, 111, 112, 113, 115, 116, 118, 119, 120, 122, 123, 125, 126, 127, 129, 130, 132, 133, 134, 136, 137, 139, 140, 141, 143, 144, 146, 147, 148, 151, 152, 153, 155, 156, 158, 159, 160, 163, 164, 165, 168, 169, 170, 172, 173, 175, 176]
theorem kAs_ok : ∀ P, kAs = (kF P).map (·.1) := fun zz => by kernel_rfl
noncomputable abbrev kH : Hook := kHook kF kAs kAs_ok

noncomputable def isDefS : Stmt → Bool
  | .FunctionDef .. => true
  | .ClassDef .. => true
  | _ => false
noncomputable def view : Program := { pw with main := { pw.main with body := pw.main.body.filter isDefS } }
noncomputable def lawD : DefRec := match defOf view (Str.ofString "law") with
  | some x => x.1
  | _ => ⟨Str.ofString "law", fA "law", fB "law", fS "law", ⟨0, 0, 0, 0⟩⟩
noncomputable abbrev lawR : RowW := PySem.Challenge.rw_pq0792_01.row.toRowW

theorem left_ok : LeftO lawR.prog view [] (fun s => xlAt view [] s && recOk (RowW.records lawR) s) (Hook.obs kH) (Hook.val kH) 1966 := fun w => by kernel_rfl
theorem lawD_ok : defOf view (Str.ofString "law") = some (lawD, []) := by kernel_rfl

theorem head_ok (walk : WalkO view [] (XL view []) kH.says lawR lawD [] fun f vs => call f vs) : PySem.Challenge.rw_pq0792_01.Holds := by
  refine holds_law (by kernel_rfl) fun said => ?_
  refine holds_open (q := view) (loose := []) (Xt := fun s => xlAt view [] s && recOk (RowW.records lawR) s) (XP := XL view []) (Yf := Hook.obs kH) (Ya := Hook.val kH) (YP := Hook.says kH) (N := 1966) left_ok (Hook.of kH) (Hook.keeps kH)
    (fun s e => xl_of s (Bool.and_eq_true_iff.mp e).1) XL.keeps lawD_ok (by kernel_rfl) (by kernel_rfl) (fun s e => recFacts_of (Bool.and_eq_true_iff.mp e).2) (by rfl) (by first | assumption | decide +kernel) (by decide +kernel) ⟨rfl, rfl, rfl, rfl, rfl, by decide +kernel⟩ ?hw walk
  case hw => w_witness2
end

set_option maxRecDepth 100000
section
open PySem PySem.W PyProof.Rows

noncomputable def gd (f : String) : Fd := ⟨(fA f).args.map (·.arg), fS f, fB f⟩
noncomputable def mkFD (n f m : String) (t : Tok) (c : Addr) : FuncData := { name := Str.ofString n, qualname := Str.ofString f, params := fA f, body := FuncBody.stmts (fB f), scope := fS f, globals := 3, closure := [], defaults := Value.none, kwdefaults := Value.none, pyModule := Value.str (Str.ofString m) t, code := Value.ref c }
noncomputable def getF (K : Frag) (a : Addr) : Option FuncData := match K.lookup a with
  | some ⟨_, _, .func fd, _⟩ => some fd
  | _ => none
theorem getF_some {K : Frag} {a : Addr} {fd : FuncData} (h : getF K a = some fd) : ∃ ob, K.lookup a = some ob ∧ ob.data = .func fd := by
  unfold getF at h
  split at h
  · rename_i e; cases h; exact ⟨_, e, rfl⟩
  · cases h
noncomputable def scChk (g : Fd) : Bool := g.scope.kind == .function && !g.scope.isCoroutine && !g.scope.isGenerator && decide ((g.scope.names.map (·.1)).Nodup) && g.scope.names.all (fun x => !(x.2 == .free)) &&
  g.params.all (fun x => g.scope.names.lookup x == some .local || g.scope.names.lookup x == some .cell) && decide g.params.Nodup
theorem scChk_ok {g : Fd} (h : scChk g = true) : ScOk g := by
  unfold scChk at h
  simp only [Bool.and_eq_true, Bool.not_eq_true', beq_iff_eq, decide_eq_true_eq, List.all_eq_true, Bool.or_eq_true] at h
  (revert h; refine ae2 fun zq1 h7 => ?_; revert zq1; refine ae2 fun zq2 h6 => ?_; revert zq2; refine ae2 fun zq3 h5 => ?_; revert zq3; refine ae2 fun zq4 h4 => ?_; revert zq4; refine ae2 fun zq5 h3 => ?_; revert zq5; refine ae2 fun h1 h2 => ?_)
  exact ⟨h1, h2, h3, h4, fun x hx => by have := h5 x hx; simpa using this, h6, h7⟩

noncomputable def fnN : List (Str × Value) := [(Str.ofString "two_operand_names", .ref 21), (Str.ofString "defined", .ref 28), (Str.ofString "used", .ref 35), (Str.ofString "spans", .ref 42), (Str.ofString "overlap", .ref 49), (Str.ofString "interference", .ref 98), (Str.ofString "heavy_neighbours", .ref 105), (Str.ofString "coalesce", .ref 112), (Str.ofString "_law_pull", .ref 119), (Str.ofString "_law_program", .ref 126), (Str.ofString "_law_lives", .ref 133), (Str.ofString "_law_meet", .ref 140), (Str.ofString "_law_clash", .ref 147), (Str.ofString "_law_joined", .ref 152), (Str.ofString "_law_hangs", .ref 159), (Str.ofString "_law_graph_right", .ref 164), (Str.ofString "_law_good", .ref 169), (Str.ofString "Graph", .ref 87)] ++ bnames
noncomputable def fmN : List (Str × Value) := [(Str.ofString "Graph.add", .ref 70), (Str.ofString "Graph.join_nodes", .ref 77), (Str.ofString "Graph.holder", .ref 84)]
noncomputable def fsN : List Str := fnN.map (·.1)
noncomputable def ckF (f : String) : Bool := scChk (gd f) && okSs fsN (gd f).body (gd f).scope.names

section
variable {vals : List Value}
theorem vals0 (h : 0 = vals.length) : vals = [] := by cases vals with | nil => rfl | cons _ _ => cases h
theorem vals1 (h : 1 = vals.length) : ∃ a, vals = [a] := by
  rcases vals with _ | ⟨a, _ | ⟨b, r⟩⟩ <;> first | exact ⟨_, rfl⟩ | simp at h
theorem vals2 (h : 2 = vals.length) : ∃ a b, vals = [a, b] := by
  rcases vals with _ | ⟨a, _ | ⟨b, _ | ⟨c, r⟩⟩⟩ <;> first | exact ⟨_, _, rfl⟩ | simp at h
theorem vals3 (h : 3 = vals.length) : ∃ a b c, vals = [a, b, c] := by
  rcases vals with _ | ⟨a, _ | ⟨b, _ | ⟨c, _ | ⟨d, r⟩⟩⟩⟩ <;> first | exact ⟨_, _, _, rfl⟩ | simp at h
theorem vals4 (h : 4 = vals.length) : ∃ a b c d, vals = [a, b, c, d] := by
  rcases vals with _ | ⟨a, _ | ⟨b, _ | ⟨c, _ | ⟨d, _ | ⟨e, r⟩⟩⟩⟩⟩ <;> first | exact ⟨_, _, _, _, rfl⟩ | simp at h
end
theorem fun_at {K : Frag} {f n m : String} {t : Tok} {a c : Addr} (h1 : FT pw (Str.ofString f) = some (gd f)) (h2 : ckF f = true) (h3 : getF K a = some (mkFD n f m t c)) (h4 : codeIn K (.ref c) (Str.ofString f) = true)
    (h5 : ∀ vals : List Value, (gd f).params.length = vals.length → bindArgs (mkFD n f m t c) ⟨vals, []⟩ = pure ((gd f).params.zip vals)) : FunAt pw K fsN (Str.ofString f) a := by
  (refine ae2 (fun k1 k2 => ?_) (and2 h2))
  (refine xe1 (fun ob zq1 => ?_) (getF_some h3); revert zq1; refine ae2 fun e1 e2 => ?_)
  exact ⟨gd f, h1, ⟨scChk_ok k1, ob, _, e1, e2, rfl, rfl, rfl, rfl, rfl, h4, h5⟩, k2⟩
section
variable (P : Params)

theorem at_two_operand_names : FunAt pw (kF P) fsN (Str.ofString "two_operand_names") 21 :=
  fun_at (n := "two_operand_names") (m := "moduleyard.vcode") (t := 187) (c := 20) (by kernel_rfl) (by kernel_rfl) (by kernel_rfl) (by kernel_rfl) (fun vals h => by
    have := vals0 (h : 0 = vals.length)
    subst this
    kernel_rfl)
theorem at_defined : FunAt pw (kF P) fsN (Str.ofString "defined") 28 :=
  fun_at (n := "defined") (m := "moduleyard.vcode") (t := 187) (c := 27) (by kernel_rfl) (by kernel_rfl) (by kernel_rfl) (by kernel_rfl) (fun vals h => by
    (refine xe1 (fun a zq1 => ?_) (vals1 (h : 1 = vals.length)); subst zq1)
    kernel_rfl)
theorem at_used : FunAt pw (kF P) fsN (Str.ofString "used") 35 :=
  fun_at (n := "used") (m := "moduleyard.vcode") (t := 187) (c := 34) (by kernel_rfl) (by kernel_rfl) (by kernel_rfl) (by kernel_rfl) (fun vals h => by
    (refine xe1 (fun a zq1 => ?_) (vals1 (h : 1 = vals.length)); subst zq1)
    kernel_rfl)
theorem at_spans : FunAt pw (kF P) fsN (Str.ofString "spans") 42 :=
  fun_at (n := "spans") (m := "moduleyard.vcode") (t := 187) (c := 41) (by kernel_rfl) (by kernel_rfl) (by kernel_rfl) (by kernel_rfl) (fun vals h => by
    (refine xe1 (fun a zq1 => ?_) (vals1 (h : 1 = vals.length)); subst zq1)
    kernel_rfl)
theorem at_overlap : FunAt pw (kF P) fsN (Str.ofString "overlap") 49 :=
  fun_at (n := "overlap") (m := "moduleyard.vcode") (t := 187) (c := 48) (by kernel_rfl) (by kernel_rfl) (by kernel_rfl) (by kernel_rfl) (fun vals h => by
    (refine xe2 (fun a b zq1 => ?_) (vals2 (h : 2 = vals.length)); subst zq1)
    kernel_rfl)
theorem at_Graph_init : FunAt pw (kF P) fsN (Str.ofString "Graph.__init__") 63 :=
  fun_at (n := "__init__") (m := "moduleyard.colour") (t := 227) (c := 62) (by kernel_rfl) (by kernel_rfl) (by kernel_rfl) (by kernel_rfl) (fun vals h => by
    (refine xe1 (fun a zq1 => ?_) (vals1 (h : 1 = vals.length)); subst zq1)
    kernel_rfl)
theorem at_Graph_add : FunAt pw (kF P) fsN (Str.ofString "Graph.add") 70 :=
  fun_at (n := "add") (m := "moduleyard.colour") (t := 227) (c := 69) (by kernel_rfl) (by kernel_rfl) (by kernel_rfl) (by kernel_rfl) (fun vals h => by
    (refine xe2 (fun a b zq1 => ?_) (vals2 (h : 2 = vals.length)); subst zq1)
    kernel_rfl)
theorem at_Graph_join_nodes : FunAt pw (kF P) fsN (Str.ofString "Graph.join_nodes") 77 :=
  fun_at (n := "join_nodes") (m := "moduleyard.colour") (t := 227) (c := 76) (by kernel_rfl) (by kernel_rfl) (by kernel_rfl) (by kernel_rfl) (fun vals h => by
    (refine xe3 (fun a b c zq1 => ?_) (vals3 (h : 3 = vals.length)); subst zq1)
    kernel_rfl)
theorem at_Graph_holder : FunAt pw (kF P) fsN (Str.ofString "Graph.holder") 84 :=
  fun_at (n := "holder") (m := "moduleyard.colour") (t := 227) (c := 83) (by kernel_rfl) (by kernel_rfl) (by kernel_rfl) (by kernel_rfl) (fun vals h => by
    (refine xe2 (fun a b zq1 => ?_) (vals2 (h : 2 = vals.length)); subst zq1)
    kernel_rfl)
theorem at_interference : FunAt pw (kF P) fsN (Str.ofString "interference") 98 :=
  fun_at (n := "interference") (m := "moduleyard.colour") (t := 227) (c := 97) (by kernel_rfl) (by kernel_rfl) (by kernel_rfl) (by kernel_rfl) (fun vals h => by
    (refine xe1 (fun a zq1 => ?_) (vals1 (h : 1 = vals.length)); subst zq1)
    kernel_rfl)
theorem at_heavy_neighbours : FunAt pw (kF P) fsN (Str.ofString "heavy_neighbours") 105 :=
  fun_at (n := "heavy_neighbours") (m := "moduleyard.colour") (t := 227) (c := 104) (by kernel_rfl) (by kernel_rfl) (by kernel_rfl) (by kernel_rfl) (fun vals h => by
    (refine xe4 (fun a b c d zq1 => ?_) (vals4 (h : 4 = vals.length)); subst zq1)
    kernel_rfl)
theorem at_coalesce : FunAt pw (kF P) fsN (Str.ofString "coalesce") 112 :=
  fun_at (n := "coalesce") (m := "moduleyard.colour") (t := 227) (c := 111) (by kernel_rfl) (by kernel_rfl) (by kernel_rfl) (by kernel_rfl) (fun vals h => by
    (refine xe3 (fun a b c zq1 => ?_) (vals3 (h : 3 = vals.length)); subst zq1)
    kernel_rfl)
theorem at_law_pull : FunAt pw (kF P) fsN (Str.ofString "_law_pull") 119 :=
  fun_at (n := "_law_pull") (m := "law_pq0792_01") (t := 324) (c := 118) (by kernel_rfl) (by kernel_rfl) (by kernel_rfl) (by kernel_rfl) (fun vals h => by
    (refine xe2 (fun a b zq1 => ?_) (vals2 (h : 2 = vals.length)); subst zq1)
    kernel_rfl)
theorem at_law_program : FunAt pw (kF P) fsN (Str.ofString "_law_program") 126 :=
  fun_at (n := "_law_program") (m := "law_pq0792_01") (t := 324) (c := 125) (by kernel_rfl) (by kernel_rfl) (by kernel_rfl) (by kernel_rfl) (fun vals h => by
    (refine xe3 (fun a b c zq1 => ?_) (vals3 (h : 3 = vals.length)); subst zq1)
    kernel_rfl)
theorem at_law_lives : FunAt pw (kF P) fsN (Str.ofString "_law_lives") 133 :=
  fun_at (n := "_law_lives") (m := "law_pq0792_01") (t := 324) (c := 132) (by kernel_rfl) (by kernel_rfl) (by kernel_rfl) (by kernel_rfl) (fun vals h => by
    (refine xe1 (fun a zq1 => ?_) (vals1 (h : 1 = vals.length)); subst zq1)
    kernel_rfl)
theorem at_law_meet : FunAt pw (kF P) fsN (Str.ofString "_law_meet") 140 :=
  fun_at (n := "_law_meet") (m := "law_pq0792_01") (t := 324) (c := 139) (by kernel_rfl) (by kernel_rfl) (by kernel_rfl) (by kernel_rfl) (fun vals h => by
    (refine xe4 (fun a b c d zq1 => ?_) (vals4 (h : 4 = vals.length)); subst zq1)
    kernel_rfl)
theorem at_law_clash : FunAt pw (kF P) fsN (Str.ofString "_law_clash") 147 :=
  fun_at (n := "_law_clash") (m := "law_pq0792_01") (t := 324) (c := 146) (by kernel_rfl) (by kernel_rfl) (by kernel_rfl) (by kernel_rfl) (fun vals h => by
    (refine xe4 (fun a b c d zq1 => ?_) (vals4 (h : 4 = vals.length)); subst zq1)
    kernel_rfl)
theorem at_law_joined : FunAt pw (kF P) fsN (Str.ofString "_law_joined") 152 :=
  fun_at (n := "_law_joined") (m := "law_pq0792_01") (t := 324) (c := 151) (by kernel_rfl) (by kernel_rfl) (by kernel_rfl) (by kernel_rfl) (fun vals h => by
    (refine xe3 (fun a b c zq1 => ?_) (vals3 (h : 3 = vals.length)); subst zq1)
    kernel_rfl)
theorem at_law_hangs : FunAt pw (kF P) fsN (Str.ofString "_law_hangs") 159 :=
  fun_at (n := "_law_hangs") (m := "law_pq0792_01") (t := 324) (c := 158) (by kernel_rfl) (by kernel_rfl) (by kernel_rfl) (by kernel_rfl) (fun vals h => by
    (refine xe2 (fun a b zq1 => ?_) (vals2 (h : 2 = vals.length)); subst zq1)
    kernel_rfl)
theorem at_law_graph_right : FunAt pw (kF P) fsN (Str.ofString "_law_graph_right") 164 :=
  fun_at (n := "_law_graph_right") (m := "law_pq0792_01") (t := 324) (c := 163) (by kernel_rfl) (by kernel_rfl) (by kernel_rfl) (by kernel_rfl) (fun vals h => by
    (refine xe4 (fun a b c d zq1 => ?_) (vals4 (h : 4 = vals.length)); subst zq1)
    kernel_rfl)
theorem at_law_good : FunAt pw (kF P) fsN (Str.ofString "_law_good") 169 :=
  fun_at (n := "_law_good") (m := "law_pq0792_01") (t := 324) (c := 168) (by kernel_rfl) (by kernel_rfl) (by kernel_rfl) (by kernel_rfl) (fun vals h => by
    (refine xe2 (fun a b zq1 => ?_) (vals2 (h : 2 = vals.length)); subst zq1)
    kernel_rfl)
theorem at_law : FunAt pw (kF P) fsN (Str.ofString "law") 176 :=
  fun_at (n := "law") (m := "law_pq0792_01") (t := 324) (c := 175) (by kernel_rfl) (by kernel_rfl) (by kernel_rfl) (by kernel_rfl) (fun vals h => by
    (refine xe1 (fun a zq1 => ?_) (vals1 (h : 1 = vals.length)); subst zq1)
    kernel_rfl)

theorem cls_ok : Cls (kF P) 87 where
  ga := by kernel_rfl
  sa := by kernel_rfl
  near := by kernel_rfl
  mem := by kernel_rfl
  cd := ⟨_, rfl, rfl⟩
  over := by kernel_rfl
  tnear := by kernel_rfl
  tmem := by kernel_rfl


theorem lookup_cases {α : Type} : ∀ {l : List (Str × α)} {x : Str} {v : α}, l.lookup x = some v → (x, v) ∈ l := fun h => mem_of_lookup h

theorem keeps_frame {K : Frag} {a : Addr} (e : keepIn K (.ref a) = true) (prog : Program) (w : World) (h : Heap) (X : K.In h) : ∃ k, (k = Keeper.frame ∨ k = Keeper.machine ∨ k = Keeper.boundFrame) ∧ Looks (model prog w) h (keeperOf (.ref a)) k :=
  keeps_K e h X

end
end

set_option maxRecDepth 100000
section
open PySem PySem.W PyProof.Rows

/- the abstract run of the law's body gives True -/
def LawOk (is : List Int) : Prop := ∃ m' h', execsA (callA pw 11) (fB "law") (fun x => [(Str.ofString "script", V.ref 0)].lookup x) [.ro (is.map .int)] = some ((.ret (.bool true), m'), h')

theorem lookup_mem_keys {α : Type} : ∀ {l : List (Str × α)} {x : Str}, (l.map (·.1)).contains x = true → ∃ v, l.lookup x = some v
  | [], _, h => by cases h
  | (k, v) :: r, x, h => by
    rw [List.lookup_cons]
    cases e : x == k with
    | true => exact ⟨v, rfl⟩
    | false =>
      rw [List.map_cons, List.contains_cons, e, Bool.false_or] at h
      exact lookup_mem_keys h

noncomputable def glChk (K : Frag) (p : Str × Value) : Bool := nsIn K mainGlobals p.1 == some (some p.2) || (nsIn K mainGlobals p.1 == some none && bootBuiltins p.1 == some p.2 && !(p.1 == Str.ofString "__name__"))
noncomputable def isBuiltinV : Value → Bool
  | .builtin _ => true
  | .type _ => true
  | _ => false
section
variable (P : Params)
theorem gl_ok : fnN.all (glChk (kF P)) = true := by kernel_rfl
theorem kp_ok : fnN.all (fun p => isBuiltinV p.2 || keepIn (kF P) p.2) = true := by kernel_rfl
theorem fn_ok : ∀ p ∈ fnN, (p.1 = sGraph ∧ p.2 = .ref 87) ∨ (p.1 ≠ sGraph ∧ ∃ a, p.2 = .ref a ∧ FunAt pw (kF P) fsN p.1 a) ∨ (p.1 ≠ sGraph ∧ FT pw p.1 = none ∧ p ∈ bnames) := by
  intro p hp
  unfold fnN at hp
  rcases List.mem_append.mp hp with hp | hp
  · have f : ∀ {n : String} {a : Addr}, (Str.ofString n == sGraph) = false → FunAt pw (kF P) fsN (Str.ofString n) a → ((Str.ofString n, Value.ref a).1 = sGraph ∧ (Str.ofString n, Value.ref a).2 = .ref 87) ∨
        ((Str.ofString n, Value.ref a).1 ≠ sGraph ∧ ∃ b, (Str.ofString n, Value.ref a).2 = .ref b ∧ FunAt pw (kF P) fsN (Str.ofString n, Value.ref a).1 b) ∨
        ((Str.ofString n, Value.ref a).1 ≠ sGraph ∧ FT pw (Str.ofString n, Value.ref a).1 = none ∧ (Str.ofString n, Value.ref a) ∈ bnames) := fun h k => .inr (.inl ⟨beq_eq_false_iff_ne.mp h, _, rfl, k⟩)
    simp only [List.mem_cons, List.not_mem_nil, or_false] at hp
    rcases hp with rfl | rfl | rfl | rfl | rfl | rfl | rfl | rfl | rfl | rfl | rfl | rfl | rfl | rfl | rfl | rfl | rfl | rfl
    · exact f (by decide) (at_two_operand_names P)
    · exact f (by decide) (at_defined P)
    · exact f (by decide) (at_used P)
    · exact f (by decide) (at_spans P)
    · exact f (by decide) (at_overlap P)
    · exact f (by decide) (at_interference P)
    · exact f (by decide) (at_heavy_neighbours P)
    · exact f (by decide) (at_coalesce P)
    · exact f (by decide) (at_law_pull P)
    · exact f (by decide) (at_law_program P)
    · exact f (by decide) (at_law_lives P)
    · exact f (by decide) (at_law_meet P)
    · exact f (by decide) (at_law_clash P)
    · exact f (by decide) (at_law_joined P)
    · exact f (by decide) (at_law_hangs P)
    · exact f (by decide) (at_law_graph_right P)
    · exact f (by decide) (at_law_good P)
    · exact .inl ⟨rfl, rfl⟩
  · have b : bnames.all (fun p => !(p.1 == sGraph) && (FT pw p.1).isNone) = true := by kernel_rfl
    have := List.all_eq_true.mp b p hp
    (refine ae2 (fun b1 b2 => ?_) (and2 this))
    exact .inr (.inr ⟨by simpa using b1, by simpa using b2, hp⟩)
theorem fm_ok : ∀ p ∈ fmN, p.1 ≠ sGraph ∧ ∃ a, p.2 = .ref a ∧ FunAt pw (kF P) fsN p.1 a := by
  intro p hp
  unfold fmN at hp
  simp only [List.mem_cons, List.not_mem_nil, or_false] at hp
  rcases hp with rfl | rfl | rfl
  · exact ⟨by decide, _, rfl, at_Graph_add P⟩
  · exact ⟨by decide, _, rfl, at_Graph_join_nodes P⟩
  · exact ⟨by decide, _, rfl, at_Graph_holder P⟩
theorem meth_ok : ∀ x f, methN x = some f → x ≠ sNear ∧ x ≠ sMembers ∧ ∃ a, fmN.lookup f = some (.ref a) ∧ findIn (kF P) (.ref 87) x = some (some (.ref a)) ∧ typeIn (kF P) (.ref a) = some (.type "function") ∧ keepIn (kF P) (.ref a) = true := by
  intro x f h
  unfold methN at h
  split at h
  · rename_i e; subst e; cases h; exact ⟨by decide, by decide, 70, by kernel_rfl, by kernel_rfl, by kernel_rfl, by kernel_rfl⟩
  split at h
  · rename_i e; subst e; cases h; exact ⟨by decide, by decide, 77, by kernel_rfl, by kernel_rfl, by kernel_rfl, by kernel_rfl⟩
  split at h
  · rename_i e; subst e; cases h; exact ⟨by decide, by decide, 84, by kernel_rfl, by kernel_rfl, by kernel_rfl, by kernel_rfl⟩
  · cases h

theorem px {h₀ : Heap} {mg mb : Str → Option Value} (X : (kF P).In h₀) (nl : h₀.NoLimit) (hg : h₀.Ns mainGlobals mg) (hb : h₀.Ns builtinsNs mb) (hbi : ∀ x : Str, x ≠ "__name__" → mb x = bootBuiltins x) : Px pw (kF P) 87 h₀ fsN fnN fmN where
  X := X
  nl := nl
  two := by
    have : ((kF P).lookup 3).isSome = true := by kernel_rfl
    (refine xe1 (fun o e => ?_) (Option.isSome_iff_exists.mp this))
    exact Nat.lt_trans (by decide : 1 < 3) (Heap.lt_size (X _ _ e))
  cls := cls_ok P
  gat := by kernel_rfl
  names := fun f h => lookup_mem_keys h
  glob := ⟨mg, mb, hg, hb, fun f rf h => by
    have := List.all_eq_true.mp (gl_ok P) _ (mem_of_lookup h)
    unfold glChk at this
    rcases Bool.or_eq_true_iff.mp this with h | h
    · exact .inl (mg_of X hg (beq_iff_eq.mp h))
    · (refine ae2 (fun h h3 => ?_) (and2 h))
      (refine ae2 (fun h1 h2 => ?_) (and2 h))
      refine .inr ⟨mg_none_of X hg (beq_iff_eq.mp h1), ?_⟩
      rw [hbi f (by simpa using h3)]
      exact beq_iff_eq.mp h2⟩
  keep := fun f rf h prog w hp X => by
    have := List.all_eq_true.mp (kp_ok P) _ (mem_of_lookup h)
    rcases Bool.or_eq_true_iff.mp this with h | h
    · dsimp only at h
      cases rf with
      | builtin id => exact ⟨.machine, .inr (.inl rfl), Looks.now⟩
      | type id => exact ⟨.machine, .inr (.inl rfl), Looks.now⟩
      | _ => cases h
    · exact keeps_K h hp X
  meth := meth_ok P
  range := by kernel_rfl
  fns := fun f rf h => fn_ok P _ (mem_of_lookup h)
  fms := fun f rf h => fm_ok P _ (mem_of_lookup h)
  init := ⟨by decide, 63, at_Graph_init P, by kernel_rfl, by kernel_rfl⟩
  makes := by kernel_rfl
end

theorem law_sc : ((fS "law").names.all fun p => !(p.2 == .cell) && !(p.2 == .free)) = true := by kernel_rfl
theorem law_kind : (fS "law").kind = .function := by kernel_rfl

theorem ints_vrs' {φ : List Addr} {is : List Int} {vs : List Value} (h : IntsAre vs is) : VRs φ (is.map .int) vs := ints_vrs h

theorem law_walk {prog : Program} {w : World} {h₀ h1 : Heap} {mg mb : Str → Option Value} {sa L a : Addr} {vs : List Value} {is : List Int} {name : Str} {cd : Value} {A : Around} {E : Value → Shared → Prop} {g : Array GenState} {d : Drawn} {t : Nat} {os : OsState} {m0 : Str → Option Value}
    (X : (kF w.params).In h₀) (nl : h₀.NoLimit) (hg : h₀.Ns mainGlobals mg) (hb : h₀.Ns builtinsNs mb) (hbi : ∀ x : Str, x ≠ "__name__" → mb x = bootBuiltins x) (hl : h₀.IsList sa (List.toArray vs)) (hi : IntsAre vs is)
    (F : Fr h₀ L h1 m0) (hm : m0 = fun x => [(Str.ofString "script", Value.ref sa)].lookup x) (hA : Bd A 11) (ok : LawOk is) :
    wpAny (model prog w) A (execs (fB "law") (envOf name (fS "law") L a cd)) (fun f s' => ∃ h2 tk m, s' = ⟨h2, g, d, tk, os⟩ ∧ f = .ret (.bool true) ∧ Fr h₀ L h2 m) E ⟨h1, g, d, t, os⟩ := by
  subst hm
  (revert ok; refine xe2 fun m' h' ok => ?_)
  (revert hl; refine xe1 fun o zq1 => ?_; revert zq1; refine ae3 fun ho hc zq2 => ?_; revert zq2; refine xe1 fun n hd => ?_)
  have hlt := Heap.lt_size ho
  have P := px w.params X nl hg hb hbi
  have R : Rel 87 h₀ [sa] [.ro (is.map .int)] h1 := by
    refine ⟨rfl, by simp, fun i ob e => ?_, F.keep, fun i b e => ?_⟩
    · cases i with
      | zero => cases e; exact ⟨sa, o, rfl, F.keep _ _ ho, hc, vs, n, hd, ints_vrs' hi⟩
      | succ i => simp at e
    · cases i with
      | zero => exact .inl ⟨_, rfl⟩
      | succ i => simp at e
  have en : EnvOk h₀ (envOf name (fS "law") L a cd) (fun x => [(Str.ofString "script", V.ref 0)].lookup x) [sa] h1 := by
    refine ⟨law_kind, rfl, rfl, ⟨_, F.ns, fun x zz v hv => ?_⟩, fun x hx => ?_, ⟨?_, F.above⟩, fun x c h => (nomatch h), fun x y c h => ?_⟩
    · rw [List.lookup_cons] at hv ⊢
      cases e : x == Str.ofString "script" with
      | true => rw [e] at hv; cases hv; exact ⟨_, rfl, .ref 0 sa rfl⟩
      | false => rw [e] at hv; cases hv
    · exfalso
      have : ∃ k, (x, k) ∈ (fS "law").names ∧ (k = .cell ∨ k = .free) := by
        rcases hx with q | q
        · exact ⟨_, mem_of_lookup q, .inl rfl⟩
        · exact ⟨_, mem_of_lookup q, .inr rfl⟩
      (revert this; refine xe1 fun k zq1 => ?_; revert zq1; refine ae2 fun h1 h2 => ?_)
      have := List.all_eq_true.mp law_sc _ h1
      rcases h2 with rfl | rfl <;> cases this
    · intro q
      rw [List.mem_singleton] at q
      have := F.above
      rw [show L = sa from q] at this
      exact absurd hlt (Nat.not_lt.mpr this)
    · cases h
  refine wpAny_mono (execs_ok (P.cx (call_ok P 11)) P.range (fB "law") (envOf name (fS "law") L a cd) _ m' A E ⟨h1, g, d, t, os⟩ [sa] _ h' _ ?_ hA R en ok) (fun f s' q => ?_) fun zz zz e => e
  · have : ckF "law" = true := by kernel_rfl
    exact (and2 this).2
  · (revert q; refine xe3 fun φ' g' tk zq1 => ?_; revert zq1; refine ae2 fun zq2 zq3 => ?_; subst zq2; revert zq3; refine ae4 fun st R' en' fr => ?_)
    cases fr with
    | ret h =>
    cases h
    obtain ⟨rm, hn, _⟩ := en'.loc
    exact ⟨g', tk, rm, rfl, rfl, hn, R'.keep, F.above⟩

theorem bd_law (name : Str) (L a : Addr) (cd : Value) : Bd (callerA.deeper (envOf name (fS "law") L a cd)) 11 := by
  refine ⟨rfl, ?_, ?_⟩
  · show 1 + claimMargin + 1 + 10 * 11 < 900; decide
  · show 4 + 3 + 50 * 11 + 200 < cLine; decide

theorem lawD_eq : lawD.body = fB "law" ∧ lawD.scope = fS "law" := ⟨by kernel_rfl, by kernel_rfl⟩

local macro_rules | `(tactic| k_qdec) => `(tactic| decide +kernel)
set_option maxHeartbeats 8000000 in
set_option tactic.hygienic true in
theorem law_of (ok : ∀ is : List Int, is.length ≤ 63 → LawOk is) : PySem.Challenge.rw_pq0792_01.Holds := head_ok (by
  k_go0
  rename_i w s0 s1 mg mb G Y fa o pm doc kV ho hgens KX X V GL T B TE TW u9 u8 M cda u6 hcd is hs hlay0 hL1 hr1 hl2 u4 u3 sa vs u0 hL ra w1 r0 hI hr hc1 hc2 K0 hD h1 F N0
  obtain ⟨e1, e2⟩ := lawD_eq
  rw [e1, e2]
  refine wpAny_mono (law_walk (name := lawD.name) (mg := mg) (mb := mb) KX T.nolimit T.g T.b T.builtins hL hI F rfl (bd_law _ _ _ _) (ok is (by omega))) (fun f s' q => ?_) fun zz zz e => e
  (revert q; refine xe3 fun h2 tk m zq1 => ?_; revert zq1; refine ae2 fun zq2 zq3 => ?_; subst zq2; revert zq3; refine ae2 fun zq4 F2 => ?_; subst zq4)
  exact goodW_bool (L := s1.heap.objs.size) F2 hgens (by intro cls; rfl) (by wrow_post))
end

set_option maxRecDepth 100000
section
open PySem

/- the run ends and Q holds of its end -/
noncomputable def W {α : Type} (x : M α) (h : H) (Q : α → H → Prop) : Prop := ∃ a h', x h = some (a, h') ∧ Q a h'
noncomputable def Keep (h h' : H) : Prop := ∀ (a : Nat) (o : O), h[a]? = some o → h'[a]? = some o
/- one object is another one now -/
noncomputable def Upd (a : Nat) (o : O) (h h' : H) : Prop := h'[a]? = some o ∧ ∀ b, b ≠ a → h'[b]? = h[b]?

theorem Keep.refl (h : H) : Keep h h := fun zz zz e => e
theorem Keep.trans {h h1 h2 : H} (a : Keep h h1) (b : Keep h1 h2) : Keep h h2 := fun x o e => b x o (a x o e)
theorem Keep.dead {h h1 : H} (k : Keep h h1) {c : Nat} (e : h1[c]? = none) : h[c]? = none := by
  cases q : h[c]? with
  | none => rfl
  | some o => rw [k c o q] at e; cases e
theorem Keep.upd {h h1 h2 : H} (k : Keep h h1) {c : Nat} {o : O} (u : Upd c o h1 h2) (e : h[c]? = none) : Keep h h2 := fun x p q => by
  by_cases hx : x = c
  · subst hx; rw [e] at q; cases q
  · rw [u.2 x hx]; exact k x p q
theorem ne_of_new {h : H} {a c : Nat} {o : O} (e : h[a]? = some o) (n : h[c]? = none) : a ≠ c := fun q => by rw [q, n] at e; cases e
theorem Upd.other {h h1 : H} {a c : Nat} {o p : O} (u : Upd c p h h1) (e : h[a]? = some o) (n : a ≠ c) : h1[a]? = some o := by rw [u.2 a n]; exact e
theorem Upd.dead {h h1 : H} {a c : Nat} {p : O} (u : Upd c p h h1) (e : h1[a]? = none) : h[a]? = none := by
  by_cases q : a = c
  · rw [q, u.1] at e; cases e
  · rw [← u.2 a q]; exact e

section
variable {α β : Type} {h : H} {Q : α → H → Prop}
theorem W_pure {a : α} (q : Q a h) : W (pure a) h Q := ⟨a, h, rfl, q⟩
theorem W_bind {x : M β} {f : β → M α} (w : W x h fun a h1 => W (f a) h1 Q) : W (x >>= f) h Q := by
  (revert w; refine xe2 fun a h1 zq1 => ?_; revert zq1; refine ae2 fun e zq2 => ?_; revert zq2; refine xe2 fun b h2 zq3 => ?_; revert zq3; refine ae2 fun e2 q => ?_)
  refine ⟨b, h2, ?_, q⟩
  show (x h).bind (fun p => f p.1 p.2) = _
  rw [e]; exact e2
theorem W_mono {x : M α} {P : α → H → Prop} (w : W x h P) (i : ∀ a h1, P a h1 → Q a h1) : W x h Q := let ⟨a, h1, e, p⟩ := w; ⟨a, h1, e, i a h1 p⟩
theorem W_eq {x y : M α} (w : W x h Q) (e : y = x) : W y h Q := e ▸ w
end

section
variable {h : H}
theorem p_rd {a : Nat} {o : O} {Q : O → H → Prop} (e : h[a]? = some o) (q : Q o h) : W (rd a) h Q := ⟨o, h, by unfold rd; rw [e]; rfl, q⟩
theorem p_wr {a : Nat} {o p : O} {Q : Unit → H → Prop} (e : h[a]? = some p) (q : ∀ h1, Upd a o h h1 → Q () h1) : W (wr a o) h Q := by
  have hl := (List.getElem?_eq_some_iff.mp e).1
  refine ⟨(), h.set a o, by unfold wr; rw [if_pos hl], q _ ⟨?_, fun b hb => ?_⟩⟩
  · rw [List.getElem?_set, if_pos rfl, if_pos hl]
  · rw [List.getElem?_set, if_neg (Ne.symm hb)]
theorem p_new {o : O} {Q : Nat → H → Prop} (q : ∀ c h1, Keep h h1 → h[c]? = none → h1[c]? = some o → Q c h1) : W (new o) h Q :=
  ⟨h.length, h ++ [o], rfl, q _ _ (fun a p e => by rw [List.getElem?_append_left (List.getElem?_eq_some_iff.mp e).1]; exact e) (List.getElem?_eq_none (Nat.le_refl _)) List.getElem?_concat_length⟩

variable {Q : V → H → Prop} {m : L}
theorem p_add {a b : Int} (q : Q (.int (a + b)) h) : W (binA .Add (.int a) (.int b)) h Q := ⟨_, _, rfl, q⟩
theorem p_sub {a b : Int} (q : Q (.int (a - b)) h) : W (binA .Sub (.int a) (.int b)) h Q := ⟨_, _, rfl, q⟩
theorem p_mul {a b : Int} (c : a.natAbs < big ∧ b.natAbs < big) (q : Q (.int (a * b)) h) : W (binA .Mult (.int a) (.int b)) h Q := ⟨_, h, by show (if _ then _ else _ : M V) h = _; rw [if_pos c]; rfl, q⟩
theorem p_div {a b : Int} (c : b ≠ 0 ∧ a.natAbs < big ∧ b.natAbs < big) (q : Q (.int (a.fdiv b)) h) : W (binA .FloorDiv (.int a) (.int b)) h Q := ⟨_, h, by show (if _ then _ else _ : M V) h = _; rw [if_pos c]; rfl, q⟩
theorem p_mod {a b : Int} (c : b ≠ 0) (q : Q (.int (a.fmod b)) h) : W (binA .Mod (.int a) (.int b)) h Q := ⟨_, h, by show (if _ then _ else _ : M V) h = _; rw [if_pos c]; rfl, q⟩
theorem p_pow {a n : Int} (c : 0 ≤ n ∧ n ≤ 100 ∧ a.natAbs < 100) (q : Q (.int (a ^ n.toNat)) h) : W (binA .Pow (.int a) (.int n)) h Q := ⟨_, h, by show (if _ then _ else _ : M V) h = _; rw [if_pos c]; rfl, q⟩
theorem p_lt {a b : Int} (q : Q (.bool (decide (a < b))) h) : W (cmpA .Lt (.int a) (.int b)) h Q := ⟨_, _, rfl, q⟩
theorem p_le {a b : Int} (q : Q (.bool (decide (a ≤ b))) h) : W (cmpA .LtE (.int a) (.int b)) h Q := ⟨_, _, rfl, q⟩
theorem p_gt {a b : Int} (q : Q (.bool (decide (b < a))) h) : W (cmpA .Gt (.int a) (.int b)) h Q := ⟨_, _, rfl, q⟩
theorem p_ge {a b : Int} (q : Q (.bool (decide (b ≤ a))) h) : W (cmpA .GtE (.int a) (.int b)) h Q := ⟨_, _, rfl, q⟩
theorem p_eq {a b : V} {r : Bool} (e : eqA h a b = some r) (q : Q (.bool r) h) : W (cmpA .Eq a b) h Q := ⟨_, h, by show (eqA h a b).map _ = _; rw [e]; rfl, q⟩
theorem p_ne {a b : V} {r : Bool} (e : eqA h a b = some r) (q : Q (.bool (!r)) h) : W (cmpA .NotEq a b) h Q := ⟨_, h, by show (eqA h a b).map _ = _; rw [e]; rfl, q⟩
theorem p_in {a b : V} {r : Bool} (e : inA h a b = some r) (q : Q (.bool r) h) : W (cmpA .In a b) h Q := ⟨_, h, by show (inA h a b).map _ = _; rw [e]; rfl, q⟩
theorem p_nin {a b : V} {r : Bool} (e : inA h a b = some r) (q : Q (.bool (!r)) h) : W (cmpA .NotIn a b) h Q := ⟨_, h, by show (inA h a b).map _ = _; rw [e]; rfl, q⟩
theorem p_truth {b : Bool} {Q : Bool → H → Prop} (q : Q b h) : W (truthA (.bool b)) h Q := ⟨_, _, rfl, q⟩
theorem p_item_list {a : Nat} {xs : List V} {i : Int} {v : V} (e : h[a]? = some (.list xs)) (l : xs.length ≤ lim) (g : 0 ≤ i ∧ xs[i.toNat]? = some v) (q : Q v h) : W (getItemA (.ref a) (.int i)) h Q :=
  ⟨v, h, by unfold getItemA; dsimp only; rw [e]; dsimp only; rw [if_pos l]; unfold at?; rw [if_pos g.1, g.2]; rfl, q⟩
theorem p_item_tup {a : Nat} {xs : List V} {i : Int} {v : V} (e : h[a]? = some (.tuple xs)) (l : xs.length ≤ lim) (g : 0 ≤ i ∧ xs[i.toNat]? = some v) (q : Q v h) : W (getItemA (.ref a) (.int i)) h Q :=
  ⟨v, h, by unfold getItemA; dsimp only; rw [e]; dsimp only; rw [if_pos l]; unfold at?; rw [if_pos g.1, g.2]; rfl, q⟩
theorem p_item_dict {a : Nat} {kvs : List (Int × V)} {ep : Nat} {i : Int} {v : V} (e : h[a]? = some (.dict kvs ep)) (g : lookD kvs i = some v) (q : Q v h) : W (getItemA (.ref a) (.int i)) h Q :=
  ⟨v, h, by unfold getItemA; dsimp only; rw [e]; dsimp only; rw [g]; rfl, q⟩
theorem p_set_list {a : Nat} {xs : List V} {i : Int} {v : V} {Q : Unit → H → Prop} (e : h[a]? = some (.list xs)) (g : 0 ≤ i ∧ i.toNat < xs.length ∧ xs.length ≤ lim) (q : ∀ h1, Upd a (.list (xs.set i.toNat v)) h h1 → Q () h1) : W (setItemA (.ref a) (.int i) v) h Q := by
  unfold setItemA
  refine W_bind (p_rd e ?_)
  dsimp only
  rw [if_pos g]
  exact p_wr e q
theorem p_set_dict {a : Nat} {kvs : List (Int × V)} {ep : Nat} {i : Int} {v : V} {Q : Unit → H → Prop} (e : h[a]? = some (.dict kvs ep)) (g : kvs.length ≤ lim) (q : ∀ h1, Upd a (putD kvs ep i v) h h1 → Q () h1) : W (setItemA (.ref a) (.int i) v) h Q := by
  unfold setItemA
  refine W_bind (p_rd e ?_)
  dsimp only
  rw [if_pos g]
  exact p_wr e q
theorem p_del {a : Nat} {kvs : List (Int × V)} {ep : Nat} {i : Int} {Q : Unit → H → Prop} (e : h[a]? = some (.dict kvs ep)) (g : i ∈ kvs.map (·.1) ∧ kvs.length ≤ lim) (q : ∀ h1, Upd a (.dict (delD kvs i) (ep + 1)) h h1 → Q () h1) : W (delItemA (.ref a) (.int i)) h Q := by
  unfold delItemA
  refine W_bind (p_rd e ?_)
  dsimp only
  rw [if_pos g]
  exact p_wr e q
theorem p_attr_near {a d : Nat} {n : V} {mm : Option V} (e : h[a]? = some (.inst d)) (e2 : h[d]? = some (.ns (some n) mm)) (q : Q n h) : W (getAttrA sNear (.ref a)) h Q := by
  unfold getAttrA
  refine W_bind (p_rd e (W_bind (p_rd e2 ?_)))
  dsimp only
  rw [if_pos rfl]
  exact ⟨n, h, rfl, q⟩
theorem p_attr_mem {a d : Nat} {n : Option V} {mm : V} (e : h[a]? = some (.inst d)) (e2 : h[d]? = some (.ns n (some mm))) (q : Q mm h) : W (getAttrA sMembers (.ref a)) h Q := by
  unfold getAttrA
  refine W_bind (p_rd e (W_bind (p_rd e2 ?_)))
  dsimp only
  rw [if_neg (fun q => sNear_ne q.symm), if_pos rfl]
  exact ⟨mm, h, rfl, q⟩
theorem p_newL {vs : List V} (l : vs.length ≤ lim) (q : ∀ c h1, Keep h h1 → h[c]? = none → h1[c]? = some (.list vs) → Q (.ref c) h1) : W (newL vs) h Q := by
  unfold newL
  rw [if_pos l]
  exact W_bind (p_new fun c h1 k n e => W_pure (q c h1 k n e))
theorem p_newT {vs : List V} (l : vs.length ≤ lim) (q : ∀ c h1, Keep h h1 → h[c]? = none → h1[c]? = some (.tuple vs) → Q (.ref c) h1) : W (newT vs) h Q := by
  unfold newT
  rw [if_pos l]
  exact W_bind (p_new fun c h1 k n e => W_pure (q c h1 k n e))
theorem p_newD (q : ∀ c h1, Keep h h1 → h[c]? = none → h1[c]? = some (.dict [] 0) → Q (.ref c) h1) : W newD h Q := W_bind (p_new fun c h1 k n e => W_pure (q c h1 k n e))
theorem p_addL {a b : Nat} {xs ys : List V} (e1 : h[a]? = some (.list xs)) (e2 : h[b]? = some (.list ys)) (l : xs.length + ys.length ≤ lim) (q : ∀ c h1, Keep h h1 → h[c]? = none → h1[c]? = some (.list (xs ++ ys)) → Q (.ref c) h1) : W (binA .Add (.ref a) (.ref b)) h Q := by
  show W (addRefs a b) h Q
  unfold addRefs
  refine W_bind (p_rd e1 (W_bind (p_rd e2 ?_)))
  dsimp only
  rw [if_pos l]
  exact W_bind (p_new fun c h1 k n e => W_pure (q c h1 k n e))
theorem p_slice {a : Nat} {xs : List V} {n : Int} (e : h[a]? = some (.list xs)) (l : 0 ≤ n ∧ n ≤ 100 ∧ xs.length ≤ lim) (q : ∀ c h1, Keep h h1 → h[c]? = none → h1[c]? = some (.list (xs.take n.toNat)) → Q (.ref c) h1) : W (sliceA n (.ref a)) h Q := by
  unfold sliceA
  refine W_bind (p_rd e ?_)
  dsimp only
  rw [if_pos l]
  exact W_bind (p_new fun c h1 k n e => W_pure (q c h1 k n e))
theorem p_append {a : Nat} {xs : List V} {v : V} (e : h[a]? = some (.list xs)) (l : xs.length < lim) (q : ∀ h1, Upd a (.list (xs ++ [v])) h h1 → Q .none h1) : W (listMeth (Str.ofString "append") a [v]) h Q := by
  unfold listMeth
  refine W_bind (p_rd e ?_)
  dsimp only
  rw [if_pos l, if_pos rfl]
  exact W_bind (p_wr e fun h1 u => W_pure (q h1 u))
theorem p_extend {a b : Nat} {xs ys : List V} (e : h[a]? = some (.list xs)) (e2 : h[b]? = some (.list ys)) (l : xs.length < lim) (l2 : a ≠ b ∧ ys.length < lim) (q : ∀ h1, Upd a (.list (xs ++ ys)) h h1 → Q .none h1) : W (listMeth (Str.ofString "extend") a [.ref b]) h Q := by
  unfold listMeth
  refine W_bind (p_rd e ?_)
  dsimp only
  rw [if_pos l, if_neg (by decide), if_pos rfl]
  refine W_bind (p_rd e2 ?_)
  dsimp only
  rw [if_pos l2]
  exact W_bind (p_wr e fun h1 u => W_pure (q h1 u))
theorem p_remove {a : Nat} {xs : List V} {v : V} {ls : List (List Int)} {c : List Int} (e : h[a]? = some (.list xs)) (l : xs.length < lim) (e2 : listsOf h xs = some ls) (e3 : listAt h v = some c) (i : c ∈ ls) (q : ∀ h1, Upd a (.list (xs.eraseIdx (ls.idxOf c))) h h1 → Q .none h1) :
    W (listMeth (Str.ofString "remove") a [v]) h Q := by
  unfold listMeth
  refine W_bind (p_rd e ?_)
  dsimp only
  rw [if_pos l, if_neg (by decide), if_neg (by decide), if_pos rfl]
  have z : W (do wr a (.list (xs.eraseIdx (ls.idxOf c))); pure .none : M V) h Q := W_bind (p_wr e fun h1 u => W_pure (q h1 u))
  (revert z; refine xe2 fun r h' zq1 => ?_; revert zq1; refine ae2 fun z1 z2 => ?_)
  refine ⟨r, h', ?_, z2⟩
  unfold removeA
  rw [e2, e3]
  dsimp only
  rw [if_pos ⟨i, Nat.le_of_lt l⟩]
  exact z1
theorem p_len_list {a : Nat} {xs : List V} (e : h[a]? = some (.list xs)) (l : xs.length ≤ lim) (q : Q (.int xs.length) h) : W (lenA (.ref a)) h Q := by
  unfold lenA
  refine W_bind (p_rd e ?_)
  dsimp only
  rw [if_pos l]
  exact W_pure q
theorem p_len_dict {a : Nat} {kvs : List (Int × V)} {ep : Nat} (e : h[a]? = some (.dict kvs ep)) (l : kvs.length ≤ lim) (q : Q (.int kvs.length) h) : W (lenA (.ref a)) h Q := by
  unfold lenA
  refine W_bind (p_rd e ?_)
  dsimp only
  rw [if_pos l]
  exact W_pure q
theorem p_copy {a : Nat} {xs : List V} (e : h[a]? = some (.list xs) ∨ h[a]? = some (.ro xs)) (l : xs.length ≤ lim) (q : ∀ c h1, Keep h h1 → h[c]? = none → h1[c]? = some (.list xs) → Q (.ref c) h1) : W (copyA (.ref a)) h Q := by
  unfold copyA
  rcases e with e | e <;> (refine W_bind (p_rd e ?_); dsimp only; rw [if_pos l]; exact W_bind (p_new fun c h1 k n e => W_pure (q c h1 k n e)))
theorem p_sorted_dict {a : Nat} {kvs : List (Int × V)} {ep : Nat} (e : h[a]? = some (.dict kvs ep)) (l : kvs.length < 60) (q : ∀ c h1, Keep h h1 → h[c]? = none → h1[c]? = some (.list ((sortI (kvs.map (·.1))).map .int)) → Q (.ref c) h1) : W (sortedA (.ref a)) h Q := by
  unfold sortedA
  refine W_bind (p_rd e ?_)
  dsimp only
  rw [if_pos l]
  exact W_bind (p_new fun c h1 k n e => W_pure (q c h1 k n e))
theorem p_sorted_ints {a : Nat} {is : List Int} (e : h[a]? = some (.list (is.map .int))) (l : is.length < 60) (q : ∀ c h1, Keep h h1 → h[c]? = none → h1[c]? = some (.list ((sortI is).map .int)) → Q (.ref c) h1) : W (sortedA (.ref a)) h Q := by
  unfold sortedA
  refine W_bind (p_rd e ?_)
  dsimp only
  have z : W (do let c ← new (.list ((sortI is).map .int)); pure (.ref c) : M V) h Q := W_bind (p_new fun c h1 k n e => W_pure (q c h1 k n e))
  (revert z; refine xe2 fun r h' zq1 => ?_; revert zq1; refine ae2 fun z1 z2 => ?_)
  refine ⟨r, h', ?_, z2⟩
  dsimp only
  rw [if_pos (by rw [List.length_map]; exact l), map_intsOf]
  exact z1
theorem p_sorted_lists {a : Nat} {xs : List V} {ls : List (List Int)} (e : h[a]? = some (.list xs)) (l : xs.length < 60) (e1 : intsOf xs = none) (e2 : listsOf h xs = some ls) (nd : ls.Nodup)
    (q : ∀ c h1, Keep h h1 → h[c]? = none → h1[c]? = some (.list ((sortP (ls.zip xs)).map (·.2))) → Q (.ref c) h1) : W (sortedA (.ref a)) h Q := by
  unfold sortedA
  refine W_bind (p_rd e ?_)
  dsimp only
  have z : W (do let c ← new (.list ((sortP (ls.zip xs)).map (·.2))); pure (.ref c) : M V) h Q := W_bind (p_new fun c h1 k n e => W_pure (q c h1 k n e))
  (revert z; refine xe2 fun r h' zq1 => ?_; revert zq1; refine ae2 fun z1 z2 => ?_)
  refine ⟨r, h', ?_, z2⟩
  dsimp only
  rw [if_pos l, e1, e2]
  dsimp only
  rw [if_pos nd]
  exact z1
end
end

set_option maxRecDepth 100000
section
open PySem

theorem upd_same {m : L} {x : Str} {v : V} : upd m x v x = some v := if_pos rfl
theorem upd_ne {m : L} {x y : Str} {u v : V} (h : (y == x) = false) (e : m y = some v) : upd m x u y = some v := by
  unfold upd
  rw [if_neg (beq_eq_false_iff_ne.mp h)]
  exact e

section
variable {cl : Str → List V → M V} {m : L} {h : H} {Q : V → H → Prop}
theorem e_int {i : Int} {c : Nat} {p : Pos} (q : Q (.int i) h) : W (evalA cl (.Constant (.int i) c p) m) h Q := ⟨_, _, rfl, q⟩
theorem e_str {i : Str} {c : Nat} {p : Pos} (q : Q (.str i) h) : W (evalA cl (.Constant (.str i) c p) m) h Q := ⟨_, _, rfl, q⟩
theorem e_bool {i : Bool} {c : Nat} {p : Pos} (q : Q (.bool i) h) : W (evalA cl (.Constant (.bool i) c p) m) h Q := ⟨_, _, rfl, q⟩
theorem e_none {c : Nat} {p : Pos} (q : Q .none h) : W (evalA cl (.Constant .none c p) m) h Q := ⟨_, _, rfl, q⟩
theorem e_Name {x : Str} {p : Pos} {v : V} (e : m x = some v) (q : Q v h) : W (evalA cl (.Name x p) m) h Q := ⟨v, h, by show (m x).map _ = _; rw [e]; rfl, q⟩
theorem e_Bin {l r : Expr} {op : Operator} {p : Pos} (w : W (evalA cl l m) h fun a h1 => W (evalA cl r m) h1 fun b h2 => W (binA op a b) h2 Q) : W (evalA cl (.BinOp l op r p) m) h Q :=
  W_bind (x := evalA cl l m) (f := fun a => evalA cl r m >>= fun b => binA op a b) (W_mono w fun zz zz w => W_bind w)
theorem e_Neg {x : Expr} {p : Pos} (w : W (evalA cl x m) h fun a h1 => ∃ i, a = .int i ∧ Q (.int (-i)) h1) : W (evalA cl (.UnaryOp .USub x p) m) h Q :=
  W_bind (x := evalA cl x m) (f := fun a => negA a) (W_mono w fun _ _ ⟨_, e, q⟩ => e ▸ ⟨_, _, rfl, q⟩)
theorem e_IfExp {t b o : Expr} {p : Pos} (w : W (testA cl t m (evalA cl t m)) h fun c h1 => (c = true → W (evalA cl b m) h1 Q) ∧ (c = false → W (evalA cl o m) h1 Q)) : W (evalA cl (.IfExp t b o p) m) h Q :=
  W_bind (x := testA cl t m (evalA cl t m)) (f := fun c => if c = true then evalA cl b m else evalA cl o m) (W_mono w fun c _ ⟨w1, w2⟩ => by cases c with | false => exact w2 rfl | true => exact w1 rfl)
theorem e_Cmp {l r : Expr} {op : CmpOp} {p : Pos} (w : W (evalA cl l m) h fun a h1 => W (evalA cl r m) h1 fun b h2 => W (cmpA op a b) h2 Q) : W (evalA cl (.Compare l [op] [r] p) m) h Q :=
  W_bind (x := evalA cl l m) (f := fun a => evalA cl r m >>= fun b => cmpA op a b) (W_mono w fun zz zz w => W_bind w)
theorem e_Call {f : Str} {pf : Pos} {as : List Expr} {p : Pos} (w : W (evalsA cl as m) h fun vs h1 => W (cl f vs) h1 Q) : W (evalA cl (.Call (.Name f pf) as [] p) m) h Q :=
  W_bind (x := evalsA cl as m) (f := fun vs => cl f vs) w
theorem e_Meth {o : Expr} {x : Str} {pa : Pos} {as : List Expr} {p : Pos} (w : W (evalA cl o m) h fun ov h1 => W (callMeth cl x ov (evalsA cl as m)) h1 Q) : W (evalA cl (.Call (.Attribute o x pa) as [] p) m) h Q :=
  W_bind (x := evalA cl o m) (f := fun ov => callMeth cl x ov (evalsA cl as m)) w
theorem e_Attr {o : Expr} {x : Str} {p : Pos} (w : W (evalA cl o m) h fun ov h1 => W (getAttrA x ov) h1 Q) : W (evalA cl (.Attribute o x p) m) h Q :=
  W_bind (x := evalA cl o m) (f := fun ov => getAttrA x ov) w
theorem e_Slice {v : Expr} {n : Int} {c : Nat} {p1 p2 p : Pos} (w : W (evalA cl v m) h fun o h1 => W (sliceA n o) h1 Q) : W (evalA cl (.Subscript v (.Slice none (some (.Constant (.int n) c p1)) none p2) p) m) h Q :=
  W_bind (x := evalA cl v m) (f := fun o => sliceA n o) w
theorem e_Sub {v i : Expr} {p : Pos} (w : W (evalA cl v m) h fun o h1 => W (evalA cl i m) h1 fun j h2 => W (getItemA o j) h2 Q) (e : evalA cl (.Subscript v i p) m = (do let o ← evalA cl v m; let j ← evalA cl i m; getItemA o j)) : W (evalA cl (.Subscript v i p) m) h Q := by
  rw [e]
  exact W_bind (W_mono w fun zz zz w => W_bind w)
theorem e_List {es : List Expr} {p : Pos} (w : W (evalsA cl es m) h fun vs h1 => W (newL vs) h1 Q) : W (evalA cl (.List es p) m) h Q := W_bind (x := evalsA cl es m) (f := fun vs => newL vs) w
theorem e_Tuple {es : List Expr} {k : Nat} {p : Pos} (w : W (evalsA cl es m) h fun vs h1 => W (newT vs) h1 Q) : W (evalA cl (.Tuple es k p) m) h Q := W_bind (x := evalsA cl es m) (f := fun vs => newT vs) w
theorem e_Dict {p : Pos} (w : W newD h Q) : W (evalA cl (.Dict [] [] p) m) h Q := w
theorem e_And2 {a b : Expr} {p : Pos} (w : W (evalA cl a m) h fun v h1 => ∃ t, v = .bool t ∧ (t = false → Q (.bool false) h1) ∧ (t = true → W (evalA cl b m) h1 Q)) : W (evalA cl (.BoolOp .And [a, b] p) m) h Q := by
  refine W_bind (x := evalA cl a m) (f := fun v => truthA v >>= fun t => match BoolOp.And, t with
      | .And, false => pure v
      | .Or, true => pure v
      | _, _ => boolA cl .And [b] m) (W_mono w fun v h1 zq => ?_)
  (revert zq; refine xe1 fun t zq1 => ?_; revert zq1; refine ae3 fun e w1 w2 => ?_)
  subst e
  refine W_bind (p_truth ?_)
  cases t with
  | false => exact W_pure (w1 rfl)
  | true => exact W_bind (x := evalA cl b m) (f := fun v => pure v) (W_mono (w2 rfl) fun zz zz q => W_pure q)
theorem es_nil {Q : List V → H → Prop} (q : Q [] h) : W (evalsA cl [] m) h Q := ⟨_, _, rfl, q⟩
theorem es_cons {e : Expr} {es : List Expr} {Q : List V → H → Prop} (w : W (evalA cl e m) h fun v h1 => W (evalsA cl es m) h1 fun vs h2 => Q (v :: vs) h2) : W (evalsA cl (e :: es) m) h Q :=
  W_bind (x := evalA cl e m) (f := fun v => evalsA cl es m >>= fun vs => pure (v :: vs)) (W_mono w fun zz zz w => W_bind (W_mono w fun zz zz q => W_pure q))

variable {T : Bool → H → Prop}
theorem t_Cmp {l r : Expr} {op : CmpOp} {p : Pos} (w : W (evalA cl l m) h fun a h1 => W (evalA cl r m) h1 fun b h2 => W (cmpA op a b) h2 fun v h3 => W (truthA v) h3 T) : W (testA cl (.Compare l [op] [r] p) m (evalA cl (.Compare l [op] [r] p) m)) h T :=
  W_bind (x := evalA cl (.Compare l [op] [r] p) m) (f := fun v => truthA v) (e_Cmp w)
theorem t_Name {x : Str} {p : Pos} {b : Bool} (e : m x = some (.bool b)) (q : T b h) : W (testA cl (.Name x p) m (evalA cl (.Name x p) m)) h T :=
  W_bind (x := evalA cl (.Name x p) m) (f := fun v => truthA v) (e_Name e (p_truth q))
theorem t_Call {f : Str} {pf : Pos} {as : List Expr} {p : Pos} (w : W (evalsA cl as m) h fun vs h1 => W (cl f vs) h1 fun v h2 => W (truthA v) h2 T) : W (testA cl (.Call (.Name f pf) as [] p) m (evalA cl (.Call (.Name f pf) as [] p) m)) h T :=
  W_bind (x := evalA cl (.Call (.Name f pf) as [] p) m) (f := fun v => truthA v) (e_Call w)
theorem t_Not {x : Expr} {p : Pos} {wh : M V} (w : W (testA cl x m (evalA cl x m)) h fun b h1 => T (!b) h1) : W (testA cl (.UnaryOp .Not x p) m wh) h T :=
  W_bind (x := testA cl x m (evalA cl x m)) (f := fun b => pure (!b)) (W_mono w fun zz zz q => W_pure q)
theorem t_Bool {op : BoolOp} {vs : List Expr} {p : Pos} {wh : M V} (w : W (testsA cl op vs m) h T) : W (testA cl (.BoolOp op vs p) m wh) h T := w
theorem ts_nilA (q : T true h) : W (testsA cl .And [] m) h T := ⟨_, _, rfl, q⟩
theorem ts_nilO (q : T false h) : W (testsA cl .Or [] m) h T := ⟨_, _, rfl, q⟩
theorem ts_And {e : Expr} {es : List Expr} (w : W (testA cl e m (evalA cl e m)) h fun t h1 => (t = false → T false h1) ∧ (t = true → W (testsA cl .And es m) h1 T)) : W (testsA cl .And (e :: es) m) h T :=
  W_bind (x := testA cl e m (evalA cl e m)) (f := fun t => match BoolOp.And, t with
    | .And, false => pure false
    | .Or, true => pure true
    | _, _ => testsA cl .And es m) (W_mono w fun t _ ⟨w1, w2⟩ => by cases t with | false => exact W_pure (w1 rfl) | true => exact w2 rfl)
theorem ts_Or {e : Expr} {es : List Expr} (w : W (testA cl e m (evalA cl e m)) h fun t h1 => (t = true → T true h1) ∧ (t = false → W (testsA cl .Or es m) h1 T)) : W (testsA cl .Or (e :: es) m) h T :=
  W_bind (x := testA cl e m (evalA cl e m)) (f := fun t => match BoolOp.Or, t with
    | .And, false => pure false
    | .Or, true => pure true
    | _, _ => testsA cl .Or es m) (W_mono w fun t _ ⟨w1, w2⟩ => by cases t with | false => exact w2 rfl | true => exact W_pure (w1 rfl))
theorem m_list {x : Str} {a : Nat} {xs : List V} {vs : M (List V)} (e : h[a]? = some (.list xs)) (w : W vs h fun us h1 => W (listMeth x a us) h1 Q) : W (callMeth cl x (.ref a) vs) h Q := by
  unfold callMeth
  exact W_bind (p_rd e (W_bind w))
theorem m_inst {x f : Str} {a d : Nat} {n mm : Option V} {vs : M (List V)} (hx : methN x = some f) (e : h[a]? = some (.inst d)) (e2 : h[d]? = some (.ns n mm)) (w : W vs h fun us h1 => W (cl f (.ref a :: us)) h1 Q) : W (callMeth cl x (.ref a) vs) h Q := by
  unfold callMeth
  refine W_bind (p_rd e (W_bind (p_rd e2 ?_)))
  dsimp only
  rw [hx]
  exact W_bind w
end

section
variable {cl : Str → List V → M V} {m : L} {h : H} {r : List Stmt} {Q : Fl × L → H → Prop}
/- on to the next statement -/
noncomputable def Nx (cl : Str → List V → M V) (r : List Stmt) (Q : Fl × L → H → Prop) (q : Fl × L) (h : H) : Prop := match q with
  | (.next, m') => W (execsA cl r m') h Q
  | (f, m') => Q (f, m') h
/- the end of a turn -/
noncomputable def Lq (Q : Fl × L → H → Prop) (P : L → H → Prop) (q : Fl × L) (h : H) : Prop := match q with
  | (.ret v, m') => Q (.ret v, m') h
  | (_, m') => P m' h
theorem nx_next {m' : L} (w : W (execsA cl r m') h Q) : Nx cl r Q (.next, m') h := w
theorem nx_cont {m' : L} (w : Q (.cont, m') h) : Nx cl r Q (.cont, m') h := w
theorem nx_ret {m' : L} {v : V} (w : Q (.ret v, m') h) : Nx cl r Q (.ret v, m') h := w
theorem lq_next {m' : L} {P : L → H → Prop} (w : P m' h) : Lq Q P (.next, m') h := w
theorem lq_cont {m' : L} {P : L → H → Prop} (w : P m' h) : Lq Q P (.cont, m') h := w
theorem lq_ret {m' : L} {v : V} {P : L → H → Prop} (w : Q (.ret v, m') h) : Lq Q P (.ret v, m') h := w

theorem s_step {s : Stmt} (w : W (execA cl s m) h (Nx cl r Q)) : W (execsA cl (s :: r) m) h Q :=
  W_bind (x := execA cl s m) (f := fun q => match q with
    | (.next, m') => execsA cl r m'
    | (f, m') => pure (f, m')) (W_mono w fun q h1 n => by
      obtain ⟨f, m'⟩ := q
      cases f with
      | next => exact n
      | cont => exact W_pure n
      | ret v => exact W_pure n)
theorem s_nil (q : Q (.next, m) h) : W (execsA cl [] m) h Q := ⟨_, _, rfl, q⟩
theorem s_Assign {x : Str} {px p : Pos} {e : Expr} (w : W (evalA cl e m) h fun v h1 => W (execsA cl r (upd m x v)) h1 Q) : W (execsA cl (.Assign [.Name x px] e p :: r) m) h Q :=
  s_step (W_bind (x := evalA cl e m) (f := fun v => pure (Fl.next, upd m x v)) (W_mono w fun zz zz q => W_pure q))
theorem s_Unpack {ts : List Expr} {k : Nat} {tp p : Pos} {e : Expr} (w : W (evalA cl e m) h fun v h1 => W (unpackA ts v m) h1 fun m' h2 => W (execsA cl r m') h2 Q) : W (execsA cl (.Assign [.Tuple ts k tp] e p :: r) m) h Q :=
  s_step (W_bind (x := evalA cl e m) (f := fun v => unpackA ts v m >>= fun m' => pure (Fl.next, m')) (W_mono w fun zz zz w => W_bind (W_mono w fun zz zz q => W_pure q)))
theorem s_SetItem {o i e : Expr} {q p : Pos} (w : W (evalA cl e m) h fun v h1 => W (evalA cl o m) h1 fun ov h2 => W (evalA cl i m) h2 fun iv h3 => W (setItemA ov iv v) h3 fun zz h4 => W (execsA cl r m) h4 Q) : W (execsA cl (.Assign [.Subscript o i q] e p :: r) m) h Q :=
  s_step (W_bind (x := evalA cl e m) (f := fun v => evalA cl o m >>= fun ov => evalA cl i m >>= fun iv => setItemA ov iv v >>= fun zz => pure (Fl.next, m)) (W_mono w fun zz zz w => W_bind (W_mono w fun zz zz w => W_bind (W_mono w fun zz zz w => W_bind (W_mono w fun zz zz q => W_pure q)))))
theorem s_SetAttr {o e : Expr} {x : Str} {q p : Pos} (w : W (evalA cl e m) h fun v h1 => W (evalA cl o m) h1 fun ov h2 => W (setAttrA x v ov) h2 fun zz h4 => W (execsA cl r m) h4 Q) : W (execsA cl (.Assign [.Attribute o x q] e p :: r) m) h Q :=
  s_step (W_bind (x := evalA cl e m) (f := fun v => evalA cl o m >>= fun ov => setAttrA x v ov >>= fun zz => pure (Fl.next, m)) (W_mono w fun zz zz w => W_bind (W_mono w fun zz zz w => W_bind (W_mono w fun zz zz q => W_pure q))))
theorem s_AugAdd {x : Str} {px p : Pos} {e : Expr} {a : Int} (hx : m x = some (.int a)) (w : W (evalA cl e m) h fun v h1 => ∃ b, v = .int b ∧ W (execsA cl r (upd m x (.int (a + b)))) h1 Q) : W (execsA cl (.AugAssign (.Name x px) .Add e p :: r) m) h Q :=
  s_step (W_bind (x := nameA m x) (f := fun old => evalA cl e m >>= fun v => augA .Add old v >>= fun r => pure (Fl.next, upd m x r)) ⟨.int a, h, by show (m x).map _ = _; rw [hx]; rfl, W_bind (W_mono w fun _ _ ⟨b, e, q⟩ => e ▸ W_bind ⟨_, _, rfl, W_pure q⟩)⟩)
theorem s_AugSub {x : Str} {px p : Pos} {e : Expr} {a : Int} (hx : m x = some (.int a)) (w : W (evalA cl e m) h fun v h1 => ∃ b, v = .int b ∧ W (execsA cl r (upd m x (.int (a - b)))) h1 Q) : W (execsA cl (.AugAssign (.Name x px) .Sub e p :: r) m) h Q :=
  s_step (W_bind (x := nameA m x) (f := fun old => evalA cl e m >>= fun v => augA .Sub old v >>= fun r => pure (Fl.next, upd m x r)) ⟨.int a, h, by show (m x).map _ = _; rw [hx]; rfl, W_bind (W_mono w fun _ _ ⟨b, e, q⟩ => e ▸ W_bind ⟨_, _, rfl, W_pure q⟩)⟩)
theorem s_Del {o i : Expr} {q p : Pos} (w : W (evalA cl o m) h fun ov h2 => W (evalA cl i m) h2 fun iv h3 => W (delItemA ov iv) h3 fun zz h4 => W (execsA cl r m) h4 Q) : W (execsA cl (.Delete [.Subscript o i q] p :: r) m) h Q :=
  s_step (W_bind (x := evalA cl o m) (f := fun ov => evalA cl i m >>= fun iv => delItemA ov iv >>= fun zz => pure (Fl.next, m)) (W_mono w fun zz zz w => W_bind (W_mono w fun zz zz w => W_bind (W_mono w fun zz zz q => W_pure q))))
theorem s_Expr {e : Expr} {p : Pos} (w : W (evalA cl e m) h fun v h1 => v = .none ∧ W (execsA cl r m) h1 Q) : W (execsA cl (.Expr e p :: r) m) h Q :=
  s_step (W_bind (x := evalA cl e m) (f := fun v => match v with
    | .none => pure (Fl.next, m)
    | _ => fail) (W_mono w fun _ _ ⟨e, q⟩ => e ▸ W_pure q))
theorem s_Return {e : Expr} {p : Pos} (w : W (evalA cl e m) h fun v h1 => Q (.ret v, m) h1) : W (execsA cl (.Return (some e) p :: r) m) h Q :=
  s_step (W_bind (x := evalA cl e m) (f := fun v => pure (Fl.ret v, m)) (W_mono w fun zz zz q => W_pure q))
theorem s_Continue {p : Pos} (q : Q (.cont, m) h) : W (execsA cl (.Continue p :: r) m) h Q := s_step (W_pure q)
theorem s_If {t : Expr} {b o : List Stmt} {p : Pos} (w : W (testA cl t m (evalA cl t m)) h fun c h1 => (c = true → W (execsA cl b m) h1 (Nx cl r Q)) ∧ (c = false → W (execsA cl o m) h1 (Nx cl r Q))) : W (execsA cl (.If t b o p :: r) m) h Q :=
  s_step (W_bind (x := testA cl t m (evalA cl t m)) (f := fun c => if c = true then execsA cl b m else execsA cl o m) (W_mono w fun c _ ⟨w1, w2⟩ => by cases c with | false => exact w2 rfl | true => exact w1 rfl))

/- the end of a branch, where what follows asks J alone -/
noncomputable def Jq (J : L → H → Prop) (Q : Fl × L → H → Prop) (q : Fl × L) (h : H) : Prop := match q with
  | (.next, m') => J m' h
  | (f, m') => Q (f, m') h
theorem jq_next {m' : L} {J : L → H → Prop} (w : J m' h) : Jq J Q (.next, m') h := w
theorem jq_cont {m' : L} {J : L → H → Prop} (w : Q (.cont, m') h) : Jq J Q (.cont, m') h := w
theorem jq_ret {m' : L} {v : V} {J : L → H → Prop} (w : Q (.ret v, m') h) : Jq J Q (.ret v, m') h := w
/- what is behind an abstract end -/
noncomputable def Un (K Q : Fl × L → H → Prop) : Prop := ∀ q h, Q q h → K q h
noncomputable def Ab (Q : Fl × L → H → Prop) (F : (Fl × L → H → Prop) → Prop) : Prop := ∀ K, Un K Q → F K
theorem ab_in {F : (Fl × L → H → Prop) → Prop} (w : ∀ K, Un K Q → F K) : Ab Q F := w
theorem ab_out {F : (Fl × L → H → Prop) → Prop} (w : Ab Q F) : F Q := w Q fun zz zz z => z
theorem j_un {K : Fl × L → H → Prop} {q : Fl × L} (e : Un K Q) (w : Q q h) : K q h := e q h w
theorem s_IfJ {t : Expr} {b o : List Stmt} {p : Pos} (J : L → H → Prop) (w : Ab (Jq J Q) fun K => W (testA cl t m (evalA cl t m)) h fun c h1 => (c = true → W (execsA cl b m) h1 K) ∧ (c = false → W (execsA cl o m) h1 K))
    (n : ∀ m' h', J m' h' → W (execsA cl r m') h' Q) : W (execsA cl (.If t b o p :: r) m) h Q := by
  have i : ∀ q h1, Jq J Q q h1 → Nx cl r Q q h1 := fun q h1 j => by
    obtain ⟨f, m'⟩ := q
    cases f with
    | next => exact n m' h1 j
    | cont => exact j
    | ret v => exact j
  exact s_If (W_mono (ab_out w) fun c h1 ⟨w1, w2⟩ => ⟨fun e => W_mono (w1 e) i, fun e => W_mono (w2 e) i⟩)

theorem loop_W {ck : M Unit} {body : V → L → M (Fl × L)} {ok : H → Prop} (hck : ∀ h, ok h → ck h = some ((), h)) (I : List V → L → H → Prop) :
    ∀ (xs : List V) (m : L) (h : H), I xs m h → (∀ y ys m1 h2, I (y :: ys) m1 h2 → W (body y m1) h2 (Lq Q fun m2 h3 => ok h3 ∧ I ys m2 h3)) → (∀ m1 h2, I [] m1 h2 → Q (.next, m1) h2) → W (loopA ck body xs m) h Q
  | [], m, h, i, _, fin => W_pure (fin m h i)
  | y :: ys, m, h, i, step, fin => W_bind (x := body y m) (f := fun q => match q with
      | (.ret v, m') => pure (.ret v, m')
      | (_, m') => do ck; loopA ck body ys m') (W_mono (step y ys m h i) fun q h1 n => by
        obtain ⟨f, m'⟩ := q
        cases f with
        | ret v => exact W_pure n
        | next => exact W_bind ⟨(), h1, hck _ n.1, loop_W hck I ys m' h1 n.2 step fin⟩
        | cont => exact W_bind ⟨(), h1, hck _ n.1, loop_W hck I ys m' h1 n.2 step fin⟩)
theorem chk_ok {a : Nat} {o : O} {h : H} (e : h[a]? = some o) : chk a o h = some ((), h) := by unfold chk; rw [if_pos e]

noncomputable def ForL (cl : Str → List V → M V) (x : Str) (body r : List Stmt) (Q : Fl × L → H → Prop) (m : L) (sv : V) (h1 : H) : Prop := ∃ a xs, sv = .ref a ∧ h1[a]? = some (.list xs) ∧ ∃ I : List V → L → H → Prop, I xs m h1 ∧
      (∀ y ys m1 h2, I (y :: ys) m1 h2 → Ab (Lq Q fun m2 h3 => h3[a]? = some (.list xs) ∧ I ys m2 h3) fun K => W (execsA cl body (upd m1 x y)) h2 K) ∧ ∀ m1 h2, I [] m1 h2 → W (execsA cl r m1) h2 Q
theorem forL_in {x : Str} {body : List Stmt} {a : Nat} {xs : List V} {h1 : H} (e : h1[a]? = some (.list xs)) (I : List V → L → H → Prop) (i0 : I xs m h1)
    (st : ∀ y ys m1 h2, I (y :: ys) m1 h2 → Ab (Lq Q fun m2 h3 => h3[a]? = some (.list xs) ∧ I ys m2 h3) fun K => W (execsA cl body (upd m1 x y)) h2 K) (fin : ∀ m1 h2, I [] m1 h2 → W (execsA cl r m1) h2 Q) : ForL cl x body r Q m (.ref a) h1 := ⟨a, xs, rfl, e, I, i0, st, fin⟩
noncomputable def ForD (cl : Str → List V → M V) (x : Str) (body r : List Stmt) (Q : Fl × L → H → Prop) (m : L) (sv : V) (h1 : H) : Prop := ∃ a kvs ep, sv = .ref a ∧ h1[a]? = some (.dict kvs ep) ∧ ∃ I : List V → L → H → Prop, I (keysV kvs) m h1 ∧
      (∀ y ys m1 h2, I (y :: ys) m1 h2 → Ab (Lq Q fun m2 h3 => h3[a]? = some (.dict kvs ep) ∧ I ys m2 h3) fun K => W (execsA cl body (upd m1 x y)) h2 K) ∧ ∀ m1 h2, I [] m1 h2 → W (execsA cl r m1) h2 Q
theorem forD_in {x : Str} {body : List Stmt} {a : Nat} {kvs : List (Int × V)} {ep : Nat} {h1 : H} (e : h1[a]? = some (.dict kvs ep)) (I : List V → L → H → Prop) (i0 : I (keysV kvs) m h1)
    (st : ∀ y ys m1 h2, I (y :: ys) m1 h2 → Ab (Lq Q fun m2 h3 => h3[a]? = some (.dict kvs ep) ∧ I ys m2 h3) fun K => W (execsA cl body (upd m1 x y)) h2 K) (fin : ∀ m1 h2, I [] m1 h2 → W (execsA cl r m1) h2 Q) : ForD cl x body r Q m (.ref a) h1 := ⟨a, kvs, ep, rfl, e, I, i0, st, fin⟩
theorem s_ForList {x : Str} {px p : Pos} {it : Expr} {body : List Stmt} (ha : rangeArg it = none)
    (w : W (evalA cl it m) h fun sv h1 => ForL cl x body r Q m sv h1) :
    W (execsA cl (.For (.Name x px) it body [] p :: r) m) h Q := by
  refine s_step (W_eq (x := evalA cl it m >>= fun src => iterA src >>= fun r => loopA r.2 (fun v m' => execsA cl body (upd m' x v)) r.1 m) (W_bind (W_mono w fun sv h1 zq => ?_)) ?_)
  · (revert zq; refine xe2 fun a xs zq1 => ?_; revert zq1; refine ae3 fun e1 e2 zq2 => ?_; revert zq2; refine xe1 fun I zq3 => ?_; revert zq3; refine ae3 fun i0 st fin => ?_)
    subst e1
    refine W_bind (W_bind (x := rd a) (f := _) (p_rd e2 (W_pure ?_)))
    exact loop_W (ok := fun h => h[a]? = some (.list xs)) (fun h e => chk_ok e) I xs m h1 i0 (fun y ys m1 h2 i => W_mono (ab_out (st y ys m1 h2 i)) fun q h3 n => by
      obtain ⟨f, m'⟩ := q
      cases f <;> exact n) fin
  · show (match rangeArg it with | some _ => _ | _ => _) = _
    rw [ha]
theorem s_ForDict {x : Str} {px p : Pos} {it : Expr} {body : List Stmt} (ha : rangeArg it = none)
    (w : W (evalA cl it m) h fun sv h1 => ForD cl x body r Q m sv h1) :
    W (execsA cl (.For (.Name x px) it body [] p :: r) m) h Q := by
  refine s_step (W_eq (x := evalA cl it m >>= fun src => iterA src >>= fun r => loopA r.2 (fun v m' => execsA cl body (upd m' x v)) r.1 m) (W_bind (W_mono w fun sv h1 zq => ?_)) ?_)
  · (revert zq; refine xe3 fun a kvs ep zq1 => ?_; revert zq1; refine ae3 fun e1 e2 zq2 => ?_; revert zq2; refine xe1 fun I zq3 => ?_; revert zq3; refine ae3 fun i0 st fin => ?_)
    subst e1
    refine W_bind (W_bind (x := rd a) (f := _) (p_rd e2 (W_pure ?_)))
    exact loop_W (ok := fun h => h[a]? = some (.dict kvs ep)) (fun h e => chk_ok e) I (keysV kvs) m h1 i0 (fun y ys m1 h2 i => W_mono (ab_out (st y ys m1 h2 i)) fun q h3 n => by
      obtain ⟨f, m'⟩ := q
      cases f <;> exact n) fin
  · show (match rangeArg it with | some _ => _ | _ => _) = _
    rw [ha]
noncomputable def ForN (cl : Str → List V → M V) (x : Str) (body r : List Stmt) (Q : Fl × L → H → Prop) (m : L) (sv : V) (h1 : H) : Prop := ∃ n : Nat, sv = .int n ∧ n ≤ lim ∧ ∃ I : Nat → L → H → Prop, I 0 m h1 ∧
      (∀ k m1 h2, k < n → I k m1 h2 → Ab (Lq Q fun m2 h3 => I (k + 1) m2 h3) fun K => W (execsA cl body (upd m1 x (.int k))) h2 K) ∧ ∀ m1 h2, I n m1 h2 → W (execsA cl r m1) h2 Q
theorem forN_in {x : Str} {body : List Stmt} {n : Nat} {z : Int} {h1 : H} (hn : n ≤ lim) (I : Nat → L → H → Prop) (i0 : I 0 m h1)
    (st : ∀ k m1 h2, k < n → I k m1 h2 → Ab (Lq Q fun m2 h3 => I (k + 1) m2 h3) fun K => W (execsA cl body (upd m1 x (.int k))) h2 K) (fin : ∀ m1 h2, I n m1 h2 → W (execsA cl r m1) h2 Q) (e : z = n) : ForN cl x body r Q m (.int z) h1 := ⟨n, congrArg V.int e, hn, I, i0, st, fin⟩
theorem s_ForRange {x : Str} {px p : Pos} {it e : Expr} {body : List Stmt} (ha : rangeArg it = some e)
    (w : W (evalA cl e m) h fun sv h1 => ForN cl x body r Q m sv h1) :
    W (execsA cl (.For (.Name x px) it body [] p :: r) m) h Q := by
  refine s_step (W_eq (x := evalA cl e m >>= fun v => rangeA v >>= fun r => loopA (pure ()) (fun v m' => execsA cl body (upd m' x v)) r m) (W_bind (W_mono w fun sv h1 zq => ?_)) ?_)
  · (revert zq; refine xe1 fun n zq1 => ?_; revert zq1; refine ae3 fun e1 e2 zq2 => ?_; revert zq2; refine xe1 fun I zq3 => ?_; revert zq3; refine ae3 fun i0 st fin => ?_)
    subst e1
    refine W_bind ⟨rangeV n, h1, ?_, ?_⟩
    · show (if 0 ≤ (n : Int) ∧ (n : Int) ≤ lim then _ else _ : M (List V)) h1 = _
      rw [if_pos ⟨Int.natCast_nonneg n, by exact_mod_cast e2⟩]; rfl
    · have hlen : (rangeV (n : Int)).length = n := by unfold rangeV; simp
      refine loop_W (ok := fun zz => True) (fun h zz => rfl) (fun ys m1 h2 => ∃ k, k ≤ n ∧ ys = (rangeV (n : Int)).drop k ∧ I k m1 h2) (rangeV n) m h1 ⟨0, Nat.zero_le _, rfl, i0⟩ (fun y ys m1 h2 zq => ?_) fun m1 h2 zq => ?_
      · (revert zq; refine xe1 fun k zq1 => ?_; revert zq1; refine ae3 fun hk e i => ?_)
        have hlt : k < n := by
          rcases Nat.lt_or_ge k n with q | q
          · exact q
          · rw [List.drop_of_length_le (by omega)] at e; cases e
        rw [List.drop_eq_getElem_cons (by omega)] at e
        injection e with e1 e2
        have hy : y = .int k := by rw [e1]; unfold rangeV; simp
        rw [hy]
        refine W_mono (ab_out (st k m1 h2 hlt i)) fun q h3 nn => ?_
        obtain ⟨f, m'⟩ := q
        cases f with
        | ret v => exact nn
        | next => exact ⟨trivial, k + 1, hlt, e2, nn⟩
        | cont => exact ⟨trivial, k + 1, hlt, e2, nn⟩
      · (revert zq; refine xe1 fun k zq1 => ?_; revert zq1; refine ae3 fun hk e i => ?_)
        have : k = n := by
          have := congrArg List.length e
          rw [List.length_drop, hlen] at this
          simp at this; omega
        subst this
        exact fin m1 h2 i
  · show (match rangeArg it with | some _ => _ | _ => _) = _
    rw [ha]
theorem s_ForR {x : Str} {px p pf pc : Pos} {e : Expr} {body : List Stmt}
    (w : W (evalA cl e m) h fun sv h1 => ForN cl x body r Q m sv h1) :
    W (execsA cl (.For (.Name x px) (.Call (.Name (Str.ofString "range") pf) [e] [] pc) body [] p :: r) m) h Q := s_ForRange (e := e) (by show (if Str.ofString "range" = Str.ofString "range" then some e else none) = _; exact if_pos rfl) w
end

/- where a call's run ends -/
noncomputable def Rt (Q : V → H → Prop) (q : Fl × L) (h : H) : Prop := match q with
  | (.ret v, _) => Q v h
  | _ => Q .none h
theorem rt_ret {Q : V → H → Prop} {m : L} {v : V} {h : H} (q : Q v h) : Rt Q (.ret v, m) h := q
theorem rt_next {Q : V → H → Prop} {m : L} {h : H} (q : Q .none h) : Rt Q (.next, m) h := q
noncomputable def envL : List Str → List V → L
  | p :: ps, v :: vs => upd (envL ps vs) p v
  | _, _ => fun zz => none
theorem envL_eq : ∀ (ps : List Str) (vs : List V), (fun x => (ps.zip vs).lookup x) = envL ps vs
  | [], _ => rfl
  | _ :: _, [] => rfl
  | p :: ps, v :: vs => by
    funext x
    show ((p, v) :: ps.zip vs).lookup x = upd (envL ps vs) p v x
    rw [← envL_eq ps vs, List.lookup_cons]
    unfold upd
    by_cases e : x = p
    · rw [if_pos e, beq_iff_eq.mpr e]
    · rw [if_neg e, beq_eq_false_iff_ne.mpr e]
theorem env_same {ps : List Str} {vs : List V} {x : Str} {v : V} : envL (x :: ps) (v :: vs) x = some v := if_pos rfl
theorem env_ne {ps : List Str} {vs : List V} {x y : Str} {u v : V} (h : (y == x) = false) (e : envL ps vs y = some v) : envL (x :: ps) (u :: vs) y = some v := upd_ne h e

section
variable {h : H} {Q : V → H → Prop} {k : Nat}
theorem call_W {f : String} {ps : List Str} {vs : List V} {s : Stmt} {r : List Stmt} (h1 : FT pw (Str.ofString f) = some (gd f)) (h2 : (Str.ofString f == sGraph) = false) (e : fB f = s :: r) (hp : (gd f).params = ps) (hl : ps.length = vs.length)
    (w : W (execsA (callA pw k) (s :: r) (envL ps vs)) h (Rt Q)) : W (callA pw (k + 1) (Str.ofString f) vs) h Q := by
  unfold callA
  rw [if_neg (beq_eq_false_iff_ne.mp h2), h1]
  dsimp only
  unfold runA
  rw [hp, if_pos hl]
  refine W_bind (W_mono (P := Rt Q) ?_ fun q h' n => ?_)
  · show W (execsA (callA pw k) (fB f) (fun x => (ps.zip vs).lookup x)) h _
    rw [e, envL_eq]; exact w
  · obtain ⟨fl, m'⟩ := q
    cases fl <;> exact W_pure n
theorem call_B {f : Str} {vs : List V} (h1 : FT pw f = none) (h2 : (f == sGraph) = false) (w : W (builtinA f vs) h Q) : W (callA pw (k + 1) f vs) h Q := by
  unfold callA
  rw [if_neg (beq_eq_false_iff_ne.mp h2), h1]
  exact w
theorem c_len {v : V} (w : W (lenA v) h Q) : W (callA pw (k + 1) (Str.ofString "len") [v]) h Q := call_B (by kernel_rfl) (by kernel_rfl) w
theorem c_sorted {v : V} (w : W (sortedA v) h Q) : W (callA pw (k + 1) (Str.ofString "sorted") [v]) h Q := call_B (by kernel_rfl) (by kernel_rfl) w
theorem c_list {v : V} (w : W (copyA v) h Q) : W (callA pw (k + 1) (Str.ofString "list") [v]) h Q := call_B (by kernel_rfl) (by kernel_rfl) w
theorem c_min {a b : Int} (q : Q (.int (if b < a then b else a)) h) : W (callA pw (k + 1) (Str.ofString "min") [.int a, .int b]) h Q := call_B (by kernel_rfl) (by kernel_rfl) ⟨_, _, rfl, q⟩
theorem c_max {a b : Int} (q : Q (.int (if a < b then b else a)) h) : W (callA pw (k + 1) (Str.ofString "max") [.int a, .int b]) h Q := call_B (by kernel_rfl) (by kernel_rfl) ⟨_, _, rfl, q⟩
end
end

section
set_option maxRecDepth 100000
open PySem PySem.W PyProof.Rows
local macro_rules | `(tactic| wtm_at "mine nm") => `(tactic| first | assumption | exact upd_same | exact env_same | (apply upd_ne (by kernel_rfl); wtm_at "mine nm") | (apply env_ne (by kernel_rfl); wtm_at "mine nm"))
local macro_rules | `(tactic| wtm_at "mine st") => do
  let a ← ("e_int e_str e_Cmp e_Bin e_Call es_cons es_nil s_Assign s_Return s_If t_Cmp t_Bool ts_And ts_Or ts_nilA ts_nilO t_Not t_Call nx_next nx_ret nx_cont jq_next jq_cont jq_ret rt_ret rt_next lq_next lq_ret lq_cont s_nil s_Continue p_truth p_le p_lt p_ge p_gt p_add p_sub e_List e_Tuple e_Dict s_SetItem s_Del s_Expr e_Meth e_Attr s_Unpack e_bool e_none e_Slice".splitOn " ").toArray.mapM fun n => `(Lean.Parser.Tactic.tacticSeq| refine $(Lean.mkIdent (.mkSimple n)) ?_)
  `(tactic| with_reducible first
    | (refine e_Name (v := ?v) ?e ?q; (case e => wtm_at "mine nm")) | (refine e_Sub ?q ?e; (case e => kernel_rfl)) | (first $[| $a]*)
    | (refine ab_in ?_; intro _ _) | (refine j_un (Q := ?qq) ?e ?w; (case e => assumption)))
theorem ex1 {α0 : Type} {p : α0 → Prop} {r : Prop} (h : ∃ x0, p x0) (k : ∀ x0, p x0 → r) : r := let ⟨x0, h⟩ := h; k x0 h
theorem ex2 {α0 α1 : Type} {p : α0 → α1 → Prop} {r : Prop} (h : ∃ x0 x1, p x0 x1) (k : ∀ x0 x1, p x0 x1 → r) : r := let ⟨x0, x1, h⟩ := h; k x0 x1 h
theorem ex3 {α0 α1 α2 : Type} {p : α0 → α1 → α2 → Prop} {r : Prop} (h : ∃ x0 x1 x2, p x0 x1 x2) (k : ∀ x0 x1 x2, p x0 x1 x2 → r) : r := let ⟨x0, x1, x2, h⟩ := h; k x0 x1 x2 h
theorem ex4 {α0 α1 α2 α3 : Type} {p : α0 → α1 → α2 → α3 → Prop} {r : Prop} (h : ∃ x0 x1 x2 x3, p x0 x1 x2 x3) (k : ∀ x0 x1 x2 x3, p x0 x1 x2 x3 → r) : r := let ⟨x0, x1, x2, x3, h⟩ := h; k x0 x1 x2 x3 h
theorem and3 {p0 p1 p2 r : Prop} (h : p0 ∧ p1 ∧ p2) (k : p0 → p1 → p2 → r) : r := let ⟨h0, h1, h2⟩ := h; k h0 h1 h2
theorem and4 {p0 p1 p2 p3 r : Prop} (h : p0 ∧ p1 ∧ p2 ∧ p3) (k : p0 → p1 → p2 → p3 → r) : r := let ⟨h0, h1, h2, h3⟩ := h; k h0 h1 h2 h3
theorem and5 {p0 p1 p2 p3 p4 r : Prop} (h : p0 ∧ p1 ∧ p2 ∧ p3 ∧ p4) (k : p0 → p1 → p2 → p3 → p4 → r) : r := let ⟨h0, h1, h2, h3, h4⟩ := h; k h0 h1 h2 h3 h4
theorem and6 {p0 p1 p2 p3 p4 p5 r : Prop} (h : p0 ∧ p1 ∧ p2 ∧ p3 ∧ p4 ∧ p5) (k : p0 → p1 → p2 → p3 → p4 → p5 → r) : r := let ⟨h0, h1, h2, h3, h4, h5⟩ := h; k h0 h1 h2 h3 h4 h5
theorem and7 {p0 p1 p2 p3 p4 p5 p6 r : Prop} (h : p0 ∧ p1 ∧ p2 ∧ p3 ∧ p4 ∧ p5 ∧ p6) (k : p0 → p1 → p2 → p3 → p4 → p5 → p6 → r) : r := let ⟨h0, h1, h2, h3, h4, h5, h6⟩ := h; k h0 h1 h2 h3 h4 h5 h6
theorem and8 {p0 p1 p2 p3 p4 p5 p6 p7 r : Prop} (h : p0 ∧ p1 ∧ p2 ∧ p3 ∧ p4 ∧ p5 ∧ p6 ∧ p7) (k : p0 → p1 → p2 → p3 → p4 → p5 → p6 → p7 → r) : r := let ⟨h0, h1, h2, h3, h4, h5, h6, h7⟩ := h; k h0 h1 h2 h3 h4 h5 h6 h7
theorem and9 {p0 p1 p2 p3 p4 p5 p6 p7 p8 r : Prop} (h : p0 ∧ p1 ∧ p2 ∧ p3 ∧ p4 ∧ p5 ∧ p6 ∧ p7 ∧ p8) (k : p0 → p1 → p2 → p3 → p4 → p5 → p6 → p7 → p8 → r) : r := let ⟨h0, h1, h2, h3, h4, h5, h6, h7, h8⟩ := h; k h0 h1 h2 h3 h4 h5 h6 h7 h8
theorem and10 {p0 p1 p2 p3 p4 p5 p6 p7 p8 p9 r : Prop} (h : p0 ∧ p1 ∧ p2 ∧ p3 ∧ p4 ∧ p5 ∧ p6 ∧ p7 ∧ p8 ∧ p9) (k : p0 → p1 → p2 → p3 → p4 → p5 → p6 → p7 → p8 → p9 → r) : r := let ⟨h0, h1, h2, h3, h4, h5, h6, h7, h8, h9⟩ := h; k h0 h1 h2 h3 h4 h5 h6 h7 h8 h9
theorem and11 {p0 p1 p2 p3 p4 p5 p6 p7 p8 p9 p10 r : Prop} (h : p0 ∧ p1 ∧ p2 ∧ p3 ∧ p4 ∧ p5 ∧ p6 ∧ p7 ∧ p8 ∧ p9 ∧ p10) (k : p0 → p1 → p2 → p3 → p4 → p5 → p6 → p7 → p8 → p9 → p10 → r) : r := let ⟨h0, h1, h2, h3, h4, h5, h6, h7, h8, h9, h10⟩ := h; k h0 h1 h2 h3 h4 h5 h6 h7 h8 h9 h10
theorem and12 {p0 p1 p2 p3 p4 p5 p6 p7 p8 p9 p10 p11 r : Prop} (h : p0 ∧ p1 ∧ p2 ∧ p3 ∧ p4 ∧ p5 ∧ p6 ∧ p7 ∧ p8 ∧ p9 ∧ p10 ∧ p11) (k : p0 → p1 → p2 → p3 → p4 → p5 → p6 → p7 → p8 → p9 → p10 → p11 → r) : r := let ⟨h0, h1, h2, h3, h4, h5, h6, h7, h8, h9, h10, h11⟩ := h; k h0 h1 h2 h3 h4 h5 h6 h7 h8 h9 h10 h11
theorem and13 {p0 p1 p2 p3 p4 p5 p6 p7 p8 p9 p10 p11 p12 r : Prop} (h : p0 ∧ p1 ∧ p2 ∧ p3 ∧ p4 ∧ p5 ∧ p6 ∧ p7 ∧ p8 ∧ p9 ∧ p10 ∧ p11 ∧ p12) (k : p0 → p1 → p2 → p3 → p4 → p5 → p6 → p7 → p8 → p9 → p10 → p11 → p12 → r) : r := let ⟨h0, h1, h2, h3, h4, h5, h6, h7, h8, h9, h10, h11, h12⟩ := h; k h0 h1 h2 h3 h4 h5 h6 h7 h8 h9 h10 h11 h12
theorem and14 {p0 p1 p2 p3 p4 p5 p6 p7 p8 p9 p10 p11 p12 p13 r : Prop} (h : p0 ∧ p1 ∧ p2 ∧ p3 ∧ p4 ∧ p5 ∧ p6 ∧ p7 ∧ p8 ∧ p9 ∧ p10 ∧ p11 ∧ p12 ∧ p13) (k : p0 → p1 → p2 → p3 → p4 → p5 → p6 → p7 → p8 → p9 → p10 → p11 → p12 → p13 → r) : r := let ⟨h0, h1, h2, h3, h4, h5, h6, h7, h8, h9, h10, h11, h12, h13⟩ := h; k h0 h1 h2 h3 h4 h5 h6 h7 h8 h9 h10 h11 h12 h13
theorem lim_of {n : Nat} (h : n ≤ 1000) : n ≤ lim := h
theorem lim_c {n : Nat} (h : Nat.ble n 1000 = true) : n ≤ lim := Nat.le_of_ble_eq_true h
theorem nbf {b : Bool} (h : (!b) = false) : b = true := by cases b with | true => rfl | false => cases h
theorem nbt {b : Bool} (h : (!b) = true) : b = false := by cases b with | false => rfl | true => cases h
theorem lim_lt {n : Nat} (h : n < 1000) : n < lim := h
noncomputable def sOut : Str := Str.ofString "out"
noncomputable def sCopy : Str := Str.ofString "copy"
noncomputable def sIn : Str := Str.ofString "in"
noncomputable def sConst : Str := Str.ofString "const"
noncomputable def opsL : List Str := [Str.ofString "add", Str.ofString "sub", Str.ofString "mul", Str.ofString "and", Str.ofString "or", Str.ofString "xor", Str.ofString "shl", Str.ofString "asr", Str.ofString "ror", Str.ofString "less", Str.ofString "equal"]
abbrev Row := Str × Int × Int × Int
noncomputable def rowO (r : Row) : O := .tuple [.str r.1, .int r.2.1, .int r.2.2.1, .int r.2.2.2]
noncomputable def srcs (r : Row) : List Int := if r.1 ∈ opsL then (if r.2.2.1 = r.2.2.2 then [r.2.2.1] else [r.2.2.1, r.2.2.2]) else if r.1 = sCopy ∨ r.1 = sOut then [r.2.2.1] else []
noncomputable def dfn (r : Row) : Int := if r.1 = sOut then -1 else r.2.1
abbrev Life := List (Int × Nat × Nat)
noncomputable def fnd (Λ : Life) (v : Int) : Nat × Nat := ((Λ.find? fun x => x.1 == v).map (·.2)).getD (0, 0)
noncomputable def bornK (Λ : Life) : List (Int × V) := Λ.map fun x => (x.1, .int x.2.1)
noncomputable def diesK (Λ : Life) : List (Int × V) := Λ.map fun x => (x.1, .int x.2.2)
noncomputable def meet (Λ : Life) (v w : Int) : Bool := if ((fnd Λ w).1 : Int) < ((fnd Λ v).1 : Int) then decide (((fnd Λ v).1 : Int) < ((fnd Λ w).2 : Int)) else decide (((fnd Λ w).1 : Int) < ((fnd Λ v).2 : Int))
noncomputable def clash (Λ : Life) (P R : List Int) : Bool := P.any fun v => R.any fun w => decide (v ≠ w) && meet Λ v w

theorem map_strsOf (is : List Str) : Mine.strsOf (is.map V.str) = some is := by
  induction is with
  | nil => rfl
  | cons i is ih => simp [Mine.strsOf, Mine.strOf, ih]
theorem find_some {Λ : Life} {v : Int} (h : v ∈ Λ.map (·.1)) : (Λ.find? fun x => x.1 == v) = some (v, fnd Λ v) := by
  unfold fnd
  induction Λ with
  | nil => cases h
  | cons x r ih =>
    rw [List.find?_cons]
    cases e : x.1 == v with
    | true => obtain ⟨a, b⟩ := x; have := beq_iff_eq.mp e; dsimp only at this; subst this; rfl
    | false =>
      rw [List.map_cons, List.mem_cons] at h
      exact ih (h.resolve_left fun q => by rw [q] at e; simp at e)
theorem lookD_map {α : Type} (f : α → V) (l : List (Int × α)) (v : Int) : lookD (l.map fun x => (x.1, f x.2)) v = (l.find? fun x => x.1 == v).map fun x => f x.2 := by
  unfold lookD
  rw [List.find?_map, Option.map_map]
  rfl
theorem look_born {Λ : Life} {v : Int} (h : v ∈ Λ.map (·.1)) : lookD (bornK Λ) v = some (.int (fnd Λ v).1) := by
  unfold bornK
  rw [lookD_map (fun x : Nat × Nat => V.int x.1), find_some h]; rfl
theorem look_dies {Λ : Life} {v : Int} (h : v ∈ Λ.map (·.1)) : lookD (diesK Λ) v = some (.int (fnd Λ v).2) := by
  unfold diesK
  rw [lookD_map (fun x : Nat × Nat => V.int x.2), find_some h]; rfl

section
variable {h : H} {k : Nat} {Q : V → H → Prop}
theorem p_row0 {a : Nat} {r : Row} (e : h[a]? = some (rowO r)) (q : Q (.str r.1) h) : W (getItemA (.ref a) (.int 0)) h Q := p_item_tup (i := 0) e (lim_c (by kernel_rfl)) ⟨by decide, rfl⟩ q
theorem p_row1 {a : Nat} {r : Row} (e : h[a]? = some (rowO r)) (q : Q (.int r.2.1) h) : W (getItemA (.ref a) (.int 1)) h Q := p_item_tup (i := 1) e (lim_c (by kernel_rfl)) ⟨by decide, rfl⟩ q
theorem p_row2 {a : Nat} {r : Row} (e : h[a]? = some (rowO r)) (q : Q (.int r.2.2.1) h) : W (getItemA (.ref a) (.int 2)) h Q := p_item_tup (i := 2) e (lim_c (by kernel_rfl)) ⟨by decide, rfl⟩ q
theorem p_row3 {a : Nat} {r : Row} (e : h[a]? = some (rowO r)) (q : Q (.int r.2.2.2) h) : W (getItemA (.ref a) (.int 3)) h Q := p_item_tup (i := 3) e (lim_c (by kernel_rfl)) ⟨by decide, rfl⟩ q
theorem p_pair0 {a : Nat} {u v : V} (e : h[a]? = some (.tuple [u, v])) (q : Q u h) : W (getItemA (.ref a) (.int 0)) h Q := p_item_tup (i := 0) e (lim_c (by kernel_rfl)) ⟨by decide, rfl⟩ q
theorem p_pair1 {a : Nat} {u v : V} (e : h[a]? = some (.tuple [u, v])) (q : Q v h) : W (getItemA (.ref a) (.int 1)) h Q := p_item_tup (i := 1) e (lim_c (by kernel_rfl)) ⟨by decide, rfl⟩ q
theorem p_unpack2 {ts : List Expr} {x1 x2 : Str} {v1 v2 : V} {a : Nat} {m : L} {Q : L → H → Prop} (e : namesOf ts = some [x1, x2]) (n : (x1 == x2) = false) (e2 : h[a]? = some (.tuple [v1, v2])) (q : Q (upd (upd m x1 v1) x2 v2) h) : W (unpackA ts (.ref a) m) h Q := by
  unfold unpackA
  rw [e]
  refine W_bind (p_rd e2 ?_)
  dsimp only
  rw [if_pos ⟨rfl, by simpa using n⟩]
  exact W_pure q
theorem p_unpack4 {ts : List Expr} {x1 x2 x3 x4 : Str} {v1 v2 v3 v4 : V} {a : Nat} {m : L} {Q : L → H → Prop} (e : namesOf ts = some [x1, x2, x3, x4]) (n : decide ([x1, x2, x3, x4].Nodup) = true) (e2 : h[a]? = some (.tuple [v1, v2, v3, v4]))
    (q : Q (upd (upd (upd (upd m x1 v1) x2 v2) x3 v3) x4 v4) h) : W (unpackA ts (.ref a) m) h Q := by
  unfold unpackA
  rw [e]
  refine W_bind (p_rd e2 ?_)
  dsimp only
  rw [if_pos ⟨rfl, of_decide_eq_true n⟩]
  exact W_pure q

theorem w_overlap {a b : Nat} {s e s' e' : Int} (ha : h[a]? = some (.tuple [.int s, .int e])) (hb : h[b]? = some (.tuple [.int s', .int e'])) (q : Q (.bool (decide (s ≤ e') && decide (s' ≤ e))) h) :
    W (callA pw (k + 1) (Str.ofString "overlap") [.ref a, .ref b]) h Q := by
  refine call_W (ps := [Str.ofString "one", Str.ofString "other"]) (by kernel_rfl) (by kernel_rfl) rfl (by kernel_rfl) rfl ?_
  wtm_at "mine st"
  refine e_And2 ?_
  repeat wtm_at "mine st"
  refine p_pair0 ha ?_
  repeat wtm_at "mine st"
  refine p_pair1 hb ?_
  repeat wtm_at "mine st"
  refine ⟨_, rfl, fun t => ?_, fun t => ?_⟩
  · repeat wtm_at "mine st"
    rw [t] at q; exact q
  repeat wtm_at "mine st"
  refine p_pair0 hb ?_
  repeat wtm_at "mine st"
  refine p_pair1 ha ?_
  repeat wtm_at "mine st"
  rw [t] at q; exact q

theorem w_two (q : ∀ c h1, Keep h h1 → h[c]? = none → h1[c]? = some (.tuple (opsL.map .str)) → Q (.ref c) h1) : W (callA pw (k + 1) (Str.ofString "two_operand_names") []) h Q := by
  refine call_W (ps := []) (by kernel_rfl) (by kernel_rfl) rfl (by kernel_rfl) rfl ?_
  repeat wtm_at "mine st"
  refine p_newT (lim_c (by kernel_rfl)) fun c h1 k n e => ?_
  wtm_at "mine st"
  exact q c h1 k n e

theorem w_defined {a : Nat} {r : Row} (ha : h[a]? = some (rowO r)) (q : Q (.int (dfn r)) h) : W (callA pw (k + 1) (Str.ofString "defined") [.ref a]) h Q := by
  refine call_W (ps := [Str.ofString "row"]) (by kernel_rfl) (by kernel_rfl) rfl (by kernel_rfl) rfl ?_
  repeat wtm_at "mine st"
  refine p_row0 ha ?_
  repeat wtm_at "mine st"
  refine p_eq (r := decide (r.1 = sOut)) rfl ?_
  wtm_at "mine st"
  unfold dfn at q
  refine ⟨fun t => ?_, fun t => ?_⟩
  · rw [if_pos (of_decide_eq_true t)] at q
    wtm_at "mine st"
    refine e_Neg ?_
    wtm_at "mine st"
    refine ⟨1, rfl, ?_⟩
    repeat wtm_at "mine st"
    exact q
  · rw [if_neg (of_decide_eq_false t)] at q
    repeat wtm_at "mine st"
    refine p_row1 ha ?_
    repeat wtm_at "mine st"
    exact q

theorem w_used {a : Nat} {r : Row} (ha : h[a]? = some (rowO r)) (q : ∀ c h1, Keep h h1 → h[c]? = none → h1[c]? = some (.list ((srcs r).map .int)) → Q (.ref c) h1) : W (callA pw (k + 2) (Str.ofString "used") [.ref a]) h Q := by
  refine call_W (ps := [Str.ofString "row"]) (by kernel_rfl) (by kernel_rfl) rfl (by kernel_rfl) rfl ?_
  repeat wtm_at "mine st"
  refine p_row0 ha ?_
  repeat wtm_at "mine st"
  refine w_two fun c h1 K n e => ?_
  refine p_in (r := decide (r.1 ∈ opsL)) (by show (match h1[c]? with | some (.list xs) => _ | some (.tuple xs) => _ | _ => _) = _; rw [e]; dsimp only; rw [map_strsOf]; rfl) ?_
  wtm_at "mine st"
  have ha1 := K _ _ ha
  unfold srcs at q
  refine ⟨fun t => ?_, fun t => ?_⟩
  · rw [if_pos (of_decide_eq_true t)] at q
    repeat wtm_at "mine st"
    refine p_row2 ha1 ?_
    repeat wtm_at "mine st"
    refine p_row3 ha1 ?_
    refine p_eq (r := decide (r.2.2.1 = r.2.2.2)) rfl ?_
    wtm_at "mine st"
    refine ⟨fun t => ?_, fun t => ?_⟩
    · rw [if_pos (of_decide_eq_true t)] at q
      repeat wtm_at "mine st"
      refine p_row2 ha1 ?_
      repeat wtm_at "mine st"
      refine p_newL (lim_c (by kernel_rfl)) fun c h2 K2 n2 e2 => ?_
      repeat wtm_at "mine st"
      exact q c h2 (K.trans K2) (K.dead n2) e2
    · rw [if_neg (of_decide_eq_false t)] at q
      repeat wtm_at "mine st"
      refine p_row2 ha1 ?_
      repeat wtm_at "mine st"
      refine p_row3 ha1 ?_
      repeat wtm_at "mine st"
      refine p_newL (lim_c (by kernel_rfl)) fun c h2 K2 n2 e2 => ?_
      repeat wtm_at "mine st"
      exact q c h2 (K.trans K2) (K.dead n2) e2
  · rw [if_neg (of_decide_eq_false t)] at q
    repeat wtm_at "mine st"
    refine p_row0 ha1 ?_
    repeat wtm_at "mine st"
    refine p_eq (r := decide (r.1 = sCopy)) rfl ?_
    wtm_at "mine st"
    refine ⟨fun t => ?_, fun t => ?_⟩
    · rw [if_pos (.inl (of_decide_eq_true t))] at q
      refine ⟨fun zz => ?_, fun t => (Bool.false_ne_true t.symm).elim⟩
      repeat wtm_at "mine st"
      refine p_row2 ha1 ?_
      repeat wtm_at "mine st"
      refine p_newL (lim_c (by kernel_rfl)) fun c h2 K2 n2 e2 => ?_
      repeat wtm_at "mine st"
      exact q c h2 (K.trans K2) (K.dead n2) e2
    · repeat wtm_at "mine st"
      refine p_row0 ha1 ?_
      repeat wtm_at "mine st"
      refine p_eq (r := decide (r.1 = sOut)) rfl ?_
      wtm_at "mine st"
      refine ⟨fun t2 => ?_, fun t2 => ?_⟩
      · rw [if_pos (.inr (of_decide_eq_true t2))] at q
        refine ⟨fun zz => ?_, fun t => (Bool.false_ne_true t.symm).elim⟩
        repeat wtm_at "mine st"
        refine p_row2 ha1 ?_
        repeat wtm_at "mine st"
        refine p_newL (lim_c (by kernel_rfl)) fun c h2 K2 n2 e2 => ?_
        repeat wtm_at "mine st"
        exact q c h2 (K.trans K2) (K.dead n2) e2
      · rw [if_neg (fun z => z.elim (of_decide_eq_false t) (of_decide_eq_false t2))] at q
        wtm_at "mine st"
        refine ⟨fun t => (Bool.false_ne_true t).elim, fun zz => ?_⟩
        repeat wtm_at "mine st"
        refine p_newL (lim_c (by kernel_rfl)) fun c h2 K2 n2 e2 => ?_
        repeat wtm_at "mine st"
        exact q c h2 (K.trans K2) (K.dead n2) e2
end

open PySem PySem.W PyProof.Rows

noncomputable def LifeAt (h : H) (ba da : Nat) (Λ : Life) : Prop := ∃ e1 e2, h[ba]? = some (.dict (bornK Λ) e1) ∧ h[da]? = some (.dict (diesK Λ) e2)
theorem LifeAt.keep {h h1 : H} {ba da : Nat} {Λ : Life} (x : LifeAt h ba da Λ) (K : Keep h h1) : LifeAt h1 ba da Λ := let ⟨e1, e2, a, b⟩ := x; ⟨e1, e2, K _ _ a, K _ _ b⟩
noncomputable def keys (Λ : Life) : List Int := Λ.map (·.1)

section
variable {h : H} {k : Nat} {Q : V → H → Prop} {ba da : Nat} {Λ : Life}
theorem w_meet {v w : Int} (L : LifeAt h ba da Λ) (hv : v ∈ keys Λ) (hw : w ∈ keys Λ) (q : ∀ h1, Keep h h1 → Q (.bool (meet Λ v w)) h1) : W (callA pw (k + 1) (Str.ofString "_law_meet") [.ref ba, .ref da, .int v, .int w]) h Q := by
  (revert L; refine xe2 fun e1 e2 zq1 => ?_; revert zq1; refine ae2 fun a1 a2 => ?_)
  refine call_W (ps := [Str.ofString "born", Str.ofString "dies", Str.ofString "one", Str.ofString "two"]) (by kernel_rfl) (by kernel_rfl) rfl (by kernel_rfl) rfl ?_
  repeat wtm_at "mine st"
  refine p_item_dict a1 (look_born hv) ?_
  repeat wtm_at "mine st"
  refine p_item_dict a1 (look_born hw) ?_
  repeat wtm_at "mine st"
  unfold meet at q
  refine ⟨fun t => ?_, fun t => ?_⟩
  · rw [if_pos (of_decide_eq_true t)] at q
    repeat wtm_at "mine st"
    refine p_newT (lim_c (by kernel_rfl)) fun c h1 K n e => ?_
    refine p_unpack2 (x1 := Str.ofString "one") (x2 := Str.ofString "two") (by kernel_rfl) (by kernel_rfl) e ?_
    repeat wtm_at "mine st"
    refine p_item_dict (K _ _ a2) (look_dies hw) ?_
    repeat wtm_at "mine st"
    refine p_item_dict (K _ _ a1) (look_born hv) ?_
    repeat wtm_at "mine st"
    exact q h1 K
  · rw [if_neg (of_decide_eq_false t)] at q
    repeat wtm_at "mine st"
    refine p_item_dict a2 (look_dies hv) ?_
    repeat wtm_at "mine st"
    refine p_item_dict a1 (look_born hw) ?_
    repeat wtm_at "mine st"
    exact q h (Keep.refl h)

/- what a name holds -/
abbrev Hs (m : L) (x : String) (v : V) : Prop := m (Str.ofString x) = some v

theorem w_clash {oa ta : Nat} {P R : List Int} (L : LifeAt h ba da Λ) (ho : h[oa]? = some (.list (P.map .int))) (ht : h[ta]? = some (.list (R.map .int))) (hP : ∀ v ∈ P, v ∈ keys Λ) (hR : ∀ v ∈ R, v ∈ keys Λ)
    (q : ∀ h1, Keep h h1 → Q (.bool (clash Λ P R)) h1) : W (callA pw (k + 2) (Str.ofString "_law_clash") [.ref ba, .ref da, .ref oa, .ref ta]) h Q := by
  refine call_W (ps := [Str.ofString "born", Str.ofString "dies", Str.ofString "one", Str.ofString "two"]) (by kernel_rfl) (by kernel_rfl) rfl (by kernel_rfl) rfl ?_
  refine s_ForList (by kernel_rfl) ?_
  wtm_at "mine st"
  refine forL_in (ho) (fun ys m h1 => ∃ P' : List Int, ys = P'.map .int ∧ (∀ v ∈ P', v ∈ keys Λ) ∧ clash Λ P R = clash Λ P' R ∧ Keep h h1 ∧ Hs m "born" (.ref ba) ∧ Hs m "dies" (.ref da) ∧ Hs m "two" (.ref ta))
    ⟨P, rfl, hP, rfl, Keep.refl h, by wtm_at "mine nm", by wtm_at "mine nm", by wtm_at "mine nm"⟩ ?_ ?_
  · refine fun y ys m h1 hh => ex1 hh fun P' hh => and7 hh fun e hP' hc K n1 n2 n3 => ?_
    cases P' with
    | nil => cases e
    | cons v P' =>
    cases e
    refine ab_in fun zz zz => ?_
    refine s_ForList (by kernel_rfl) ?_
    wtm_at "mine st"
    refine forL_in (K _ _ ht) (fun ys m h2 => ∃ R' : List Int, ys = R'.map .int ∧ (∀ v ∈ R', v ∈ keys Λ) ∧ clash Λ P R = ((R'.any fun w => decide (v ≠ w) && meet Λ v w) || clash Λ P' R) ∧ Keep h h2 ∧ Hs m "born" (.ref ba) ∧ Hs m "dies" (.ref da) ∧ Hs m "two" (.ref ta) ∧ Hs m "v" (.int v))
      ⟨R, rfl, hR, by rw [hc]; rfl, K, by wtm_at "mine nm", by wtm_at "mine nm", by wtm_at "mine nm", by wtm_at "mine nm"⟩ ?_ ?_
    · refine fun y ys m2 h2 hh => ex1 hh fun R' hh => and8 hh fun e hR' hc2 K2 n1 n2 n3 n4 => ?_
      cases R' with
      | nil => cases e
      | cons w R' =>
      cases e
      have fin : ∀ h3, Keep h h3 → (decide (v ≠ w) && meet Λ v w) = false → h3[ta]? = some (.list (R.map .int)) ∧ ∃ R'' : List Int, R'.map V.int = R''.map .int ∧ (∀ v ∈ R'', v ∈ keys Λ) ∧ clash Λ P R = ((R''.any fun w => decide (v ≠ w) && meet Λ v w) || clash Λ P' R) ∧ Keep h h3 ∧ Hs (upd m2 (Str.ofString "w") (.int w)) "born" (.ref ba) ∧ Hs (upd m2 (Str.ofString "w") (.int w)) "dies" (.ref da) ∧ Hs (upd m2 (Str.ofString "w") (.int w)) "two" (.ref ta) ∧ Hs (upd m2 (Str.ofString "w") (.int w)) "v" (.int v) := fun h3 K3 hf =>
        ⟨K3 _ _ ht, R', rfl, fun v hv => hR' v (List.mem_cons_of_mem _ hv), by rw [hc2, List.any_cons, hf, Bool.false_or], K3, by wtm_at "mine nm", by wtm_at "mine nm", by wtm_at "mine nm", by wtm_at "mine nm"⟩
      repeat wtm_at "mine st"
      refine p_ne (r := decide (v = w)) rfl ?_
      wtm_at "mine st"
      refine ⟨fun t => ⟨fun z => (Bool.false_ne_true z).elim, fun zz => ?_⟩, fun t => ?_⟩
      · repeat wtm_at "mine st"
        exact fin h2 K2 (by have t : v = w := by simpa using t
                            simp [t])
      · have t : ¬ v = w := by simpa using t
        repeat wtm_at "mine st"
        refine w_meet (L.keep K2) (hP' v (List.mem_cons_self)) (hR' w (List.mem_cons_self)) fun h3 K3 => ?_
        repeat wtm_at "mine st"
        refine ⟨fun t2 => ⟨fun z => (Bool.false_ne_true z).elim, fun zz => ?_⟩, fun t2 => ?_⟩
        · repeat wtm_at "mine st"
          exact fin h3 (K2.trans K3) (by rw [t2]; simp)
        · repeat wtm_at "mine st"
          refine ⟨fun zz => ?_, fun z => (Bool.false_ne_true z.symm).elim⟩
          repeat wtm_at "mine st"
          have := q h3 (K2.trans K3)
          rw [hc2, List.any_cons, t2] at this
          simpa [t] using this
    · refine fun m2 h2 hh => ex1 hh fun R' hh => and8 hh fun e zz hc2 K2 n1 n2 n3 n4 => ?_
      cases R' with
      | cons _ _ => cases e
      | nil =>
      repeat wtm_at "mine st"
      exact ⟨K2 _ _ ho, P', rfl, fun v hv => hP' v (List.mem_cons_of_mem _ hv), hc2, K2, n1, n2, n3⟩
  · refine fun m h1 hh => ex1 hh fun P' hh => and7 hh fun e zz hc K n1 n2 n3 => ?_
    cases P' with
    | cons _ _ => cases e
    | nil =>
    repeat wtm_at "mine st"
    have := q h1 K
    rw [hc] at this
    exact this
end

open PySem PySem.W PyProof.Rows

noncomputable def touch (i : Nat) (s : Int) (Λ : Life) : Life := Λ.map fun x => if x.1 = s then (x.1, x.2.1, i) else x
noncomputable def stepL (i : Nat) (r : Row) (Λ : Life) : Life := if r.1 = sOut then (srcs r).foldl (fun Λ s => touch i s Λ) Λ else (srcs r).foldl (fun Λ s => touch i s Λ) Λ ++ [(r.2.1, i, i)]
noncomputable def lifeK (R : List Row) : Nat → Life
  | 0 => []
  | k + 1 => match R[k]? with
    | some r => stepL k r (lifeK R k)
    | none => lifeK R k
noncomputable def okOp (r : Row) : Prop := r.1 ∈ opsL ∨ r.1 = sCopy ∨ r.1 = sOut ∨ r.1 = sIn ∨ r.1 = sConst
structure OkRow (r : Row) (Λ : Life) : Prop where
  op : okOp r
  src : ∀ s ∈ srcs r, s ∈ keys Λ
  def_ : r.1 ≠ sOut → 0 ≤ r.2.1 ∧ r.2.1 ∉ keys Λ
structure Wf (R : List Row) : Prop where
  row : ∀ k r, R[k]? = some r → OkRow r (lifeK R k)
  len : R.length ≤ 30
noncomputable def RowsAt (h : H) (vs : List V) (R : List Row) : Prop := vs.length = R.length ∧ ∀ (k : Nat) (r : Row), R[k]? = some r → ∃ a, vs[k]? = some (.ref a) ∧ h[a]? = some (rowO r)
theorem RowsAt.keep {h h1 : H} {vs : List V} {R : List Row} (x : RowsAt h vs R) (K : Keep h h1) : RowsAt h1 vs R := ⟨x.1, fun k r e => let ⟨a, e1, e2⟩ := x.2 k r e; ⟨a, e1, K _ _ e2⟩⟩

theorem touch_keys (i : Nat) (s : Int) (Λ : Life) : keys (touch i s Λ) = keys Λ := by
  unfold keys touch
  rw [List.map_map]
  apply List.map_congr_left
  intro x _
  show (if x.1 = s then (x.1, x.2.1, i) else x).1 = x.1
  split <;> rfl
theorem touches_keys (i : Nat) : ∀ (l : List Int) (Λ : Life), keys (l.foldl (fun Λ s => touch i s Λ) Λ) = keys Λ
  | [], _ => rfl
  | s :: l, Λ => by rw [List.foldl_cons, touches_keys i l, touch_keys]
theorem keys_len (Λ : Life) : (keys Λ).length = Λ.length := List.length_map ..
theorem stepL_keys (i : Nat) (r : Row) (Λ : Life) : keys (stepL i r Λ) = if r.1 = sOut then keys Λ else keys Λ ++ [r.2.1] := by
  unfold stepL
  split
  · exact touches_keys ..
  · show (_ ++ _ : Life).map (·.1) = _
    rw [List.map_append]
    show keys _ ++ _ = _
    rw [touches_keys]; rfl
theorem lifeK_succ {R : List Row} {k : Nat} {r : Row} (e : R[k]? = some r) : lifeK R (k + 1) = stepL k r (lifeK R k) := by
  show (match R[k]? with | some r => _ | none => _) = _
  rw [e]
theorem lifeK_len (R : List Row) : ∀ k, (lifeK R k).length ≤ k
  | 0 => Nat.le_refl _
  | k + 1 => by
    have ih := lifeK_len R k
    cases e : R[k]? with
    | none => show (match R[k]? with | some r => _ | none => _ : Life).length ≤ _; rw [e]; exact Nat.le_succ_of_le ih
    | some r =>
      rw [lifeK_succ e, ← keys_len, stepL_keys]
      split
      · rw [keys_len]; exact Nat.le_succ_of_le ih
      · rw [List.length_append, keys_len]; exact Nat.succ_le_succ ih
theorem touch_snoc (i : Nat) (s v : Int) (Λ : Life) : touch i s (Λ ++ [(v, i, i)]) = touch i s Λ ++ [(v, i, i)] := by
  unfold touch
  rw [List.map_append]
  simp
theorem touches_snoc (i : Nat) (v : Int) : ∀ (l : List Int) (Λ : Life), l.foldl (fun Λ s => touch i s Λ) (Λ ++ [(v, i, i)]) = l.foldl (fun Λ s => touch i s Λ) Λ ++ [(v, i, i)]
  | [], _ => rfl
  | s :: l, Λ => by rw [List.foldl_cons, touch_snoc, touches_snoc i v l, List.foldl_cons]
theorem touch_twice (i : Nat) (s : Int) (Λ : Life) : touch i s (touch i s Λ) = touch i s Λ := by
  unfold touch
  rw [List.map_map]
  apply List.map_congr_left
  intro x _
  show (if (if x.1 = s then (x.1, x.2.1, i) else x).1 = s then _ else _) = _
  by_cases e : x.1 = s <;> simp [e]
theorem born_touch (i : Nat) (s : Int) (Λ : Life) : bornK (touch i s Λ) = bornK Λ := by
  unfold bornK touch
  rw [List.map_map]
  apply List.map_congr_left
  intro x _
  show ((if x.1 = s then (x.1, x.2.1, i) else x).1, V.int (if x.1 = s then (x.1, x.2.1, i) else x).2.1) = _
  split <;> rfl
theorem dies_touch (i : Nat) (s : Int) (Λ : Life) : setD (diesK Λ) s (.int i) = diesK (touch i s Λ) := by
  unfold diesK touch setD
  rw [List.map_map, List.map_map]
  apply List.map_congr_left
  intro x _
  show (if x.1 = s then (s, V.int i) else (x.1, V.int x.2.2)) = ((if x.1 = s then (x.1, x.2.1, i) else x).1, V.int (if x.1 = s then (x.1, x.2.1, i) else x).2.2)
  split
  · rename_i e; rw [e]
  · rfl
theorem born_keys (Λ : Life) : (bornK Λ).map (·.1) = keys Λ := by unfold bornK; rw [List.map_map]; rfl
theorem dies_keys (Λ : Life) : (diesK Λ).map (·.1) = keys Λ := by unfold diesK; rw [List.map_map]; rfl
theorem put_dies {Λ : Life} {ep i : Nat} {s : Int} (e : s ∈ keys Λ) : putD (diesK Λ) ep s (.int i) = .dict (diesK (touch i s Λ)) ep := by
  unfold putD
  rw [dies_keys, if_pos e, dies_touch]
theorem put_born_new {Λ : Life} {ep i : Nat} {s : Int} (e : s ∉ keys Λ) : putD (bornK Λ) ep s (.int i) = .dict (bornK (Λ ++ [(s, i, i)])) (ep + 1) := by
  unfold putD
  rw [born_keys, if_neg e]
  simp [bornK]
theorem put_dies_new {Λ : Life} {ep i : Nat} {s : Int} (e : s ∉ keys Λ) : putD (diesK Λ) ep s (.int i) = .dict (diesK (Λ ++ [(s, i, i)])) (ep + 1) := by
  unfold putD
  rw [dies_keys, if_neg e]
  simp [diesK]
theorem LifeAt.upd {h h1 : H} {ba da : Nat} {Λ Λ' : Life} {e : Nat} (x : LifeAt h ba da Λ) (n : ba ≠ da) (u : Upd da (.dict (diesK Λ') e) h h1) (b : bornK Λ' = bornK Λ) : LifeAt h1 ba da Λ' := by
  (revert x; refine xe2 fun e1 e2 zq1 => ?_; revert zq1; refine ae2 fun a1 a2 => ?_)
  exact ⟨e1, e, by rw [b]; exact u.other a1 n, u.1⟩
/- what is not a source of a row -/
theorem src_out {r : Row} (e : r.1 = sOut) : srcs r = [r.2.2.1] := by
  unfold srcs
  rw [if_neg (by rw [e]; decide), if_pos (.inr e)]
theorem src_copy {r : Row} (e : r.1 = sCopy) : srcs r = [r.2.2.1] := by
  unfold srcs
  rw [if_neg (by rw [e]; decide), if_pos (.inl e)]
theorem src_none {r : Row} (e : r.1 = sIn ∨ r.1 = sConst) : srcs r = [] := by
  unfold srcs
  rw [if_neg (by rcases e with e | e <;> (rw [e]; decide)), if_neg (by rcases e with e | e <;> (rw [e]; decide))]
theorem src_op {r : Row} (e : r.1 ∈ opsL) (i : Nat) (Λ : Life) : (srcs r).foldl (fun Λ s => touch i s Λ) Λ = touch i r.2.2.2 (touch i r.2.2.1 Λ) ∧ r.2.2.1 ∈ srcs r ∧ r.2.2.2 ∈ srcs r := by
  unfold srcs
  rw [if_pos e]
  split
  · rename_i q
    exact ⟨by rw [← q, touch_twice]; rfl, List.mem_cons_self, by rw [q]; exact List.mem_cons_self⟩
  · exact ⟨rfl, List.mem_cons_self, List.mem_cons_of_mem _ List.mem_cons_self⟩

section
variable {h : H} {k : Nat} {Q : V → H → Prop} {R : List Row} {vs : List V} {ra : Nat}
theorem w_lives (hr : h[ra]? = some (.list vs)) (A : RowsAt h vs R) (wf : Wf R)
    (q : ∀ c ba da h1, Keep h h1 → h1[c]? = some (.tuple [.ref ba, .ref da]) → LifeAt h1 ba da (lifeK R R.length) → Q (.ref c) h1) : W (callA pw (k + 2) (Str.ofString "_law_lives") [.ref ra]) h Q := by
  have hlen : vs.length ≤ 30 := A.1 ▸ wf.len
  have small : ∀ j, j < R.length → (lifeK R j).length ≤ 1000 := fun j hj => Nat.le_trans (lifeK_len R j) (Nat.le_trans (Nat.le_of_lt hj) (Nat.le_trans wf.len (by decide)))
  refine call_W (ps := [Str.ofString "made"]) (by kernel_rfl) (by kernel_rfl) rfl (by kernel_rfl) rfl ?_
  repeat wtm_at "mine st"
  refine p_newD fun ba h1 K1 n1 a1 => ?_
  repeat wtm_at "mine st"
  refine p_newD fun da h2 K2 n2 a2 => ?_
  have hbd : ba ≠ da := ne_of_new a1 n2
  refine s_ForR ?_
  repeat wtm_at "mine st"
  refine c_len (p_len_list (K2 _ _ (K1 _ _ hr)) (lim_of (by omega)) ?_)
  rw [A.1]
  refine forN_in (n := R.length) (lim_of (by have := wf.len; omega)) (fun j m h3 => Keep h h3 ∧ LifeAt h3 ba da (lifeK R j) ∧ Hs m "made" (.ref ra) ∧ Hs m "born" (.ref ba) ∧ Hs m "dies" (.ref da)) ⟨K1.trans K2, ⟨0, 0, K2 _ _ a1, a2⟩, by wtm_at "mine nm", by wtm_at "mine nm", by wtm_at "mine nm"⟩ ?_ ?_ rfl
  · intro j m h3 hj zq
    (revert zq; refine ae5 fun K L m1 m2 m3 => ?_)
    have hrj : R[j]? = some R[j] := List.getElem?_eq_getElem hj
    (refine xe1 (fun a zq1 => ?_) (A.2 j _ hrj); revert zq1; refine ae2 fun hva har => ?_)
    have ok := wf.row j _ hrj
    generalize hrr : R[j] = r at hrj har ok
    have b0 : h[ba]? = none := n1
    have d0 : h[da]? = none := K1.dead n2
    repeat wtm_at "mine st"
    refine p_item_list (K _ _ hr) (lim_of (by omega)) ⟨Int.natCast_nonneg j, hva⟩ ?_
    refine p_unpack4 (x1 := Str.ofString "op") (x2 := Str.ofString "first") (x3 := Str.ofString "left") (x4 := Str.ofString "right") (by kernel_rfl) (by decide) (K _ _ har) ?_
    refine s_IfJ (fun m h4 => ∃ Λ', Keep h h4 ∧ LifeAt h4 ba da Λ' ∧ Λ'.length ≤ 1000 ∧ (∀ s ∈ srcs r, s ∈ keys Λ') ∧ (srcs r).foldl (fun Λ s => touch j s Λ) Λ' = lifeK R (j + 1) ∧
        Hs m "made" (.ref ra) ∧ Hs m "born" (.ref ba) ∧ Hs m "dies" (.ref da) ∧ Hs m "at" (.int j) ∧ Hs m "op" (.str r.1) ∧ Hs m "left" (.int r.2.2.1) ∧ Hs m "right" (.int r.2.2.2)) ?_ ?_
    · have hsucc := lifeK_succ hrj
      unfold stepL at hsucc
      (refine xe2 (fun eb ed zq1 => ?_) (id L); revert zq1; refine ae2 fun f1 f2 => ?_)
      repeat wtm_at "mine st"
      refine p_ne (r := decide (r.1 = sOut)) rfl ?_
      wtm_at "mine st"
      refine ⟨fun t => ?_, fun t => ?_⟩
      · have t : ¬ r.1 = sOut := by simpa using t
        rw [if_neg t] at hsucc
        (refine ae2 (fun zz hnew => ?_) (ok.def_ t))
        repeat wtm_at "mine st"
        refine p_set_dict f1 (lim_of (by unfold bornK; rw [List.length_map]; exact small j hj)) fun h4 u => ?_
        rw [put_born_new hnew] at u
        repeat wtm_at "mine st"
        refine p_set_dict (u.other f2 (Ne.symm hbd)) (lim_of (by unfold diesK; rw [List.length_map]; exact small j hj)) fun h5 u2 => ?_
        rw [put_dies_new hnew] at u2
        repeat wtm_at "mine st"
        refine ⟨lifeK R j ++ [(r.2.1, j, j)], (K.upd u b0).upd u2 d0, ⟨_, _, u2.other u.1 hbd, u2.1⟩, by rw [List.length_append]; have := lifeK_len R j; have := wf.len; simp; omega, fun s hs => ?_, by rw [hsucc, touches_snoc], ?_, ?_, ?_, ?_, ?_, ?_, ?_⟩
        · unfold keys; rw [List.map_append]; exact List.mem_append_left _ (ok.src s hs)
        all_goals wtm_at "mine nm"
      · have t : r.1 = sOut := by simpa using t
        rw [if_pos t] at hsucc
        repeat wtm_at "mine st"
        refine ⟨lifeK R j, K, L, small j hj, ok.src, hsucc.symm, ?_, ?_, ?_, ?_, ?_, ?_, ?_⟩
        all_goals wtm_at "mine nm"
    · intro m h4 zq
      (revert zq; refine xe1 fun Λ' zq1 => ?_; revert zq1; refine ae8 fun K L hl hs hf m1 m2 zq2 => ?_; revert zq2; refine ae5 fun m3 m4 m5 m6 m7 => ?_)
      repeat wtm_at "mine st"
      refine p_newL (lim_c (by kernel_rfl)) fun c h5 K5 n5 e5 => ?_
      refine p_in (r := decide (r.1 ∈ [sCopy, sOut])) (by show (match h5[c]? with | some (.list xs) => _ | some (.tuple xs) => _ | _ => _) = _; rw [e5]; rfl) ?_
      wtm_at "mine st"
      have L5 := L.keep K5
      have K5 := K.trans K5
      (refine xe2 (fun eb ed zq1 => ?_) (id L5); revert zq1; refine ae2 fun f1 f2 => ?_)
      refine ⟨fun t => ?_, fun t => ?_⟩
      · have hsrc : srcs r = [r.2.2.1] := by
          have := of_decide_eq_true t
          simp only [List.mem_cons, List.not_mem_nil, or_false] at this
          rcases this with t | t
          · exact src_copy t
          · exact src_out t
        rw [hsrc] at hf hs
        repeat wtm_at "mine st"
        refine p_set_dict f2 (lim_of (by unfold diesK; rw [List.length_map]; exact hl)) fun h6 u => ?_
        rw [put_dies (hs _ List.mem_cons_self)] at u
        repeat wtm_at "mine st"
        refine ⟨K5.upd u d0, ?_, by wtm_at "mine nm", by wtm_at "mine nm", by wtm_at "mine nm"⟩
        rw [← hf]
        exact L5.upd hbd u (born_touch ..)
      · repeat wtm_at "mine st"
        refine p_newL (lim_c (by kernel_rfl)) fun c' h6 K6 n6 e6 => ?_
        refine p_nin (r := decide (r.1 ∈ [sConst, sIn])) (by show (match h6[c']? with | some (.list xs) => _ | some (.tuple xs) => _ | _ => _) = _; rw [e6]; rfl) ?_
        wtm_at "mine st"
        have L6 := L5.keep K6
        have K6 := K5.trans K6
        (refine xe2 (fun eb ed zq1 => ?_) (id L6); revert zq1; refine ae2 fun f1 f2 => ?_)
        refine ⟨fun t2 => ?_, fun t2 => ?_⟩
        · have hop : r.1 ∈ opsL := by
            have t := of_decide_eq_false t
            have t2 : ¬ r.1 ∈ [sConst, sIn] := by simpa using t2
            simp only [List.mem_cons, List.not_mem_nil, or_false, not_or] at t t2
            rcases ok.op with q | q | q | q | q
            · exact q
            · exact absurd q t.1
            · exact absurd q t.2
            · exact absurd q t2.2
            · exact absurd q t2.1
          (refine ae3 (fun s1 s2 s3 => ?_) (src_op hop j Λ'))
          rw [s1] at hf
          repeat wtm_at "mine st"
          refine p_set_dict f2 (lim_of (by unfold diesK; rw [List.length_map]; exact hl)) fun h7 u => ?_
          rw [put_dies (hs _ s2)] at u
          have L7 := L6.upd hbd u (born_touch ..)
          (refine xe2 (fun eb ed zq1 => ?_) (id L7); revert zq1; refine ae2 fun g1 g2 => ?_)
          repeat wtm_at "mine st"
          refine p_set_dict g2 (lim_of (by unfold diesK touch; rw [List.length_map, List.length_map]; exact hl)) fun h8 u2 => ?_
          rw [put_dies (by rw [touch_keys]; exact hs _ s3)] at u2
          repeat wtm_at "mine st"
          refine ⟨(K6.upd u d0).upd u2 d0, ?_, by wtm_at "mine nm", by wtm_at "mine nm", by wtm_at "mine nm"⟩
          rw [← hf]
          exact L7.upd hbd u2 (born_touch ..)
        · have hsrc : srcs r = [] := by
            have t2 := of_decide_eq_true (nbf t2)
            simp only [List.mem_cons, List.not_mem_nil, or_false] at t2
            exact src_none t2.symm
          rw [hsrc] at hf
          repeat wtm_at "mine st"
          refine ⟨K6, ?_, by wtm_at "mine nm", by wtm_at "mine nm", by wtm_at "mine nm"⟩
          rw [← hf]
          exact L6
  · intro m h3 zq
    (revert zq; refine ae5 fun K L m1 m2 m3 => ?_)
    repeat wtm_at "mine st"
    refine p_newT (lim_c (by kernel_rfl)) fun c h4 K4 n4 e4 => ?_
    repeat wtm_at "mine st"
    exact q c ba da h4 (K.trans K4) e4 (L.keep K4)
end

open PySem PySem.W PyProof.Rows

theorem fnd_touch {i : Nat} {s v : Int} {Λ : Life} (h : v ∈ keys Λ) : fnd (touch i s Λ) v = if v = s then ((fnd Λ v).1, i) else fnd Λ v := by
  have e : (touch i s Λ).find? (fun x => x.1 == v) = (Λ.find? fun x => x.1 == v).map fun x => if x.1 = s then (x.1, x.2.1, i) else x := by
    unfold touch
    rw [List.find?_map]
    congr 1
    apply congrArg (fun p => List.find? p Λ)
    funext x
    show ((if x.1 = s then (x.1, x.2.1, i) else x).1 == v) = _
    split <;> rfl
  have f := find_some h
  rw [f] at e
  show ((List.find? _ (touch i s Λ)).map (·.2)).getD (0, 0) = _
  rw [e]
  show (if v = s then (v, (fnd Λ v).1, i) else (v, fnd Λ v)).2 = _
  split <;> rfl
theorem find_none {Λ : Life} {v : Int} (h : v ∉ keys Λ) : (Λ.find? fun x => x.1 == v) = none := by
  rw [List.find?_eq_none]
  intro x hx e
  exact h (beq_iff_eq.mp e ▸ List.mem_map_of_mem hx)
theorem fnd_snoc_old {i j : Nat} {s v : Int} {Λ : Life} (h : v ∈ keys Λ) : fnd (Λ ++ [(s, i, j)]) v = fnd Λ v := by
  show ((List.find? _ (Λ ++ [(s, i, j)])).map (·.2)).getD (0, 0) = _
  rw [List.find?_append, find_some h]; rfl
theorem fnd_snoc_new {i j : Nat} {s : Int} {Λ : Life} (h : s ∉ keys Λ) : fnd (Λ ++ [(s, i, j)]) s = (i, j) := by
  show ((List.find? _ (Λ ++ [(s, i, j)])).map (·.2)).getD (0, 0) = _
  rw [List.find?_append, find_none h]
  simp
theorem keys_snoc (Λ : Life) (x : Int × Nat × Nat) : keys (Λ ++ [x]) = keys Λ ++ [x.1] := by unfold keys; simp

/- what is known of the lives behind k rows -/
structure LifeOk (k : Nat) (Λ : Life) : Prop where
  nodup : (keys Λ).Nodup
  nonneg : ∀ v ∈ keys Λ, 0 ≤ v
  bnd : ∀ v ∈ keys Λ, (fnd Λ v).1 < k ∧ (fnd Λ v).1 ≤ (fnd Λ v).2
  inj : ∀ v ∈ keys Λ, ∀ w ∈ keys Λ, v ≠ w → (fnd Λ v).1 ≠ (fnd Λ w).1
theorem LifeOk.touch {k : Nat} {Λ : Life} (x : LifeOk k Λ) (s : Int) : LifeOk k (touch k s Λ) := by
  have kk := touch_keys k s Λ
  have f1 : ∀ v ∈ keys Λ, (fnd (Mine.touch k s Λ) v).1 = (fnd Λ v).1 := fun v hv => by rw [fnd_touch hv]; split <;> rfl
  refine ⟨by rw [kk]; exact x.nodup, fun v hv => x.nonneg v (kk ▸ hv), fun v hv => ?_, fun v hv w hw n => ?_⟩
  · rw [kk] at hv
    have := x.bnd v hv
    rw [fnd_touch hv]
    split
    · exact ⟨this.1, Nat.le_of_lt this.1⟩
    · exact this
  · rw [kk] at hv hw
    rw [f1 v hv, f1 w hw]
    exact x.inj v hv w hw n
theorem LifeOk.touches {k : Nat} : ∀ (l : List Int) {Λ : Life}, LifeOk k Λ → LifeOk k (l.foldl (fun Λ s => Mine.touch k s Λ) Λ)
  | [], _, x => x
  | s :: l, _, x => LifeOk.touches l (x.touch s)
theorem LifeOk.up {k : Nat} {Λ : Life} (x : LifeOk k Λ) : LifeOk (k + 1) Λ := ⟨x.nodup, x.nonneg, fun v hv => ⟨Nat.lt_succ_of_lt (x.bnd v hv).1, (x.bnd v hv).2⟩, x.inj⟩
theorem LifeOk.snoc {k : Nat} {Λ : Life} (x : LifeOk k Λ) {s : Int} (h : s ∉ keys Λ) (h0 : 0 ≤ s) : LifeOk (k + 1) (Λ ++ [(s, k, k)]) := by
  have kk := keys_snoc Λ (s, k, k)
  have old : ∀ v, v ∈ keys (Λ ++ [(s, k, k)]) → v ∈ keys Λ ∨ v = s := fun v hv => by
    rw [kk] at hv
    rcases List.mem_append.mp hv with q | q
    · exact .inl q
    · exact .inr (List.mem_singleton.mp q)
  refine ⟨?_, fun v hv => ?_, fun v hv => ?_, fun v hv w hw n => ?_⟩
  · rw [kk, List.nodup_append]
    exact ⟨x.nodup, by simp, fun a ha b hb e => h ((show b = s from List.mem_singleton.mp hb) ▸ e ▸ ha)⟩
  · rcases old v hv with q | rfl
    · exact x.nonneg v q
    · exact h0
  · rcases old v hv with q | rfl
    · rw [fnd_snoc_old q]; exact ⟨Nat.lt_succ_of_lt (x.bnd v q).1, (x.bnd v q).2⟩
    · rw [fnd_snoc_new h]; exact ⟨Nat.lt_succ_self k, Nat.le_refl k⟩
  · rcases old v hv with q | rfl
    · rcases old w hw with q2 | rfl
      · rw [fnd_snoc_old q, fnd_snoc_old q2]; exact x.inj v q w q2 n
      · rw [fnd_snoc_old q, fnd_snoc_new h]; exact Nat.ne_of_lt (x.bnd v q).1
    · rcases old w hw with q2 | rfl
      · rw [fnd_snoc_old q2, fnd_snoc_new h]; exact Nat.ne_of_gt (x.bnd w q2).1
      · exact absurd rfl n
theorem lifeOk {R : List Row} (wf : Wf R) : ∀ k, LifeOk k (lifeK R k)
  | 0 => ⟨List.Pairwise.nil, fun v h => (nomatch h), fun v h => (nomatch h), fun v h => (nomatch h)⟩
  | k + 1 => by
    have ih := lifeOk wf k
    cases e : R[k]? with
    | none =>
      have : lifeK R (k + 1) = lifeK R k := by show (match R[k]? with | some r => _ | none => _) = _; rw [e]
      rw [this]; exact ih.up
    | some r =>
      rw [lifeK_succ e]
      have ok := wf.row k r e
      unfold stepL
      split
      · exact (ih.touches _).up
      · rename_i n
        (refine ae2 (fun d0 d1 => ?_) (ok.def_ n))
        exact (ih.touches _).snoc (by rw [touches_keys]; exact d1) d0

/- the end of a span -/
noncomputable def endK (p : Nat × Nat) : Int := if p.2 = p.1 then 2 * (p.1 : Int) + 1 else 2 * (p.2 : Int)
noncomputable def spanO (p : Nat × Nat) : O := .tuple [.int (2 * (p.1 : Int) + 1), .int (endK p)]
structure FA (h : H) (kvs : List (Int × V)) (Λ : Life) : Prop where
  keys : kvs.map (·.1) = keys Λ
  at_ : ∀ v ∈ Mine.keys Λ, ∃ a, lookD kvs v = some (.ref a) ∧ h[a]? = some (spanO (fnd Λ v))
theorem FA.keep {h h1 : H} {kvs : List (Int × V)} {Λ : Life} (x : FA h kvs Λ) (K : Keep h h1) : FA h1 kvs Λ := ⟨x.keys, fun v hv => let ⟨a, e1, e2⟩ := x.at_ v hv; ⟨a, e1, K _ _ e2⟩⟩
theorem lookD_setD {kvs : List (Int × V)} {s v : Int} {x : V} (h : v ∈ kvs.map (·.1)) : lookD (setD kvs s x) v = if v = s then some x else lookD kvs v := by
  induction kvs with
  | nil => cases h
  | cons p r ih =>
    unfold setD lookD at ih ⊢
    rw [List.map_cons, List.find?_cons, List.find?_cons]
    have hp : (if p.1 = s then (s, x) else p).1 = p.1 := by split <;> simp [*]
    rw [hp]
    cases e : p.1 == v with
    | true =>
      have e := beq_iff_eq.mp e
      by_cases q : p.1 = s
      · rw [if_pos q, if_pos (e ▸ q)]; rfl
      · rw [if_neg q, if_neg (e ▸ q)]
    | false =>
      rw [List.map_cons, List.mem_cons] at h
      exact ih (h.resolve_left fun q => by rw [q] at e; simp at e)
theorem lookD_none {kvs : List (Int × V)} {v : Int} (h : v ∉ kvs.map (·.1)) : lookD kvs v = none := by
  unfold lookD
  rw [Option.map_eq_none_iff, List.find?_eq_none]
  intro x hx e
  exact h (beq_iff_eq.mp e ▸ List.mem_map_of_mem hx)
theorem lookD_snoc_old {kvs : List (Int × V)} {s v : Int} {x : V} (h : v ∈ kvs.map (·.1)) : lookD (kvs ++ [(s, x)]) v = lookD kvs v := by
  unfold lookD
  rw [List.find?_append]
  cases e : kvs.find? (fun p => p.1 == v) with
  | some y => rfl
  | none =>
    rw [List.find?_eq_none] at e
    (refine xe1 (fun y zq1 => ?_) (List.mem_map.mp h); revert zq1; refine ae2 fun hy zq2 => ?_; subst zq2)
    exact absurd (beq_self_eq_true _) (e y hy)
theorem lookD_snoc_new {kvs : List (Int × V)} {s : Int} {x : V} (h : s ∉ kvs.map (·.1)) : lookD (kvs ++ [(s, x)]) s = some x := by
  have := lookD_none h
  unfold lookD at this ⊢
  rw [Option.map_eq_none_iff] at this
  rw [List.find?_append, this]
  simp

section
variable {h : H} {k : Nat} {Q : V → H → Prop} {R : List Row} {vs : List V} {ra : Nat}
theorem w_spans (hr : h[ra]? = some (.list vs)) (A : RowsAt h vs R) (wf : Wf R)
    (q : ∀ c kvs ep h1, Keep h h1 → h1[c]? = some (.dict kvs ep) → FA h1 kvs (lifeK R R.length) → Q (.ref c) h1) : W (callA pw (k + 3) (Str.ofString "spans") [.ref ra]) h Q := by
  have hlen : vs.length ≤ 30 := A.1 ▸ wf.len
  have small : ∀ j, j < R.length → (lifeK R j).length ≤ 30 := fun j hj => Nat.le_trans (lifeK_len R j) (Nat.le_trans (Nat.le_of_lt hj) wf.len)
  refine call_W (ps := [Str.ofString "rows"]) (by kernel_rfl) (by kernel_rfl) rfl (by kernel_rfl) rfl ?_
  repeat wtm_at "mine st"
  refine p_newD fun fa h1 K1 n1 a1 => ?_
  refine s_ForR ?_
  repeat wtm_at "mine st"
  refine c_len (p_len_list (K1 _ _ hr) (lim_of (by omega)) ?_)
  rw [A.1]
  refine forN_in (n := R.length) (lim_of (by have := wf.len; omega)) (fun j m h3 => ∃ kvs ep, Keep h h3 ∧ h3[fa]? = some (.dict kvs ep) ∧ FA h3 kvs (lifeK R j) ∧ Hs m "rows" (.ref ra) ∧ Hs m "found" (.ref fa)) ⟨[], 0, K1, a1, ⟨rfl, fun v h => (nomatch h)⟩, by wtm_at "mine nm", by wtm_at "mine nm"⟩ ?_ ?_ rfl
  · refine fun j m h3 hj hh => ex2 hh fun kvs ep hh => and5 hh fun K f3 F m1 m2 => ?_
    have hrj : R[j]? = some R[j] := List.getElem?_eq_getElem hj
    (refine xe1 (fun a zq1 => ?_) (A.2 j _ hrj); revert zq1; refine ae2 fun hva har => ?_)
    have ok := wf.row j _ hrj
    have lo := lifeOk wf j
    generalize hrr : R[j] = r at hrj har ok
    refine ab_in fun zz zz => ?_
    refine s_ForList (by kernel_rfl) ?_
    repeat wtm_at "mine st"
    refine p_item_list (K _ _ hr) (lim_of (by omega)) ⟨Int.natCast_nonneg j, hva⟩ ?_
    wtm_at "mine st"
    refine w_used (K _ _ har) fun c h4 K4 n4 e4 => ?_
    have hcf : c ≠ fa := (ne_of_new f3 n4).symm
    refine ⟨_, _, rfl, e4, fun ys m h5 => ∃ rest Λ' kvs ep, ys = rest.map .int ∧ rest.foldl (fun Λ s => touch j s Λ) Λ' = (srcs r).foldl (fun Λ s => touch j s Λ) (lifeK R j) ∧ keys Λ' = keys (lifeK R j) ∧ LifeOk j Λ' ∧ (∀ s ∈ rest, s ∈ keys Λ') ∧
        Keep h h5 ∧ h5[fa]? = some (.dict kvs ep) ∧ h5[c]? = some (.list ((srcs r).map .int)) ∧ FA h5 kvs Λ' ∧ Hs m "rows" (.ref ra) ∧ Hs m "found" (.ref fa) ∧ Hs m "index" (.int j),
      ⟨srcs r, lifeK R j, kvs, ep, rfl, rfl, rfl, lo, ok.src, K.trans K4, K4 _ _ f3, e4, F.keep K4, by wtm_at "mine nm", by wtm_at "mine nm", by wtm_at "mine nm"⟩, ?_, ?_⟩
    · refine fun y ys m h5 hh => ex4 hh fun rest Λ' kvs ep hh => and12 hh fun e hf hk lo hs K f5 c5 F m1 m2 m3 => ?_
      cases rest with
      | nil => cases e
      | cons s rest =>
      cases e
      have hsk := hs s List.mem_cons_self
      (refine xe1 (fun x zq1 => ?_) (F.at_ s hsk); revert zq1; refine ae2 fun x1 x2 => ?_)
      have hl : kvs.length ≤ 30 := by
        have := congrArg List.length F.keys
        rw [List.length_map, hk, keys_len] at this
        exact this ▸ small j hj
      repeat wtm_at "mine st"
      refine p_item_dict f5 x1 ?_
      repeat wtm_at "mine st"
      refine p_pair0 x2 ?_
      repeat wtm_at "mine st"
      refine p_mul ⟨by decide, by have := wf.len; unfold big; omega⟩ ?_
      repeat wtm_at "mine st"
      refine p_newT (lim_c (by kernel_rfl)) fun d h6 K6 n6 e6 => ?_
      repeat wtm_at "mine st"
      refine p_set_dict (K6 _ _ f5) (lim_of (by omega)) fun h7 u => ?_
      have hsk' : s ∈ kvs.map (·.1) := by rw [F.keys]; exact hsk
      unfold putD at u
      rw [if_pos hsk'] at u
      have hfn : h[fa]? = none := n1
      have F6 := F.keep K6
      have hb := lo.bnd s hsk
      have K7 : Keep h h7 := (K.trans K6).upd u hfn
      repeat wtm_at "mine st"
      have nfa : ∀ b o, h6[b]? = some o → (∀ kvs ep, o ≠ O.dict kvs ep) → h7[b]? = some o := fun b o e n => u.other e fun z => by
        rw [z, K6 _ _ f5] at e
        cases e; exact n _ _ rfl
      refine ⟨nfa _ _ (K6 _ _ c5) (fun zz zz z => nomatch z), rest, touch j s Λ', setD kvs s (.ref d), ep, rfl, hf, (touch_keys ..).trans hk, lo.touch s, fun z hz => by rw [touch_keys]; exact hs z (List.mem_cons_of_mem _ hz), K7, u.1,
        nfa _ _ (K6 _ _ c5) (fun zz zz z => nomatch z), ⟨?_, fun v hv => ?_⟩, ?_, ?_, ?_⟩
      · rw [setD_keys, touch_keys]; exact F.keys
      · rw [touch_keys] at hv
        rw [lookD_setD (by rw [F.keys]; exact hv), fnd_touch hv]
        by_cases q : v = s
        · rw [if_pos q, if_pos q, q]
          refine ⟨d, rfl, ?_⟩
          rw [nfa _ _ e6 (fun zz zz z => nomatch z)]
          unfold spanO endK
          rw [if_neg (Nat.ne_of_gt hb.1)]
        · rw [if_neg q, if_neg q]
          (refine xe1 (fun a zq1 => ?_) (F6.at_ v hv); revert zq1; refine ae2 fun z1 z2 => ?_)
          exact ⟨a, z1, nfa _ _ z2 (fun zz zz z => nomatch z)⟩
      all_goals wtm_at "mine nm"
    · refine fun m h5 hh => ex4 hh fun rest Λ' kvs ep hh => and12 hh fun e hf hk lo zz K f5 c5 F m1 m2 m3 => ?_
      cases rest with
      | cons _ _ => cases e
      | nil =>
      have hf : Λ' = _ := hf
      have hl : kvs.length ≤ 30 := by
        have := congrArg List.length F.keys
        rw [List.length_map, hk, keys_len] at this
        exact this ▸ small j hj
      have hsucc := lifeK_succ hrj
      unfold stepL at hsucc
      rw [← hf] at hsucc
      repeat wtm_at "mine st"
      refine p_item_list (K _ _ hr) (lim_of (by omega)) ⟨Int.natCast_nonneg j, hva⟩ ?_
      wtm_at "mine st"
      refine w_defined (K _ _ har) ?_
      repeat wtm_at "mine st"
      refine ⟨fun t => ?_, fun t => ?_⟩
      · have hno : ¬ r.1 = sOut := fun z => by
          have t := of_decide_eq_true t
          unfold dfn at t
          rw [if_pos z] at t
          omega
        have hd : dfn r = r.2.1 := if_neg hno
        rw [if_neg hno] at hsucc
        (refine ae2 (fun d0 d1 => ?_) (ok.def_ hno))
        rw [← hk] at d1
        repeat wtm_at "mine st"
        refine p_mul ⟨by decide, by have := wf.len; unfold big; omega⟩ ?_
        repeat wtm_at "mine st"
        refine p_mul ⟨by decide, by have := wf.len; unfold big; omega⟩ ?_
        repeat wtm_at "mine st"
        refine p_newT (lim_c (by kernel_rfl)) fun d h6 K6 n6 e6 => ?_
        repeat wtm_at "mine st"
        refine p_set_dict (K6 _ _ f5) (lim_of (by omega)) fun h7 u => ?_
        rw [hd] at u
        have hsk' : r.2.1 ∉ kvs.map (·.1) := by rw [F.keys]; exact d1
        unfold putD at u
        rw [if_neg hsk'] at u
        have F6 := F.keep K6
        repeat wtm_at "mine st"
        have nfa : ∀ b o, h6[b]? = some o → (∀ kvs ep, o ≠ O.dict kvs ep) → h7[b]? = some o := fun b o e n => u.other e fun z => by
          rw [z, K6 _ _ f5] at e
          cases e; exact n _ _ rfl
        refine ⟨_, _, (K.trans K6).upd u n1, u.1, ?_, ?_, ?_⟩
        · rw [hsucc]
          refine ⟨by rw [List.map_append, F.keys, keys_snoc]; rfl, fun v hv => ?_⟩
          rw [keys_snoc] at hv
          rcases List.mem_append.mp hv with hv | hv
          · rw [lookD_snoc_old (by rw [F.keys]; exact hv), fnd_snoc_old hv]
            (refine xe1 (fun a zq1 => ?_) (F6.at_ v hv); revert zq1; refine ae2 fun z1 z2 => ?_)
            exact ⟨a, z1, nfa _ _ z2 (fun zz zz z => nomatch z)⟩
          · rw [List.mem_singleton] at hv
            subst hv
            rw [lookD_snoc_new hsk', fnd_snoc_new d1]
            refine ⟨d, rfl, ?_⟩
            rw [nfa _ _ e6 (fun zz zz z => nomatch z)]
            unfold spanO endK
            rw [if_pos rfl]
        all_goals wtm_at "mine nm"
      · have ho : r.1 = sOut := by
          have t := of_decide_eq_false t
          unfold dfn at t
          by_cases z : r.1 = sOut
          · exact z
          · rw [if_neg z] at t
            exact absurd (ok.def_ z).1 t
        rw [if_pos ho] at hsucc
        repeat wtm_at "mine st"
        refine ⟨kvs, ep, K, f5, by rw [hsucc]; exact F, ?_, ?_⟩
        all_goals wtm_at "mine nm"
  · refine fun m h3 hh => ex2 hh fun kvs ep hh => and5 hh fun K f3 F m1 m2 => ?_
    repeat wtm_at "mine st"
    exact q fa kvs ep h3 K f3 F
end

open PySem PySem.W PyProof.Rows

structure GE where
  node : Int
  na : Nat
  ma : Nat
  near : List Int
  mem : List Int
abbrev Gr := List GE
noncomputable def nodes (γ : Gr) : List Int := γ.map (·.node)
noncomputable def nearK (γ : Gr) : List (Int × V) := γ.map fun e => (e.node, V.ref e.na)
noncomputable def memK (γ : Gr) : List (Int × V) := γ.map fun e => (e.node, V.ref e.ma)
noncomputable def nsK (ks : List Int) : List (Int × V) := ks.map fun k => (k, V.bool true)
noncomputable def putK (ks : List Int) (k : Int) : List Int := if k ∈ ks then ks else ks ++ [k]
noncomputable def delK (ks : List Int) (k : Int) : List Int := ks.filter fun x => !(x == k)
/- another list of neighbours for one node -/
noncomputable def upN (n : Int) (f : List Int → List Int) (γ : Gr) : Gr := γ.map fun e => if e.node = n then { e with near := f e.near } else e
/- a graph in the heap -/
structure GA (h : H) (g d nr mr : Nat) (γ : Gr) : Prop where
  inst : h[g]? = some (.inst d)
  ns : h[d]? = some (.ns (some (.ref nr)) (some (.ref mr)))
  near : ∃ ep, h[nr]? = some (.dict (nearK γ) ep)
  mem : ∃ ep, h[mr]? = some (.dict (memK γ) ep)
  each : ∀ e ∈ γ, (∃ ep, h[e.na]? = some (.dict (nsK e.near) ep)) ∧ h[e.ma]? = some (.list (e.mem.map .int))
  nrmr : nr ≠ mr
  off : ∀ e ∈ γ, e.na ≠ nr ∧ e.na ≠ mr
  nas : (γ.map (·.na)).Nodup
  mas : (γ.map (·.ma)).Nodup
  nodes : (nodes γ).Nodup
  few : γ.length ≤ 30
  sub : ∀ e ∈ γ, e.near.Nodup ∧ ∀ k ∈ e.near, k ∈ Mine.nodes γ
/- what is told stands -/
noncomputable def KeepB (B : Nat → Option O) (h : H) : Prop := ∀ (a : Nat) (o : O), B a = some o → h[a]? = some o
abbrev At (h : H) : Nat → Option O := fun a => h[a]?
theorem KeepB.trans {B : Nat → Option O} {h h1 : H} (a : KeepB B h) (b : Keep h h1) : KeepB B h1 := fun x o e => b x o (a x o e)
theorem KeepB.dead {B : Nat → Option O} {h : H} (k : KeepB B h) {c : Nat} (e : h[c]? = none) : B c = none := by
  cases q : B c with
  | none => rfl
  | some o => rw [k c o q] at e; cases e
theorem KeepB.upd {B : Nat → Option O} {h1 h2 : H} (k : KeepB B h1) {c : Nat} {o : O} (u : Upd c o h1 h2) (e : B c = none) : KeepB B h2 := fun x p q => by
  by_cases hx : x = c
  · subst hx; rw [e] at q; cases q
  · rw [u.2 x hx]; exact k x p q
/- the graph's parts are new -/
structure GN (B : Nat → Option O) (nr mr : Nat) (γ : Gr) : Prop where
  near : B nr = none
  mem : B mr = none
  each : ∀ e ∈ γ, B e.na = none ∧ B e.ma = none
theorem GN.back {h h1 : H} {nr mr : Nat} {γ : Gr} (x : GN (At h1) nr mr γ) (K : Keep h h1) : GN (At h) nr mr γ := ⟨K.dead x.near, K.dead x.mem, fun e he => ⟨K.dead (x.each e he).1, K.dead (x.each e he).2⟩⟩
theorem GA.keep {h h1 : H} {g d nr mr : Nat} {γ : Gr} (x : GA h g d nr mr γ) (K : Keep h h1) : GA h1 g d nr mr γ :=
  ⟨K _ _ x.inst, K _ _ x.ns, let ⟨ep, e⟩ := x.near; ⟨ep, K _ _ e⟩, let ⟨ep, e⟩ := x.mem; ⟨ep, K _ _ e⟩, fun e he => let ⟨⟨ep, a⟩, b⟩ := x.each e he; ⟨⟨ep, K _ _ a⟩, K _ _ b⟩, x.nrmr, x.off, x.nas, x.mas, x.nodes, x.few, x.sub⟩

theorem nodup_map_inj {α β : Type} {f : α → β} : ∀ {l : List α}, (l.map f).Nodup → ∀ {a b : α}, a ∈ l → b ∈ l → f a = f b → a = b
  | [], _, _, _, ha, _, _ => nomatch ha
  | x :: l, h, a, b, ha, hb, e => by
    rw [List.map_cons, List.nodup_cons] at h
    rcases List.mem_cons.mp ha with q | ha
    · rcases List.mem_cons.mp hb with q2 | hb
      · rw [q, q2]
      · exact absurd (List.mem_map_of_mem (f := f) hb) (by rw [← e, q]; exact h.1)
    · rcases List.mem_cons.mp hb with q2 | hb
      · exact absurd (List.mem_map_of_mem (f := f) ha) (by rw [e, q2]; exact h.1)
      · exact nodup_map_inj h.2 ha hb e
theorem look_key (f : GE → V) {γ : Gr} (nd : (nodes γ).Nodup) {e : GE} (he : e ∈ γ) : lookD (γ.map fun e => (e.node, f e)) e.node = some (f e) := by
  unfold lookD
  induction γ with
  | nil => cases he
  | cons x γ ih =>
    rw [List.map_cons, List.find?_cons]
    unfold nodes at nd
    rw [List.map_cons, List.nodup_cons] at nd
    rcases List.mem_cons.mp he with rfl | he
    · simp
    · have : (x.node == e.node) = false := beq_eq_false_iff_ne.mpr fun q => nd.1 (q ▸ List.mem_map_of_mem he)
      show Option.map _ (match (x.node == e.node) with | true => _ | false => _) = _
      rw [this]
      exact ih nd.2 he
theorem up_node {n : Int} {f : List Int → List Int} {e : GE} : (if e.node = n then { e with near := f e.near } else e).node = e.node := by split <;> rfl
theorem upN_map {α : Type} (n : Int) (f : List Int → List Int) (γ : Gr) (p : GE → α) (h : ∀ e l, p { e with near := l } = p e) : (upN n f γ).map p = γ.map p := by
  unfold upN
  rw [List.map_map]
  apply List.map_congr_left
  intro e _
  show p (if e.node = n then { e with near := f e.near } else e) = p e
  split
  · exact h _ _
  · rfl
theorem nsK_keys (ks : List Int) : (nsK ks).map (·.1) = ks := by
  unfold nsK
  rw [List.map_map]
  exact List.map_id ks
theorem put_ns (ks : List Int) (ep : Nat) (k : Int) : ∃ ep', putD (nsK ks) ep k (.bool true) = .dict (nsK (putK ks k)) ep' := by
  unfold putD putK
  rw [nsK_keys]
  split
  · refine ⟨ep, ?_⟩
    have : setD (nsK ks) k (.bool true) = nsK ks := by
      unfold setD nsK
      rw [List.map_map]
      apply List.map_congr_left
      intro x _
      show (if x = k then (k, V.bool true) else (x, V.bool true)) = _
      split
      · rename_i e; rw [e]
      · rfl
    rw [this]
  · exact ⟨ep + 1, by simp [nsK]⟩
theorem del_ns (ks : List Int) (k : Int) : delD (nsK ks) k = nsK (delK ks k) := by
  unfold delD nsK delK
  rw [List.filter_map]
  rfl
theorem GA.up {h h1 : H} {g d nr mr : Nat} {γ : Gr} (x : GA h g d nr mr γ) {e : GE} (he : e ∈ γ) {f : List Int → List Int} {ep : Nat} (u : Upd e.na (.dict (nsK (f e.near)) ep) h h1) (hf : (f e.near).Nodup ∧ ∀ k ∈ f e.near, k ∈ Mine.nodes γ) : GA h1 g d nr mr (upN e.node f γ) := by
  have hnn : Mine.nodes (upN e.node f γ) = Mine.nodes γ := upN_map _ _ _ _ fun zz zz => rfl
  (refine ae2 (fun zq1 hma => ?_) (x.each e he); revert zq1; refine xe1 fun ep0 hna => ?_)
  have o : ∀ {b : Nat} {p : O}, h[b]? = some p → (∀ kvs ep, p ≠ O.dict kvs ep) → h1[b]? = some p := fun q n => u.other q fun z => by
    rw [z, hna] at q; cases q; exact n _ _ rfl
  have off := x.off e he
  have m1 : nearK (upN e.node f γ) = nearK γ := upN_map _ _ _ _ fun zz zz => rfl
  have m2 : memK (upN e.node f γ) = memK γ := upN_map _ _ _ _ fun zz zz => rfl
  refine ⟨o x.inst (fun zz zz q => nomatch q), o x.ns (fun zz zz q => nomatch q), ?_, ?_, fun e' he' => ?_, x.nrmr, fun e' he' => ?_, ?_, ?_, ?_, ?_, fun e' he' => ?_⟩
  · obtain ⟨ep, q⟩ := x.near; exact ⟨ep, by rw [m1]; exact u.other q (Ne.symm off.1)⟩
  · obtain ⟨ep, q⟩ := x.mem; exact ⟨ep, by rw [m2]; exact u.other q (Ne.symm off.2)⟩
  · (refine xe1 (fun e0 zq1 => ?_) (List.mem_map.mp he'); revert zq1; refine ae2 fun h0 zq2 => ?_; subst zq2)
    (refine ae2 (fun zq1 q2 => ?_) (x.each e0 h0); revert zq1; refine xe1 fun ep0 q1 => ?_)
    by_cases q : e0.node = e.node
    · rw [if_pos q]
      have := nodup_map_inj x.nodes h0 he q
      subst this
      exact ⟨⟨ep, u.1⟩, o q2 (fun zz zz q => nomatch q)⟩
    · rw [if_neg q]
      have hne : e0.na ≠ e.na := fun z => q (congrArg GE.node (nodup_map_inj x.nas h0 he z))
      exact ⟨⟨ep0, u.other q1 hne⟩, o q2 (fun zz zz q => nomatch q)⟩
  · (refine xe1 (fun e0 zq1 => ?_) (List.mem_map.mp he'); revert zq1; refine ae2 fun h0 zq2 => ?_; subst zq2)
    have := x.off e0 h0
    split <;> exact this
  · rw [upN_map _ _ _ _ fun zz zz => rfl]; exact x.nas
  · rw [upN_map _ _ _ _ fun zz zz => rfl]; exact x.mas
  · rw [hnn]; exact x.nodes
  · unfold upN; rw [List.length_map]; exact x.few
  · rw [hnn]
    (refine xe1 (fun e0 zq1 => ?_) (List.mem_map.mp he'); revert zq1; refine ae2 fun h0 zq2 => ?_; subst zq2)
    by_cases q : e0.node = e.node
    · rw [if_pos q]
      have := nodup_map_inj x.nodes h0 he q
      subst this
      exact hf
    · rw [if_neg q]; exact x.sub e0 h0
theorem GN.up {B : Nat → Option O} {nr mr : Nat} {γ : Gr} (x : GN B nr mr γ) (n : Int) (f : List Int → List Int) : GN B nr mr (upN n f γ) := ⟨x.near, x.mem, fun e he => by
  (refine xe1 (fun e0 zq1 => ?_) (List.mem_map.mp he); revert zq1; refine ae2 fun h0 zq2 => ?_; subst zq2)
  have := x.each e0 h0
  split <;> exact this⟩

section
variable {h : H} {k : Nat} {Q : V → H → Prop}
theorem p_setattr {x : Str} {a d : Nat} {n m n' m' : Option V} {v : V} {Q : Unit → H → Prop} (hx : (x = sNear ∧ n' = some v ∧ m' = m) ∨ (x = sMembers ∧ n' = n ∧ m' = some v)) (e : h[a]? = some (.inst d)) (e2 : h[d]? = some (.ns n m))
    (q : ∀ h1, Upd d (.ns n' m') h h1 → Q () h1) : W (setAttrA x v (.ref a)) h Q := by
  unfold setAttrA
  refine W_bind (p_rd e (W_bind (p_rd e2 ?_)))
  dsimp only
  rcases hx with ⟨rfl, rfl, rfl⟩ | ⟨rfl, rfl, rfl⟩
  · rw [if_pos rfl]; exact p_wr e2 q
  · rw [if_neg (fun q => sNear_ne q.symm), if_pos rfl]; exact p_wr e2 q
theorem w_graph (q : ∀ g d nr mr h1, Keep h h1 → GN (At h) nr mr [] → GA h1 g d nr mr [] → Q (.ref g) h1) : W (callA pw (k + 2) (Str.ofString "Graph") []) h Q := by
  unfold callA
  rw [if_pos (by rfl)]
  refine W_bind (p_new fun d h1 K1 n1 e1 => W_bind (p_new fun i h2 K2 n2 e2 => W_bind ?_))
  have e1' := K2 _ _ e1
  refine call_W (f := "Graph.__init__") (ps := [Str.ofString "self"]) (by kernel_rfl) (by kernel_rfl) rfl (by kernel_rfl) rfl ?_
  refine s_SetAttr ?_
  repeat wtm_at "mine st"
  refine p_newD fun nr h3 K3 n3 e3 => ?_
  repeat wtm_at "mine st"
  refine p_setattr (.inl ⟨rfl, rfl, rfl⟩) (K3 _ _ e2) (K3 _ _ e1') fun h4 u4 => ?_
  have dn : d ≠ i := ne_of_new e1 n2
  have dnr : d ≠ nr := ne_of_new e1' n3
  refine s_SetAttr ?_
  repeat wtm_at "mine st"
  refine p_newD fun mr h5 K5 n5 e5 => ?_
  repeat wtm_at "mine st"
  have hd5 := K5 _ _ u4.1
  have hi5 := K5 _ _ (u4.other (K3 _ _ e2) (Ne.symm dn))
  have hn5 := K5 _ _ (u4.other e3 (Ne.symm dnr))
  refine p_setattr (.inr ⟨rfl, rfl, rfl⟩) hi5 hd5 fun h6 u6 => ?_
  have dmr : d ≠ mr := ne_of_new u4.1 n5
  have K4 : Keep h h4 := ((K1.trans K2).trans K3).upd u4 n1
  repeat wtm_at "mine st"
  rw [if_pos rfl]
  refine W_pure (q i d nr mr h6 ((K4.trans K5).upd u6 n1) ⟨(K1.trans K2).dead n3, K4.dead n5, fun e h => (nomatch h)⟩
    ⟨u6.other hi5 (Ne.symm dn), u6.1, ⟨0, u6.other hn5 (Ne.symm dnr)⟩, ⟨0, u6.other e5 (Ne.symm dmr)⟩, fun e h => (nomatch h), ne_of_new (u4.other e3 (Ne.symm dnr)) n5, fun e h => (nomatch h), List.Pairwise.nil, List.Pairwise.nil, List.Pairwise.nil, by decide, fun e h => (nomatch h)⟩)

theorem w_add {B : Nat → Option O} {g d nr mr : Nat} {γ : Gr} {v : Int} (K : KeepB B h) (N : GN B nr mr γ) (G : GA h g d nr mr γ) (hv : v ∉ nodes γ) (few : γ.length < 30)
    (q : ∀ na ma h1, KeepB B h1 → GN B nr mr (γ ++ [⟨v, na, ma, [], [v]⟩]) → GA h1 g d nr mr (γ ++ [⟨v, na, ma, [], [v]⟩]) → Q .none h1) : W (callA pw (k + 1) (Str.ofString "Graph.add") [.ref g, .int v]) h Q := by
  refine call_W (f := "Graph.add") (ps := [Str.ofString "self", Str.ofString "node"]) (by kernel_rfl) (by kernel_rfl) rfl (by kernel_rfl) rfl ?_
  obtain ⟨ep1, n1⟩ := G.near
  obtain ⟨ep2, m1⟩ := G.mem
  repeat wtm_at "mine st"
  refine p_newD fun na h1 K1 z1 e1 => ?_
  repeat wtm_at "mine st"
  refine p_attr_near (K1 _ _ G.inst) (K1 _ _ G.ns) ?_
  repeat wtm_at "mine st"
  refine p_set_dict (K1 _ _ n1) (lim_of (by unfold nearK; rw [List.length_map]; omega)) fun h2 u2 => ?_
  have kn : v ∉ (nearK γ).map (·.1) := by unfold nearK; rw [List.map_map]; exact hv
  have km : v ∉ (memK γ).map (·.1) := by unfold memK; rw [List.map_map]; exact hv
  unfold putD at u2
  rw [if_neg kn] at u2
  have o2 : ∀ {b : Nat} {p : O}, h1[b]? = some p → b ≠ nr → h2[b]? = some p := fun q n => u2.other q n
  have gi := o2 (K1 _ _ G.inst) (fun z => by have := G.inst; rw [z, n1] at this; cases this)
  have gd := o2 (K1 _ _ G.ns) (fun z => by have := G.ns; rw [z, n1] at this; cases this)
  repeat wtm_at "mine st"
  refine p_newL (lim_c (by kernel_rfl)) fun ma h3 K3 z3 e3 => ?_
  repeat wtm_at "mine st"
  refine p_attr_mem (K3 _ _ gi) (K3 _ _ gd) ?_
  repeat wtm_at "mine st"
  have mr2 := K3 _ _ (o2 (K1 _ _ m1) (Ne.symm G.nrmr))
  refine p_set_dict mr2 (lim_of (by unfold memK; rw [List.length_map]; omega)) fun h4 u4 => ?_
  unfold putD at u4
  rw [if_neg km] at u4
  have o4 : ∀ {b : Nat} {p : O}, h1[b]? = some p → b ≠ nr → b ≠ mr → h4[b]? = some p := fun q n n2 => u4.other (K3 _ _ (o2 q n)) n2
  have nan : na ≠ nr := (ne_of_new n1 z1).symm
  have nam : na ≠ mr := (ne_of_new m1 z1).symm
  have man : ma ≠ mr := (ne_of_new (o2 (K1 _ _ m1) (Ne.symm G.nrmr)) z3).symm
  repeat wtm_at "mine st"
  have K4 : KeepB B h4 := (((K.trans K1).upd u2 N.near).trans K3).upd u4 N.mem
  have old : ∀ e ∈ γ, e.na ≠ na ∧ e.ma ≠ ma := fun e he => by
    (refine ae2 (fun zq1 a2 => ?_) (G.each e he); revert zq1; refine xe1 fun ep a1 => ?_)
    refine ⟨ne_of_new a1 z1, ne_of_new (o2 (K1 _ _ a2) fun z => ?_) z3⟩
    rw [z, n1] at a2; cases a2
  have nod : ∀ {α : Type} {f : GE → α} {x : GE}, (γ.map f).Nodup → (∀ e ∈ γ, f e ≠ f x) → ((γ ++ [x]).map f).Nodup := fun {α f x} n a => by
    rw [List.map_append, List.nodup_append]
    refine ⟨n, by simp, fun y hy z hz e => ?_⟩
    (refine xe1 (fun e1 zq1 => ?_) (List.mem_map.mp hy); revert zq1; refine ae2 fun h1 zq2 => ?_; subst zq2)
    rw [show z = f x from List.mem_singleton.mp hz] at e
    exact a e1 h1 e
  refine q na ma h4 K4 ⟨N.near, N.mem, fun e he => ?_⟩ ⟨?_, ?_, ⟨ep1 + 1, ?_⟩, ⟨ep2 + 1, ?_⟩, fun e he => ?_, G.nrmr, fun e he => ?_, nod G.nas fun e he => (old e he).1, nod G.mas fun e he => (old e he).2, nod G.nodes fun e he z => hv ((show e.node = v from z) ▸ List.mem_map_of_mem (f := GE.node) he), by rw [List.length_append]; exact few, fun e he => ?_⟩
  · rcases List.mem_append.mp he with he | he
    · exact N.each e he
    · rw [List.mem_singleton.mp he]
      exact ⟨K.dead z1, ((K.trans K1).upd u2 N.near).dead z3⟩
  · exact u4.other (K3 _ _ gi) fun z => by have := G.inst; rw [z, m1] at this; cases this
  · exact u4.other (K3 _ _ gd) fun z => by have := G.ns; rw [z, m1] at this; cases this
  · have := u4.other (K3 _ _ u2.1) G.nrmr
    rw [this]
    simp [nearK]
  · rw [u4.1]
    simp [memK]
  · rcases List.mem_append.mp he with he | he
    · (refine ae2 (fun zq1 a2 => ?_) (G.each e he); revert zq1; refine xe1 fun ep a1 => ?_)
      have off := G.off e he
      exact ⟨⟨ep, o4 (K1 _ _ a1) off.1 off.2⟩, o4 (K1 _ _ a2) (fun z => by rw [z, n1] at a2; cases a2) (fun z => by rw [z, m1] at a2; cases a2)⟩
    · rw [List.mem_singleton.mp he]
      exact ⟨⟨0, o4 e1 nan nam⟩, u4.other e3 man⟩
  · rcases List.mem_append.mp he with he | he
    · exact G.off e he
    · rw [List.mem_singleton.mp he]
      exact ⟨nan, nam⟩
  · rcases List.mem_append.mp he with he | he
    · refine ⟨(G.sub e he).1, fun k hk => ?_⟩
      unfold nodes; rw [List.map_append]
      exact List.mem_append_left _ ((G.sub e he).2 k hk)
    · rw [List.mem_singleton.mp he]
      exact ⟨List.Pairwise.nil, fun k hk => (nomatch hk)⟩
end

open PySem PySem.W PyProof.Rows

theorem sub_len : ∀ (l m : List Int), l.Nodup → (∀ x ∈ l, x ∈ m) → l.length ≤ m.length
  | [], _, _, _ => Nat.zero_le _
  | x :: l, m, nd, s => by
    rw [List.nodup_cons] at nd
    have hx := s x List.mem_cons_self
    have := sub_len l (m.erase x) nd.2 fun y hy => (List.mem_erase_of_ne fun (q : y = x) => nd.1 (q ▸ hy)).mpr (s y (List.mem_cons_of_mem _ hy))
    rw [List.length_erase_of_mem hx] at this
    have := List.length_pos_of_mem hx
    rw [List.length_cons]; omega
theorem putK_ok {l : List Int} {k : Int} {p : Int → Prop} (h : l.Nodup ∧ ∀ x ∈ l, p x) (hk : p k) : (putK l k).Nodup ∧ ∀ x ∈ putK l k, p x := by
  unfold putK
  split
  · exact h
  · rename_i n
    refine ⟨?_, fun x hx => ?_⟩
    · rw [List.nodup_append]
      exact ⟨h.1, by simp, fun a ha b hb e => n (by rw [List.mem_singleton] at hb; rw [← hb, ← e]; exact ha)⟩
    · rcases List.mem_append.mp hx with hx | hx
      · exact h.2 x hx
      · rw [List.mem_singleton.mp hx]; exact hk
theorem mem_putK {l : List Int} {k x : Int} : x ∈ putK l k ↔ x ∈ l ∨ x = k := by
  unfold putK
  split
  · rename_i h
    exact ⟨.inl, fun q => q.elim id fun e => e ▸ h⟩
  · simp
theorem mem_delK {l : List Int} {k x : Int} : x ∈ delK l k ↔ x ∈ l ∧ x ≠ k := by
  unfold delK
  simp
theorem delK_ok {l : List Int} {k : Int} {p : Int → Prop} (h : l.Nodup ∧ ∀ x ∈ l, p x) : (delK l k).Nodup ∧ ∀ x ∈ delK l k, p x := ⟨h.1.filter _, fun x hx => h.2 x (mem_delK.mp hx).1⟩

section
variable {h : H} {k : Nat} {g d nr mr : Nat} {γ : Gr}
theorem GA.near_len (G : GA h g d nr mr γ) {e : GE} (he : e ∈ γ) : e.near.length ≤ 30 := by
  have := sub_len e.near (Mine.nodes γ) (G.sub e he).1 (G.sub e he).2
  unfold Mine.nodes at this
  rw [List.length_map] at this
  have := G.few
  omega
theorem p_near {e : GE} {Q : V → H → Prop} (G : GA h g d nr mr γ) (he : e ∈ γ) (q : Q (.ref e.na) h) : W (getItemA (.ref nr) (.int e.node)) h Q := by
  obtain ⟨ep, n⟩ := G.near
  exact p_item_dict n (look_key (fun e => V.ref e.na) G.nodes he) q
theorem p_mems {e : GE} {Q : V → H → Prop} (G : GA h g d nr mr γ) (he : e ∈ γ) (q : Q (.ref e.ma) h) : W (getItemA (.ref mr) (.int e.node)) h Q := by
  obtain ⟨ep, n⟩ := G.mem
  exact p_item_dict n (look_key (fun e => V.ref e.ma) G.nodes he) q
theorem p_nearE {e : GE} {n : Int} {Q : V → H → Prop} (G : GA h g d nr mr γ) (he : e ∈ γ) (hn : e.node = n) (q : Q (.ref e.na) h) : W (getItemA (.ref nr) (.int n)) h Q := hn ▸ p_near G he q
theorem p_memsE {e : GE} {n : Int} {Q : V → H → Prop} (G : GA h g d nr mr γ) (he : e ∈ γ) (hn : e.node = n) (q : Q (.ref e.ma) h) : W (getItemA (.ref mr) (.int n)) h Q := hn ▸ p_mems G he q
theorem p_nput {B : Nat → Option O} {e : GE} {x : Int} {Q : Unit → H → Prop} (K : KeepB B h) (N : GN B nr mr γ) (G : GA h g d nr mr γ) (he : e ∈ γ) (hx : x ∈ nodes γ)
    (q : ∀ h1, (∀ a p, h[a]? = some p → a ≠ e.na → h1[a]? = some p) → KeepB B h1 → GN B nr mr (upN e.node (putK · x) γ) → GA h1 g d nr mr (upN e.node (putK · x) γ) → Q () h1) : W (setItemA (.ref e.na) (.int x) (.bool true)) h Q := by
  (refine ae2 (fun zq1 zz => ?_) (G.each e he); revert zq1; refine xe1 fun ep n => ?_)
  refine p_set_dict n (lim_of (by unfold nsK; rw [List.length_map]; have := G.near_len he; omega)) fun h1 u => ?_
  (refine xe1 (fun ep' e1 => ?_) (put_ns e.near ep x))
  rw [e1] at u
  exact q h1 (fun a p z n => u.other z n) (K.upd u (N.each e he).1) (N.up _ _) (G.up he u (putK_ok (G.sub e he) hx))
theorem p_ndel {B : Nat → Option O} {e : GE} {x : Int} {Q : Unit → H → Prop} (K : KeepB B h) (N : GN B nr mr γ) (G : GA h g d nr mr γ) (he : e ∈ γ) (hx : x ∈ e.near)
    (q : ∀ h1, (∀ a p, h[a]? = some p → a ≠ e.na → h1[a]? = some p) → KeepB B h1 → GN B nr mr (upN e.node (delK · x) γ) → GA h1 g d nr mr (upN e.node (delK · x) γ) → Q () h1) : W (delItemA (.ref e.na) (.int x)) h Q := by
  (refine ae2 (fun zq1 zz => ?_) (G.each e he); revert zq1; refine xe1 fun ep n => ?_)
  refine p_del n ⟨by rw [nsK_keys]; exact hx, lim_of (by unfold nsK; rw [List.length_map]; have := G.near_len he; omega)⟩ fun h1 u => ?_
  rw [del_ns] at u
  exact q h1 (fun a p z n => u.other z n) (K.upd u (N.each e he).1) (N.up _ _) (G.up he u (delK_ok (G.sub e he)))
theorem at_node {γ : Gr} {n : Int} (h : n ∈ nodes γ) : ∃ e ∈ γ, e.node = n := List.mem_map.mp h
theorem upN_nodes (n : Int) (f : List Int → List Int) (γ : Gr) : nodes (upN n f γ) = nodes γ := upN_map _ _ _ _ fun zz zz => rfl

/- overlap of the spans -/
noncomputable def ovl (Λ : Life) (v w : Int) : Bool := decide (2 * ((fnd Λ v).1 : Int) + 1 ≤ endK (fnd Λ w)) && decide (2 * ((fnd Λ w).1 : Int) + 1 ≤ endK (fnd Λ v))
noncomputable def pairI (v w : Int) (γ : Gr) : Gr := upN w (putK · v) (upN v (putK · w) γ)
noncomputable def innerI (Λ : Life) (v : Int) (ws : List Int) (γ : Gr) : Gr := ws.foldl (fun γ w => if decide (v < w) && ovl Λ v w then pairI v w γ else γ) γ
noncomputable def outerI (Λ : Life) (names vs : List Int) (γ : Gr) : Gr := vs.foldl (fun γ v => innerI Λ v names γ) γ
noncomputable def Bare (γ : Gr) (names : List Int) : Prop := nodes γ = names ∧ ∀ e ∈ γ, e.near = [] ∧ e.mem = [e.node]

variable {Q : V → H → Prop} {R : List Row} {vs : List V} {ra : Nat}
theorem w_interference (hr : h[ra]? = some (.list vs)) (A : RowsAt h vs R) (wf : Wf R)
    (q : ∀ g d nr mr γ0 h1, Keep h h1 → Bare γ0 (sortI (keys (lifeK R R.length))) → GN (At h) nr mr (outerI (lifeK R R.length) (nodes γ0) (nodes γ0) γ0) → GA h1 g d nr mr (outerI (lifeK R R.length) (nodes γ0) (nodes γ0) γ0) → Q (.ref g) h1) :
    W (callA pw (k + 4) (Str.ofString "interference") [.ref ra]) h Q := by
  refine call_W (ps := [Str.ofString "rows"]) (by kernel_rfl) (by kernel_rfl) rfl (by kernel_rfl) rfl ?_
  repeat wtm_at "mine st"
  refine w_spans hr A wf fun fa kvs ep h1 K1 f1 F => ?_
  generalize hΛ : lifeK R R.length = Λ at q F
  have hl : Λ.length ≤ 30 := by rw [← hΛ]; exact Nat.le_trans (lifeK_len _ _) wf.len
  have hk : kvs.length = Λ.length := by have := congrArg List.length F.keys; rwa [List.length_map, keys_len] at this
  repeat wtm_at "mine st"
  refine c_sorted (p_sorted_dict f1 (by omega) fun na h2 K2 n2 e2 => ?_)
  rw [F.keys] at e2
  generalize hN : sortI (keys Λ) = names at e2 q
  have perm : names.Perm (keys Λ) := by rw [← hN]; exact List.mergeSort_perm ..
  have nd : names.Nodup := perm.nodup_iff.mpr (by rw [← hΛ]; exact (lifeOk wf _).nodup)
  have nlen : names.length ≤ 30 := by rw [perm.length_eq, keys_len]; exact hl
  repeat wtm_at "mine st"
  refine w_graph fun g d nr mr h3 K3 N3 G3 => ?_
  have F2 := (F.keep K2)
  have f2 := K2 _ _ f1
  repeat wtm_at "mine st"
  refine s_ForList (by kernel_rfl) ?_
  repeat wtm_at "mine st"
  refine forL_in (K3 _ _ e2) (fun ys m h4 => ∃ rest γ, ys = rest.map V.int ∧ nodes γ ++ rest = names ∧ (∀ e ∈ γ, e.near = [] ∧ e.mem = [e.node]) ∧ KeepB (At h2) h4 ∧ GN (At h2) nr mr γ ∧ GA h4 g d nr mr γ ∧ Hs m "graph" (.ref g) ∧ Hs m "names" (.ref na) ∧ Hs m "lives" (.ref fa))
    ⟨names, [], rfl, rfl, fun e h => (nomatch h), K3, N3, G3, by wtm_at "mine nm", by wtm_at "mine nm", by wtm_at "mine nm"⟩ ?_ ?_
  · refine fun y ys m h4 hh => ex2 hh fun rest γ hh => and9 hh fun e hs hb K N G m1 m2 m3 => ?_
    cases rest with
    | nil => cases e
    | cons v rest =>
    cases e
    have hv : v ∉ nodes γ := fun z => by
      rw [← hs, List.nodup_append] at nd
      exact nd.2.2 v z v List.mem_cons_self rfl
    repeat wtm_at "mine st"
    refine m_inst (f := Str.ofString "Graph.add") (by kernel_rfl) G.inst G.ns ?_
    repeat wtm_at "mine st"
    have hlt : γ.length < 30 := by
      have := congrArg List.length hs
      unfold nodes at this
      rw [List.length_append, List.length_map, List.length_cons] at this
      omega
    refine w_add K N G hv hlt fun na' ma h5 K5 N5 G5 => ?_
    refine ⟨rfl, ?_⟩
    repeat wtm_at "mine st"
    refine ⟨K5 _ _ e2, rest, _, rfl, ?_, fun e he => ?_, K5, N5, G5, by wtm_at "mine nm", by wtm_at "mine nm", by wtm_at "mine nm"⟩
    · rw [← hs]; unfold nodes; simp
    · rcases List.mem_append.mp he with he | he
      · exact hb e he
      · rw [List.mem_singleton.mp he]; exact ⟨rfl, rfl⟩
  · refine fun m h4 hh => ex2 hh fun rest γ0 hh => and9 hh fun e hs hb K N G m1 m2 m3 => ?_
    cases rest with
    | cons _ _ => cases e
    | nil =>
    rw [List.append_nil] at hs
    refine s_ForList (by kernel_rfl) ?_
    repeat wtm_at "mine st"
    refine forL_in (K _ _ e2) (fun ys m h5 => ∃ rest γ, ys = rest.map V.int ∧ (∀ v ∈ rest, v ∈ names) ∧ nodes γ = names ∧ outerI Λ names rest γ = outerI Λ names names γ0 ∧ KeepB (At h2) h5 ∧ GN (At h2) nr mr γ ∧ GA h5 g d nr mr γ ∧ Hs m "graph" (.ref g) ∧ Hs m "names" (.ref na) ∧ Hs m "lives" (.ref fa))
      ⟨names, γ0, rfl, fun zz z => z, hs, rfl, K, N, G, m1, m2, m3⟩ ?_ ?_
    · refine fun y ys m h5 hh => ex2 hh fun rest γ hh => and10 hh fun e hin hn ho K N G m1 m2 m3 => ?_
      cases rest with
      | nil => cases e
      | cons v rest =>
      cases e
      have hvn := hin v List.mem_cons_self
      have ho : outerI Λ names rest (innerI Λ v names γ) = _ := ho
      (refine xe1 (fun va zq1 => ?_) (F2.at_ v (perm.mem_iff.mp hvn)); revert zq1; refine ae2 fun va1 va2 => ?_)
      refine ab_in fun zz zz => ?_
      refine s_ForList (by kernel_rfl) ?_
      repeat wtm_at "mine st"
      refine forL_in (K _ _ e2) (fun ys m h5 => ∃ r2 γ, ys = r2.map V.int ∧ (∀ v ∈ r2, v ∈ names) ∧ nodes γ = names ∧ outerI Λ names rest (innerI Λ v r2 γ) = outerI Λ names names γ0 ∧ KeepB (At h2) h5 ∧ GN (At h2) nr mr γ ∧ GA h5 g d nr mr γ ∧ Hs m "graph" (.ref g) ∧ Hs m "names" (.ref na) ∧ Hs m "lives" (.ref fa) ∧ Hs m "v" (.int v))
        ⟨names, γ, rfl, fun zz z => z, hn, ho, K, N, G, by wtm_at "mine nm", by wtm_at "mine nm", by wtm_at "mine nm", by wtm_at "mine nm"⟩ ?_ ?_
      · refine fun y ys m h5 hh => ex2 hh fun r2 γ hh => and11 hh fun e hin2 hn ho K N G m1 m2 m3 m4 => ?_
        cases r2 with
        | nil => cases e
        | cons w r2 =>
        cases e
        have hwn := hin2 w List.mem_cons_self
        (refine xe1 (fun wa zq1 => ?_) (F2.at_ w (perm.mem_iff.mp hwn)); revert zq1; refine ae2 fun wa1 wa2 => ?_)
        have ho : outerI Λ names rest (innerI Λ v r2 (if decide (v < w) && ovl Λ v w then pairI v w γ else γ)) = _ := ho
        repeat wtm_at "mine st"
        refine ⟨fun t => ⟨fun z => (Bool.false_ne_true z).elim, fun zz => ?_⟩, fun t => ?_⟩
        · rw [t] at ho
          repeat wtm_at "mine st"
          exact ⟨K _ _ e2, r2, γ, rfl, fun z hz => hin2 z (List.mem_cons_of_mem _ hz), hn, ho, K, N, G, by wtm_at "mine nm", by wtm_at "mine nm", by wtm_at "mine nm", by wtm_at "mine nm"⟩
        rw [t, Bool.true_and] at ho
        repeat wtm_at "mine st"
        refine p_item_dict (K _ _ f2) va1 ?_
        repeat wtm_at "mine st"
        refine p_item_dict (K _ _ f2) wa1 ?_
        repeat wtm_at "mine st"
        refine w_overlap (K _ _ va2) (K _ _ wa2) ?_
        repeat wtm_at "mine st"
        refine ⟨fun t2 => ⟨fun z => (Bool.false_ne_true z).elim, fun zz => ?_⟩, fun t2 => ?_⟩
        · rw [show ovl Λ v w = false from t2] at ho
          repeat wtm_at "mine st"
          exact ⟨K _ _ e2, r2, γ, rfl, fun z hz => hin2 z (List.mem_cons_of_mem _ hz), hn, ho, K, N, G, by wtm_at "mine nm", by wtm_at "mine nm", by wtm_at "mine nm", by wtm_at "mine nm"⟩
        rw [show ovl Λ v w = true from t2, if_pos rfl] at ho
        repeat wtm_at "mine st"
        refine ⟨fun zz => ?_, fun z => (Bool.false_ne_true z.symm).elim⟩
        repeat wtm_at "mine st"
        refine p_attr_near G.inst G.ns ?_
        (refine xe1 (fun ev zq1 => ?_) (at_node (hn ▸ hvn)); revert zq1; refine ae2 fun hev zq2 => ?_; subst zq2)
        repeat wtm_at "mine st"
        refine p_near G hev ?_
        repeat wtm_at "mine st"
        refine p_nput K N G hev (hn ▸ hwn) fun h6 zz K6 N6 G6 => ?_
        repeat wtm_at "mine st"
        refine p_attr_near G6.inst G6.ns ?_
        have hn6 := (upN_nodes ev.node (putK · w) γ).trans hn
        (refine xe1 (fun ew zq1 => ?_) (at_node (hn6.symm ▸ hwn)); revert zq1; refine ae2 fun hew hw => ?_)
        repeat wtm_at "mine st"
        rw [← hw]
        refine p_near G6 hew ?_
        repeat wtm_at "mine st"
        refine p_nput K6 N6 G6 hew (hn6.symm ▸ hvn) fun h7 zz K7 N7 G7 => ?_
        rw [hw] at N7 G7
        repeat wtm_at "mine st"
        exact ⟨K7 _ _ e2, r2, _, rfl, fun z hz => hin2 z (List.mem_cons_of_mem _ hz), (upN_nodes ..).trans hn6, ho, K7, N7, G7, by wtm_at "mine nm", by wtm_at "mine nm", by wtm_at "mine nm", by wtm_at "mine nm"⟩
      · refine fun m h5 hh => ex2 hh fun r2 γ hh => and11 hh fun e hin2 hn ho K N G m1 m2 m3 m4 => ?_
        cases r2 with
        | cons _ _ => cases e
        | nil =>
        repeat wtm_at "mine st"
        exact ⟨K _ _ e2, rest, γ, rfl, fun z hz => hin z (List.mem_cons_of_mem _ hz), hn, ho, K, N, G, m1, m2, m3⟩
    · refine fun m h5 hh => ex2 hh fun rest γ hh => and10 hh fun e hin hn ho K N G m1 m2 m3 => ?_
      cases rest with
      | cons _ _ => cases e
      | nil =>
      have ho : γ = _ := ho
      repeat wtm_at "mine st"
      rw [← hs] at ho
      rw [ho] at N G
      exact q g d nr mr γ0 h5 ((K1.trans K2).trans K) ⟨hs, hb⟩ (N.back (K1.trans K2)) G
end

open PySem PySem.W PyProof.Rows

theorem keysV_mem (γ : Gr) : keysV (memK γ) = (nodes γ).map V.int := by unfold keysV memK nodes; rw [List.map_map, List.map_map]; rfl
theorem keysV_ns (l : List Int) : keysV (nsK l) = l.map V.int := by unfold keysV nsK; rw [List.map_map]; rfl
theorem in_list {h : H} {a : Nat} {is : List Int} {i : Int} (e : h[a]? = some (.list (is.map .int))) : inA h (.int i) (.ref a) = some (decide (i ∈ is)) := by
  show (match h[a]? with | some (.list xs) => _ | some (.dict kvs _) => _ | _ => _) = _
  rw [e]
  dsimp only
  rw [map_intsOf]; rfl
theorem in_dict {h : H} {a : Nat} {kvs : List (Int × V)} {ep : Nat} {i : Int} (e : h[a]? = some (.dict kvs ep)) : inA h (.int i) (.ref a) = some (decide (i ∈ kvs.map (·.1))) := by
  show (match h[a]? with | some (.list xs) => _ | some (.dict kvs _) => _ | _ => _) = _
  rw [e]

section
variable {h : H} {k : Nat} {g d nr mr : Nat} {γ : Gr} {Q : V → H → Prop}
theorem w_holder {v : Int} {e : GE} (G : GA h g d nr mr γ) (he : e ∈ γ) (hv : v ∈ e.mem) (hu : ∀ e' ∈ γ, v ∈ e'.mem → e' = e) (q : Q (.int e.node) h) : W (callA pw (k + 1) (Str.ofString "Graph.holder") [.ref g, .int v]) h Q := by
  refine call_W (f := "Graph.holder") (ps := [Str.ofString "self", Str.ofString "v"]) (by kernel_rfl) (by kernel_rfl) rfl (by kernel_rfl) rfl ?_
  obtain ⟨ep, m1⟩ := G.mem
  refine s_ForDict (by kernel_rfl) ?_
  repeat wtm_at "mine st"
  refine p_attr_mem G.inst G.ns ?_
  refine forD_in (m1) (fun ys m h1 => ∃ γ2 : Gr, ys = (nodes γ2).map V.int ∧ (∀ x ∈ γ2, x ∈ γ) ∧ e ∈ γ2 ∧ h1 = h ∧ Hs m "self" (.ref g) ∧ Hs m "v" (.int v))
    ⟨γ, keysV_mem γ, fun zz z => z, he, rfl, by wtm_at "mine nm", by wtm_at "mine nm"⟩ ?_ ?_
  · intro y ys m h1 zq
    (revert zq; refine xe1 fun γ2 zq1 => ?_; revert zq1; refine ae5 fun e1 hs he2 zq2 zq3 => ?_; subst zq2; revert zq3; refine ae2 fun n1 n2 => ?_)
    cases γ2 with
    | nil => cases e1
    | cons x γ2 =>
    cases e1
    have hx := hs x List.mem_cons_self
    repeat wtm_at "mine st"
    refine p_attr_mem G.inst G.ns ?_
    repeat wtm_at "mine st"
    refine p_mems G hx ?_
    refine p_in (in_list (G.each x hx).2) ?_
    wtm_at "mine st"
    refine ⟨fun t => ?_, fun t => ?_⟩
    · repeat wtm_at "mine st"
      rw [hu x hx (of_decide_eq_true t)]
      exact q
    · repeat wtm_at "mine st"
      refine ⟨m1, γ2, rfl, fun z hz => hs z (List.mem_cons_of_mem _ hz), ?_, rfl, by wtm_at "mine nm", by wtm_at "mine nm"⟩
      rcases List.mem_cons.mp he2 with q2 | q2
      · exact absurd (q2 ▸ hv) (of_decide_eq_false t)
      · exact q2
  · intro m h1 zq
    (revert zq; refine xe1 fun γ2 zq1 => ?_; revert zq1; refine ae4 fun e1 hs he2 zz => ?_)
    cases γ2 with
    | nil => cases he2
    | cons _ _ => cases e1

theorem w_heavy {e1 e2 : GE} {cnt : Int} (G : GA h g d nr mr γ) (h1 : e1 ∈ γ) (h2 : e2 ∈ γ) (q : ∀ (n : Nat) h', Keep h h' → n ≤ γ.length → Q (.int n) h') : W (callA pw (k + 2) (Str.ofString "heavy_neighbours") [.ref g, .int e1.node, .int e2.node, .int cnt]) h Q := by
  refine call_W (ps := [Str.ofString "graph", Str.ofString "node", Str.ofString "other", Str.ofString "count"]) (by kernel_rfl) (by kernel_rfl) rfl (by kernel_rfl) rfl ?_
  (refine ae2 (fun zq1 zz => ?_) (G.each e1 h1); revert zq1; refine xe1 fun ep1 a1 => ?_)
  (refine ae2 (fun zq1 zz => ?_) (G.each e2 h2); revert zq1; refine xe1 fun ep2 a2 => ?_)
  repeat wtm_at "mine st"
  refine p_newD fun b hb Kb nb eb => ?_
  have Gb := G.keep Kb
  have put : ∀ {l : List Int} {ep : Nat} {x : Int} {h1 : H} {Q : Unit → H → Prop}, (l.Nodup ∧ ∀ x ∈ l, x ∈ nodes γ) → x ∈ nodes γ → h1[b]? = some (.dict (nsK l) ep) → Keep h h1 →
      (∀ h2 ep', Keep h h2 → h2[b]? = some (.dict (nsK (putK l x)) ep') → (putK l x).Nodup ∧ (∀ y ∈ putK l x, y ∈ nodes γ) → Q () h2) → W (setItemA (.ref b) (.int x) (.bool true)) h1 Q := by
    intro l ep x h1 Q hl hx e K q
    have hlen := sub_len l (nodes γ) hl.1 hl.2
    refine p_set_dict e (lim_of (by unfold nsK; rw [List.length_map]; unfold nodes at hlen; rw [List.length_map] at hlen; have := G.few; omega)) fun h2 u => ?_
    (refine xe1 (fun ep' e' => ?_) (put_ns l ep x))
    rw [e'] at u
    exact q h2 ep' (K.upd u nb) u.1 (putK_ok hl hx)
  refine s_ForDict (by kernel_rfl) ?_
  repeat wtm_at "mine st"
  refine p_attr_near Gb.inst Gb.ns ?_
  repeat wtm_at "mine st"
  refine p_near Gb h1 ?_
  refine ⟨_, _, _, rfl, Kb _ _ a1, fun ys m h3 => ∃ rest l ep, ys = rest.map V.int ∧ (∀ x ∈ rest, x ∈ nodes γ) ∧ (l.Nodup ∧ ∀ x ∈ l, x ∈ nodes γ) ∧ Keep h h3 ∧ h3[b]? = some (.dict (nsK l) ep) ∧
      Hs m "graph" (.ref g) ∧ Hs m "node" (.int e1.node) ∧ Hs m "other" (.int e2.node) ∧ Hs m "count" (.int cnt) ∧ Hs m "both" (.ref b),
    ⟨e1.near, [], 0, keysV_ns _, (G.sub e1 h1).2, ⟨List.Pairwise.nil, fun zz z => (nomatch z)⟩, Kb, eb, by wtm_at "mine nm", by wtm_at "mine nm", by wtm_at "mine nm", by wtm_at "mine nm", by wtm_at "mine nm"⟩, ?_, ?_⟩
  · refine fun y ys m h3 hh => ex3 hh fun rest l ep hh => and10 hh fun e hr hl K b3 n1 n2 n3 n4 n5 => ?_
    cases rest with
    | nil => cases e
    | cons x rest =>
    cases e
    repeat wtm_at "mine st"
    refine put hl (hr x List.mem_cons_self) b3 K fun h4 ep' K4 b4 hl' => ?_
    repeat wtm_at "mine st"
    exact ⟨K4 _ _ a1, rest, _, ep', rfl, fun z hz => hr z (List.mem_cons_of_mem _ hz), hl', K4, b4, by wtm_at "mine nm", by wtm_at "mine nm", by wtm_at "mine nm", by wtm_at "mine nm", by wtm_at "mine nm"⟩
  refine fun m h3 hh => ex3 hh fun rest l ep hh => and10 hh fun zz zz hl K b3 n1 n2 n3 n4 n5 => ?_
  have G3 := G.keep K
  refine s_ForDict (by kernel_rfl) ?_
  repeat wtm_at "mine st"
  refine p_attr_near G3.inst G3.ns ?_
  repeat wtm_at "mine st"
  refine p_near G3 h2 ?_
  refine ⟨_, _, _, rfl, K _ _ a2, fun ys m h3 => ∃ rest l ep, ys = rest.map V.int ∧ (∀ x ∈ rest, x ∈ nodes γ) ∧ (l.Nodup ∧ ∀ x ∈ l, x ∈ nodes γ) ∧ Keep h h3 ∧ h3[b]? = some (.dict (nsK l) ep) ∧
      Hs m "graph" (.ref g) ∧ Hs m "node" (.int e1.node) ∧ Hs m "other" (.int e2.node) ∧ Hs m "count" (.int cnt) ∧ Hs m "both" (.ref b),
    ⟨e2.near, l, ep, keysV_ns _, (G.sub e2 h2).2, hl, K, b3, n1, n2, n3, n4, n5⟩, ?_, ?_⟩
  · refine fun y ys m h3 hh => ex3 hh fun rest l ep hh => and10 hh fun e hr hl K b3 n1 n2 n3 n4 n5 => ?_
    cases rest with
    | nil => cases e
    | cons x rest =>
    cases e
    repeat wtm_at "mine st"
    refine put hl (hr x List.mem_cons_self) b3 K fun h4 ep' K4 b4 hl' => ?_
    repeat wtm_at "mine st"
    exact ⟨K4 _ _ a2, rest, _, ep', rfl, fun z hz => hr z (List.mem_cons_of_mem _ hz), hl', K4, b4, by wtm_at "mine nm", by wtm_at "mine nm", by wtm_at "mine nm", by wtm_at "mine nm", by wtm_at "mine nm"⟩
  refine fun m h3 hh => ex3 hh fun rest l ep hh => and10 hh fun zz zz hl K b3 n1 n2 n3 n4 n5 => ?_
  have hlen := sub_len l (nodes γ) hl.1 hl.2
  unfold nodes at hlen
  rw [List.length_map] at hlen
  repeat wtm_at "mine st"
  refine s_ForDict (by kernel_rfl) ?_
  repeat wtm_at "mine st"
  refine ⟨_, _, _, rfl, b3, fun ys m h4 => ∃ rest : List Int, ∃ n : Nat, ys = rest.map V.int ∧ (∀ x ∈ rest, x ∈ nodes γ) ∧ n + rest.length ≤ l.length ∧ h4 = h3 ∧
      Hs m "graph" (.ref g) ∧ Hs m "node" (.int e1.node) ∧ Hs m "other" (.int e2.node) ∧ Hs m "count" (.int cnt) ∧ Hs m "heavy" (.int n),
    ⟨l, 0, keysV_ns _, hl.2, by omega, rfl, by wtm_at "mine nm", by wtm_at "mine nm", by wtm_at "mine nm", by wtm_at "mine nm", by wtm_at "mine nm"⟩, ?_, ?_⟩
  · intro y ys m h4 zq
    (revert zq; refine xe2 fun rest n zq1 => ?_; revert zq1; refine ae5 fun e hr hn zq2 zq3 => ?_; subst zq2; revert zq3; refine ae5 fun n1 n2 n3 n4 n5 => ?_)
    cases rest with
    | nil => cases e
    | cons x rest =>
    cases e
    have G4 := G.keep K
    (refine xe1 (fun ex zq1 => ?_) (at_node (hr x List.mem_cons_self)); revert zq1; refine ae2 fun hex zq2 => ?_; subst zq2)
    (refine ae2 (fun zq1 zz => ?_) (G4.each ex hex); revert zq1; refine xe1 fun epx ax => ?_)
    repeat wtm_at "mine st"
    refine p_attr_near G4.inst G4.ns ?_
    repeat wtm_at "mine st"
    refine p_near G4 hex ?_
    repeat wtm_at "mine st"
    refine c_len (p_len_dict ax (lim_of (by unfold nsK; rw [List.length_map]; have := G4.near_len hex; omega)) ?_)
    refine s_IfJ (fun (m : Mine.L) h5 => h5 = h4 ∧ Hs m "graph" (.ref g) ∧ Hs m "node" (.int e1.node) ∧ Hs m "other" (.int e2.node) ∧ Hs m "count" (.int cnt) ∧ Hs m "heavy" (.int n) ∧ ∃ dg : Int, Hs m "degree" (.int dg)) ?_ ?_
    rotate_right
    · intro m5 h5 zq
      (revert zq; refine ae2 fun zq1 zq2 => ?_; subst zq1; revert zq2; refine ae6 fun n1 n2 n3 n4 n5 zq3 => ?_; revert zq3; refine xe1 fun dg n6 => ?_)
      repeat wtm_at "mine st"
      refine ⟨fun t => ?_, fun t => ?_⟩
      · refine s_AugAdd n5 ?_
        repeat wtm_at "mine st"
        refine ⟨1, rfl, ?_⟩
        repeat wtm_at "mine st"
        exact ⟨b3, rest, n + 1, rfl, fun z hz => hr z (List.mem_cons_of_mem _ hz), by rw [List.length_cons] at hn; omega, rfl, by wtm_at "mine nm", by wtm_at "mine nm", by wtm_at "mine nm", by wtm_at "mine nm", by wtm_at "mine nm"⟩
      · repeat wtm_at "mine st"
        exact ⟨b3, rest, n, rfl, fun z hz => hr z (List.mem_cons_of_mem _ hz), by rw [List.length_cons] at hn; omega, rfl, by wtm_at "mine nm", by wtm_at "mine nm", by wtm_at "mine nm", by wtm_at "mine nm", by wtm_at "mine nm"⟩
    · repeat wtm_at "mine st"
      refine p_attr_near G4.inst G4.ns ?_
      repeat wtm_at "mine st"
      refine p_near G4 hex ?_
      refine p_in (in_dict ax) ?_
      repeat wtm_at "mine st"
      refine ⟨fun t => ⟨fun z => (Bool.false_ne_true z).elim, fun zz => ?_⟩, fun t => ?_⟩
      · repeat wtm_at "mine st"
        exact ⟨rfl, by wtm_at "mine nm", by wtm_at "mine nm", by wtm_at "mine nm", by wtm_at "mine nm", by wtm_at "mine nm", _, by wtm_at "mine nm"⟩
      repeat wtm_at "mine st"
      refine p_attr_near G4.inst G4.ns ?_
      repeat wtm_at "mine st"
      refine p_near G4 hex ?_
      refine p_in (in_dict ax) ?_
      repeat wtm_at "mine st"
      refine ⟨fun t => ⟨fun z => (Bool.false_ne_true z).elim, fun zz => ?_⟩, fun t => ?_⟩
      · repeat wtm_at "mine st"
        exact ⟨rfl, by wtm_at "mine nm", by wtm_at "mine nm", by wtm_at "mine nm", by wtm_at "mine nm", by wtm_at "mine nm", _, by wtm_at "mine nm"⟩
      repeat wtm_at "mine st"
      refine ⟨fun zz => ?_, fun z => (Bool.false_ne_true z.symm).elim⟩
      refine s_AugSub (a := (nsK ex.near).length) (by wtm_at "mine nm") ?_
      repeat wtm_at "mine st"
      refine ⟨1, rfl, ?_⟩
      repeat wtm_at "mine st"
      exact ⟨rfl, by wtm_at "mine nm", by wtm_at "mine nm", by wtm_at "mine nm", by wtm_at "mine nm", by wtm_at "mine nm", _, by wtm_at "mine nm"⟩
  · intro m h4 zq
    (revert zq; refine xe2 fun rest n zq1 => ?_; revert zq1; refine ae5 fun e zz hn zq2 zq3 => ?_; subst zq2; revert zq3; refine ae5 fun n1 n2 n3 n4 n5 => ?_)
    repeat wtm_at "mine st"
    exact q n h4 K (by omega)
end

open PySem

theorem clash_iff {Λ : Life} {P R : List Int} : clash Λ P R = true ↔ ∃ v ∈ P, ∃ w ∈ R, v ≠ w ∧ meet Λ v w = true := by
  unfold clash
  simp only [List.any_eq_true, Bool.and_eq_true, decide_eq_true_eq]
theorem meet_comm {k : Nat} {Λ : Life} (lo : LifeOk k Λ) {v w : Int} (hv : v ∈ keys Λ) (hw : w ∈ keys Λ) (n : v ≠ w) : meet Λ v w = meet Λ w v := by
  have := lo.inj v hv w hw n
  unfold meet
  by_cases h : (fnd Λ v).1 < (fnd Λ w).1
  · rw [if_neg (by omega), if_pos (by omega)]
  · rw [if_pos (by omega), if_neg (by omega)]
theorem ovl_meet {k : Nat} {Λ : Life} (lo : LifeOk k Λ) {v w : Int} (hv : v ∈ keys Λ) (hw : w ∈ keys Λ) (n : v ≠ w) : ovl Λ v w = meet Λ v w := by
  have h1 := lo.inj v hv w hw n
  have h2 := lo.bnd v hv
  have h3 := lo.bnd w hw
  unfold ovl meet endK
  rw [Bool.eq_iff_iff]
  simp only [Bool.and_eq_true, decide_eq_true_eq]
  generalize fnd Λ v = p at h1 h2 ⊢
  generalize fnd Λ w = q at h1 h3 ⊢
  split <;> split <;> split <;> simp only [decide_eq_true_eq] <;> omega
theorem clash_comm {k : Nat} {Λ : Life} (lo : LifeOk k Λ) {P R : List Int} (hP : ∀ v ∈ P, v ∈ keys Λ) (hR : ∀ v ∈ R, v ∈ keys Λ) (c : clash Λ P R = true) : clash Λ R P = true := by
  rw [clash_iff] at c ⊢
  (revert c; refine xe1 fun v zq1 => ?_; revert zq1; refine ae2 fun hv zq2 => ?_; revert zq2; refine xe1 fun w zq3 => ?_; revert zq3; refine ae3 fun hw n m => ?_)
  exact ⟨w, hw, v, hv, Ne.symm n, by rw [← meet_comm lo (hP v hv) (hR w hw) n]; exact m⟩
theorem clash_perm {Λ : Life} {P R P' R' : List Int} (p : P.Perm P') (r : R.Perm R') : clash Λ P R = clash Λ P' R' := by
  rw [Bool.eq_iff_iff, clash_iff, clash_iff]
  exact ⟨fun ⟨v, hv, w, hw, z⟩ => ⟨v, p.mem_iff.mp hv, w, r.mem_iff.mp hw, z⟩, fun ⟨v, hv, w, hw, z⟩ => ⟨v, p.mem_iff.mpr hv, w, r.mem_iff.mpr hw, z⟩⟩
theorem clash_left {Λ : Life} {P P' R : List Int} : clash Λ (P ++ P') R = true ↔ clash Λ P R = true ∨ clash Λ P' R = true := by
  unfold clash
  rw [List.any_append, Bool.or_eq_true]
theorem clash_right {Λ : Life} {P R R' : List Int} : clash Λ P (R ++ R') = true ↔ clash Λ P R = true ∨ clash Λ P R' = true := by
  simp only [clash_iff, List.mem_append]
  constructor
  · rintro ⟨v, hv, w, hw | hw, z⟩
    · exact .inl ⟨v, hv, w, hw, z⟩
    · exact .inr ⟨v, hv, w, hw, z⟩
  · rintro (⟨v, hv, w, hw, z⟩ | ⟨v, hv, w, hw, z⟩)
    · exact ⟨v, hv, w, .inl hw, z⟩
    · exact ⟨v, hv, w, .inr hw, z⟩

/- what hangs together by pairs -/
noncomputable def Conn (C : Int → Int → Prop) (P : List Int) : Prop := ∀ S : Int → Bool, (∃ x ∈ P, S x = true) → (∃ x ∈ P, S x = false) → ∃ x y, C x y ∧ x ∈ P ∧ y ∈ P ∧ S x ≠ S y
theorem conn_one (C : Int → Int → Prop) (v : Int) : Conn C [v] := by
  intro S ⟨x, hx, sx⟩ ⟨y, hy, sy⟩
  rw [List.mem_singleton.mp hx] at sx
  rw [List.mem_singleton.mp hy, sx] at sy
  cases sy
theorem conn_join {C : Int → Int → Prop} {P R : List Int} (hP : Conn C P) (hR : Conn C R) {x y : Int} (hc : C x y ∨ C y x) (hx : x ∈ P) (hy : y ∈ R) : Conn C (P ++ R) := by
  intro S ⟨a, ha, sa⟩ ⟨b, hb, sb⟩
  have up : ∀ {T : List Int}, (∀ z ∈ T, z ∈ P ++ R) → Conn C T → (∃ x ∈ T, S x = true) → (∃ x ∈ T, S x = false) → ∃ x y, C x y ∧ x ∈ P ++ R ∧ y ∈ P ++ R ∧ S x ≠ S y := fun s c h1 h2 =>
    let ⟨x, y, z, p, q, r⟩ := c S h1 h2; ⟨x, y, z, s x p, s y q, r⟩
  have sP : ∀ z ∈ P, z ∈ P ++ R := fun z h => List.mem_append_left _ h
  have sR : ∀ z ∈ R, z ∈ P ++ R := fun z h => List.mem_append_right _ h
  by_cases e : S x = S y
  · have ba : ∀ {T : List Int} {t c : Int}, t ∈ T → c ∈ T → S t ≠ S c → (∃ x ∈ T, S x = true) ∧ ∃ x ∈ T, S x = false := fun {T t c} ht hc n => by
      cases q : S t with
      | true => exact ⟨⟨t, ht, q⟩, c, hc, by rw [q] at n; cases r : S c with | false => rfl | true => rw [r] at n; exact absurd rfl n⟩
      | false => exact ⟨⟨c, hc, by rw [q] at n; cases r : S c with | true => rfl | false => rw [r] at n; exact absurd rfl n⟩, t, ht, q⟩
    have pick : ∀ c ∈ P ++ R, S c ≠ S x → ∃ x y, C x y ∧ x ∈ P ++ R ∧ y ∈ P ++ R ∧ S x ≠ S y := fun c hc n => by
      rcases List.mem_append.mp hc with q | q
      · (refine ae2 (fun z1 z2 => ?_) (ba hx q (Ne.symm n))); exact up sP hP z1 z2
      · (refine ae2 (fun z1 z2 => ?_) (ba hy q (by rw [← e]; exact Ne.symm n))); exact up sR hR z1 z2
    cases q : S x with
    | true => exact pick b hb (by rw [q, sb]; decide)
    | false => exact pick a ha (by rw [q, sa]; decide)
  · rcases hc with hc | hc
    · exact ⟨x, y, hc, sP x hx, sR y hy, e⟩
    · exact ⟨y, x, hc, sR y hy, sP x hx, Ne.symm e⟩

abbrev Sh := List (Int × List Int)
noncomputable def sh (γ : Gr) : Sh := γ.map fun e => (e.node, e.mem)
/- a parting of the registers into groups -/
structure InvS (Λ : Life) (C : Int → Int → Prop) (σ : Sh) : Prop where
  nodes : (σ.map (·.1)).Nodup
  part : (σ.flatMap (·.2)).Perm (keys Λ)
  self : ∀ p ∈ σ, p.1 ∈ p.2
  inner : ∀ p ∈ σ, clash Λ p.2 p.2 = false
  conn : ∀ p ∈ σ, Conn C p.2
noncomputable def nrP (γ : Gr) (n x : Int) : Prop := ∃ e ∈ γ, e.node = n ∧ x ∈ e.near
structure Inv (Λ : Life) (C : Int → Int → Prop) (γ : Gr) : Prop where
  s : InvS Λ C (sh γ)
  near : ∀ n x, nrP γ n x ↔ ∃ p ∈ sh γ, ∃ r ∈ sh γ, p.1 = n ∧ r.1 = x ∧ x ≠ n ∧ clash Λ p.2 r.2 = true
theorem InvS.perm {Λ : Life} {C : Int → Int → Prop} {σ τ : Sh} (x : InvS Λ C σ) (p : σ.Perm τ) : InvS Λ C τ :=
  ⟨(p.map _).nodup_iff.mp x.nodes, (List.Perm.flatMap_right _ p).symm.trans x.part, fun q h => x.self q (p.mem_iff.mpr h), fun q h => x.inner q (p.mem_iff.mpr h), fun q h => x.conn q (p.mem_iff.mpr h)⟩
theorem InvS.sub {Λ : Life} {C : Int → Int → Prop} {σ : Sh} (x : InvS Λ C σ) {p : Int × List Int} (h : p ∈ σ) : ∀ v ∈ p.2, v ∈ keys Λ := fun v hv => x.part.mem_iff.mp (List.mem_flatMap.mpr ⟨p, h, hv⟩)
theorem flat_uniq {σ : Sh} (nd : (σ.flatMap (·.2)).Nodup) : ∀ {p r : Int × List Int} {v : Int}, p ∈ σ → r ∈ σ → v ∈ p.2 → v ∈ r.2 → p = r := by
  induction σ with
  | nil => intro p r v hp; cases hp
  | cons a σ ih =>
    intro p r v hp hr vp vr
    rw [List.flatMap_cons, List.nodup_append] at nd
    rcases List.mem_cons.mp hp with q | hp
    · rcases List.mem_cons.mp hr with q2 | hr
      · rw [q, q2]
      · exact absurd rfl (nd.2.2 v (q ▸ vp) v (List.mem_flatMap.mpr ⟨r, hr, vr⟩))
    · rcases List.mem_cons.mp hr with q2 | hr
      · exact absurd rfl (nd.2.2 v (q2 ▸ vr) v (List.mem_flatMap.mpr ⟨p, hp, vp⟩))
      · exact ih nd.2.1 hp hr vp vr
theorem InvS.uniq {k : Nat} {Λ : Life} {C : Int → Int → Prop} {σ : Sh} (x : InvS Λ C σ) (lo : LifeOk k Λ) {p r : Int × List Int} {v : Int} (hp : p ∈ σ) (hr : r ∈ σ) (vp : v ∈ p.2) (vr : v ∈ r.2) : p = r :=
  flat_uniq (x.part.nodup_iff.mpr lo.nodup) hp hr vp vr
theorem InvS.join {k : Nat} {Λ : Life} {C : Int → Int → Prop} {ρ : Sh} {n1 n2 : Int} {m1 m2 : List Int} (x : InvS Λ C ((n1, m1) :: (n2, m2) :: ρ)) (lo : LifeOk k Λ) (hc : clash Λ m1 m2 = false) {a b : Int} (hab : C a b ∨ C b a) (ha : a ∈ m1) (hb : b ∈ m2) :
    InvS Λ C ((n1, m1 ++ m2) :: ρ) := by
  have s1 := x.sub (p := (n1, m1)) List.mem_cons_self
  have s2 := x.sub (p := (n2, m2)) (List.mem_cons_of_mem _ List.mem_cons_self)
  refine ⟨?_, ?_, fun p hp => ?_, fun p hp => ?_, fun p hp => ?_⟩
  · have := x.nodes
    simp only [List.map_cons, List.nodup_cons, List.mem_cons, not_or] at this ⊢
    exact ⟨this.1.2, this.2.2⟩
  · have := x.part
    rw [List.flatMap_cons, List.flatMap_cons] at this
    rw [List.flatMap_cons]
    show (m1 ++ m2 ++ _).Perm _
    rw [List.append_assoc]; exact this
  · rcases List.mem_cons.mp hp with rfl | hp
    · exact List.mem_append_left _ (x.self (n1, m1) List.mem_cons_self)
    · exact x.self p (List.mem_cons_of_mem _ (List.mem_cons_of_mem _ hp))
  · rcases List.mem_cons.mp hp with rfl | hp
    · have i1 := x.inner (n1, m1) List.mem_cons_self
      have i2 := x.inner (n2, m2) (List.mem_cons_of_mem _ List.mem_cons_self)
      cases q : clash Λ (m1 ++ m2) (m1 ++ m2) with
      | false => rfl
      | true =>
        exfalso
        rcases clash_left.mp q with q | q <;> rcases clash_right.mp q with q | q
        · rw [i1] at q; cases q
        · rw [hc] at q; cases q
        · rw [clash_comm lo s2 s1 q] at hc; cases hc
        · rw [i2] at q; cases q
    · exact x.inner p (List.mem_cons_of_mem _ (List.mem_cons_of_mem _ hp))
  · rcases List.mem_cons.mp hp with rfl | hp
    · exact conn_join (x.conn (n1, m1) List.mem_cons_self) (x.conn (n2, m2) (List.mem_cons_of_mem _ List.mem_cons_self)) hab ha hb
    · exact x.conn p (List.mem_cons_of_mem _ (List.mem_cons_of_mem _ hp))

/- neighbours -/
theorem nrP_up {γ : Gr} {a : Int} {f : List Int → List Int} {n x : Int} : nrP (upN a f γ) n x ↔ ∃ e ∈ γ, e.node = n ∧ x ∈ (if n = a then f e.near else e.near) := by
  unfold nrP upN
  constructor
  · intro zq
    (revert zq; refine xe1 fun e zq1 => ?_; revert zq1; refine ae3 fun he h1 h2 => ?_)
    (refine xe1 (fun e0 zq1 => ?_) (List.mem_map.mp he); revert zq1; refine ae2 fun h0 zq2 => ?_; subst zq2)
    rw [up_node] at h1
    refine ⟨e0, h0, h1, ?_⟩
    rw [h1] at h2
    split at h2 <;> rename_i q <;> simp only [q, if_true, if_false] <;> exact h2
  · intro zq
    (revert zq; refine xe1 fun e zq1 => ?_; revert zq1; refine ae3 fun he h1 h2 => ?_)
    refine ⟨_, List.mem_map.mpr ⟨e, he, rfl⟩, by rw [up_node]; exact h1, ?_⟩
    rw [h1]
    split at h2 <;> rename_i q <;> simp only [q, if_true, if_false] <;> exact h2
theorem nrP_put {γ : Gr} {a b n x : Int} : nrP (upN a (putK · b) γ) n x ↔ nrP γ n x ∨ (n = a ∧ x = b ∧ a ∈ nodes γ) := by
  rw [nrP_up]
  constructor
  · intro zq
    (revert zq; refine xe1 fun e zq1 => ?_; revert zq1; refine ae3 fun he h1 h2 => ?_)
    split at h2
    · rename_i q
      rcases mem_putK.mp h2 with z | z
      · exact .inl ⟨e, he, h1, z⟩
      · exact .inr ⟨q, z, q ▸ h1 ▸ List.mem_map_of_mem he⟩
    · exact .inl ⟨e, he, h1, h2⟩
  · rintro (⟨e, he, h1, h2⟩ | ⟨rfl, rfl, h3⟩)
    · refine ⟨e, he, h1, ?_⟩
      split
      · exact mem_putK.mpr (.inl h2)
      · exact h2
    · (refine xe1 (fun e zq1 => ?_) (at_node h3); revert zq1; refine ae2 fun he h1 => ?_)
      exact ⟨e, he, h1, by rw [if_pos rfl]; exact mem_putK.mpr (.inr rfl)⟩
theorem nrP_del {γ : Gr} {a b n x : Int} : nrP (upN a (delK · b) γ) n x ↔ nrP γ n x ∧ ¬ (n = a ∧ x = b) := by
  rw [nrP_up]
  constructor
  · intro zq
    (revert zq; refine xe1 fun e zq1 => ?_; revert zq1; refine ae3 fun he h1 h2 => ?_)
    split at h2
    · rename_i q
      (refine ae2 (fun z1 z2 => ?_) (mem_delK.mp h2))
      exact ⟨⟨e, he, h1, z1⟩, fun z => z2 z.2⟩
    · rename_i q
      exact ⟨⟨e, he, h1, h2⟩, fun z => q z.1⟩
  · intro zq
    (revert zq; refine ae2 fun zq1 h3 => ?_; revert zq1; refine xe1 fun e zq2 => ?_; revert zq2; refine ae3 fun he h1 h2 => ?_)
    refine ⟨e, he, h1, ?_⟩
    split
    · rename_i q
      exact mem_delK.mpr ⟨h2, fun z => h3 ⟨q, z⟩⟩
    · exact h2
theorem nrP_inner {Λ : Life} {v : Int} : ∀ {ws : List Int} {γ : Gr} {n x : Int}, v ∈ nodes γ → (∀ w ∈ ws, w ∈ nodes γ) → (nrP (innerI Λ v ws γ) n x ↔ nrP γ n x ∨ ∃ w ∈ ws, (v < w ∧ ovl Λ v w = true) ∧ ((n = v ∧ x = w) ∨ (n = w ∧ x = v)))
  | [], γ, n, x, _, _ => by unfold innerI; simp
  | w :: ws, γ, n, x, hv, hw => by
    have hw1 := hw w List.mem_cons_self
    have hw2 := fun z hz => hw z (List.mem_cons_of_mem _ hz)
    show nrP (innerI Λ v ws (if decide (v < w) && ovl Λ v w then pairI v w γ else γ)) n x ↔ _
    by_cases c : (decide (v < w) && ovl Λ v w) = true
    · rw [if_pos c]
      have c' : v < w ∧ ovl Λ v w = true := by simpa using c
      have hn : nodes (pairI v w γ) = nodes γ := (upN_nodes ..).trans (upN_nodes ..)
      rw [nrP_inner (by rw [hn]; exact hv) (by rw [hn]; exact hw2)]
      unfold pairI
      rw [nrP_put, nrP_put, upN_nodes]
      constructor
      · rintro (((z | ⟨z1, z2, _⟩) | ⟨z1, z2, _⟩) | ⟨w', z1, z2⟩)
        · exact .inl z
        · exact .inr ⟨w, List.mem_cons_self, c', .inl ⟨z1, z2⟩⟩
        · exact .inr ⟨w, List.mem_cons_self, c', .inr ⟨z1, z2⟩⟩
        · exact .inr ⟨w', List.mem_cons_of_mem _ z1, z2⟩
      · rintro (z | ⟨w', z1, z2, z3⟩)
        · exact .inl (.inl (.inl z))
        · rcases List.mem_cons.mp z1 with rfl | z1
          · rcases z3 with ⟨z3, z4⟩ | ⟨z3, z4⟩
            · exact .inl (.inl (.inr ⟨z3, z4, hv⟩))
            · exact .inl (.inr ⟨z3, z4, hw1⟩)
          · exact .inr ⟨w', z1, z2, z3⟩
    · rw [if_neg c]
      have c' : ¬ (v < w ∧ ovl Λ v w = true) := by simpa using c
      rw [nrP_inner hv hw2]
      constructor
      · rintro (z | ⟨w', z1, z2⟩)
        · exact .inl z
        · exact .inr ⟨w', List.mem_cons_of_mem _ z1, z2⟩
      · rintro (z | ⟨w', z1, z2, z3⟩)
        · exact .inl z
        · rcases List.mem_cons.mp z1 with rfl | z1
          · exact absurd z2 c'
          · exact .inr ⟨w', z1, z2, z3⟩
theorem inner_map {α : Type} {Λ : Life} {v : Int} (p : GE → α) (h : ∀ e l, p { e with near := l } = p e) : ∀ (ws : List Int) (γ : Gr), (innerI Λ v ws γ).map p = γ.map p
  | [], _ => rfl
  | w :: ws, γ => by
    show (innerI Λ v ws (if _ then pairI v w γ else γ)).map p = _
    rw [inner_map p h ws]
    split
    · exact (upN_map _ _ _ _ h).trans (upN_map _ _ _ _ h)
    · rfl
theorem outer_map {α : Type} {Λ : Life} {names : List Int} (p : GE → α) (h : ∀ e l, p { e with near := l } = p e) : ∀ (vs : List Int) (γ : Gr), (outerI Λ names vs γ).map p = γ.map p
  | [], _ => rfl
  | v :: vs, γ => by
    show (outerI Λ names vs (innerI Λ v names γ)).map p = _
    rw [outer_map p h vs, inner_map p h]
theorem nrP_outer {Λ : Life} {names : List Int} : ∀ {vs : List Int} {γ : Gr} {n x : Int}, (∀ v ∈ vs, v ∈ nodes γ) → (∀ w ∈ names, w ∈ nodes γ) →
    (nrP (outerI Λ names vs γ) n x ↔ nrP γ n x ∨ ∃ v ∈ vs, ∃ w ∈ names, (v < w ∧ ovl Λ v w = true) ∧ ((n = v ∧ x = w) ∨ (n = w ∧ x = v)))
  | [], γ, n, x, _, _ => by unfold outerI; simp
  | v :: vs, γ, n, x, hv, hw => by
    have hn : nodes (innerI Λ v names γ) = nodes γ := inner_map (·.node) (fun zz zz => rfl) names γ
    show nrP (outerI Λ names vs (innerI Λ v names γ)) n x ↔ _
    rw [nrP_outer (fun z hz => by rw [hn]; exact hv z (List.mem_cons_of_mem _ hz)) (by rw [hn]; exact hw), nrP_inner (hv v List.mem_cons_self) hw]
    constructor
    · rintro ((z | z) | ⟨v', z1, z2⟩)
      · exact .inl z
      · exact .inr ⟨v, List.mem_cons_self, z⟩
      · exact .inr ⟨v', List.mem_cons_of_mem _ z1, z2⟩
    · rintro (z | ⟨v', z1, z2⟩)
      · exact .inl (.inl z)
      · rcases List.mem_cons.mp z1 with rfl | z1
        · exact .inl (.inr z2)
        · exact .inr ⟨v', z1, z2⟩

theorem inv_start {k : Nat} {Λ : Life} {C : Int → Int → Prop} {γ0 : Gr} (lo : LifeOk k Λ) (b : Bare γ0 (sortI (keys Λ))) : Inv Λ C (outerI Λ (nodes γ0) (nodes γ0) γ0) := by
  (revert b; refine ae2 fun hn hb => ?_)
  have perm : (nodes γ0).Perm (keys Λ) := by rw [hn]; exact List.mergeSort_perm ..
  have hsh : sh (outerI Λ (nodes γ0) (nodes γ0) γ0) = (nodes γ0).map fun v => (v, [v]) := by
    unfold sh
    rw [outer_map (fun e => (e.node, e.mem)) (fun zz zz => rfl)]
    unfold nodes
    rw [List.map_map]
    apply List.map_congr_left
    intro e he
    show (e.node, e.mem) = (e.node, [e.node])
    rw [(hb e he).2]
  refine ⟨?_, fun n x => ?_⟩
  · rw [hsh]
    have pm : ∀ p ∈ (nodes γ0).map fun v => (v, [v]), ∃ v, p = (v, [v]) := fun p hp => let ⟨v, _, e⟩ := List.mem_map.mp hp; ⟨v, e.symm⟩
    refine ⟨?_, ?_, fun p hp => ?_, fun p hp => ?_, fun p hp => ?_⟩
    · rw [List.map_map]
      show ((nodes γ0).map id).Nodup
      rw [List.map_id]; exact perm.nodup_iff.mpr lo.nodup
    · have : ((nodes γ0).map fun v => ((v, [v]) : Int × List Int)).flatMap (·.2) = nodes γ0 := by
        generalize nodes γ0 = l
        induction l with
        | nil => rfl
        | cons a l ih => rw [List.map_cons, List.flatMap_cons, ih]; rfl
      rw [this]; exact perm
    · (refine xe1 (fun v zq1 => ?_) (pm p hp); subst zq1); exact List.mem_cons_self
    · (refine xe1 (fun v zq1 => ?_) (pm p hp); subst zq1)
      simp [clash]
    · (refine xe1 (fun v zq1 => ?_) (pm p hp); subst zq1); exact conn_one C v
  · rw [nrP_outer (fun zz z => z) (fun zz z => z), hsh]
    have none : ¬ nrP γ0 n x := fun ⟨e, he, _, h2⟩ => by rw [(hb e he).1] at h2; cases h2
    constructor
    · rintro (z | ⟨v, hv, w, hw, ⟨lt, ov⟩, z⟩)
      · exact absurd z none
      · have hv' := perm.mem_iff.mp hv
        have hw' := perm.mem_iff.mp hw
        have hne : v ≠ w := by omega
        have hm : meet Λ v w = true := by rw [← ovl_meet lo hv' hw' hne]; exact ov
        rcases z with ⟨rfl, rfl⟩ | ⟨rfl, rfl⟩
        · exact ⟨_, List.mem_map.mpr ⟨n, hv, rfl⟩, _, List.mem_map.mpr ⟨x, hw, rfl⟩, rfl, rfl, Ne.symm hne, clash_iff.mpr ⟨n, List.mem_cons_self, x, List.mem_cons_self, hne, hm⟩⟩
        · exact ⟨_, List.mem_map.mpr ⟨n, hw, rfl⟩, _, List.mem_map.mpr ⟨x, hv, rfl⟩, rfl, rfl, hne, clash_iff.mpr ⟨n, List.mem_cons_self, x, List.mem_cons_self, Ne.symm hne, by rw [meet_comm lo hw' hv' (Ne.symm hne)]; exact hm⟩⟩
    · intro zq
      (revert zq; refine xe1 fun p zq1 => ?_; revert zq1; refine ae2 fun hp zq2 => ?_; revert zq2; refine xe1 fun r zq3 => ?_; revert zq3; refine ae3 fun hr zq4 zq5 => ?_; subst zq4; revert zq5; refine ae2 fun zq6 zq7 => ?_; subst zq6; revert zq7; refine ae2 fun hne hc => ?_)
      (refine xe1 (fun v zq1 => ?_) (List.mem_map.mp hp); revert zq1; refine ae2 fun hv zq2 => ?_; subst zq2)
      (refine xe1 (fun w zq1 => ?_) (List.mem_map.mp hr); revert zq1; refine ae2 fun hw zq2 => ?_; subst zq2)
      (refine xe1 (fun a zq1 => ?_) (clash_iff.mp hc); revert zq1; refine ae2 fun ha zq2 => ?_; revert zq2; refine xe1 fun b zq3 => ?_; revert zq3; refine ae3 fun hb zz hm => ?_)
      rw [List.mem_singleton.mp ha, List.mem_singleton.mp hb] at hm
      have hv' := perm.mem_iff.mp hv
      have hw' := perm.mem_iff.mp hw
      have hne : w ≠ v := hne
      rcases Int.lt_or_gt_of_ne hne with lt | lt
      · exact .inr ⟨w, hw, v, hv, ⟨lt, by rw [ovl_meet lo hw' hv' hne, meet_comm lo hw' hv' hne]; exact hm⟩, .inr ⟨rfl, rfl⟩⟩
      · exact .inr ⟨v, hv, w, hw, ⟨lt, by rw [ovl_meet lo hv' hw' (Ne.symm hne)]; exact hm⟩, .inl ⟨rfl, rfl⟩⟩

open PySem PySem.W PyProof.Rows

noncomputable def stepJ (n o t : Int) (γ : Gr) : Gr := upN n (putK · t) (upN t (putK · n) (upN t (delK · o) γ))
noncomputable def joinF (n o : Int) (T : List Int) (γ : Gr) : Gr := T.foldl (fun γ t => stepJ n o t γ) γ
noncomputable def upM (n : Int) (l : List Int) (γ : Gr) : Gr := γ.map fun e => if e.node = n then { e with mem := e.mem ++ l } else e
noncomputable def remN (o : Int) (γ : Gr) : Gr := γ.filter fun e => !(e.node == o)
noncomputable def joinG (e1 e2 : GE) (γ : Gr) : Gr := remN e2.node (upM e1.node e2.mem (joinF e1.node e2.node e2.near γ))

theorem step_map {α : Type} (p : GE → α) (h : ∀ e l, p { e with near := l } = p e) (n o t : Int) (γ : Gr) : (stepJ n o t γ).map p = γ.map p := (upN_map _ _ _ _ h).trans ((upN_map _ _ _ _ h).trans (upN_map _ _ _ _ h))
theorem joinF_map {α : Type} (p : GE → α) (h : ∀ e l, p { e with near := l } = p e) (n o : Int) : ∀ (T : List Int) (γ : Gr), (joinF n o T γ).map p = γ.map p
  | [], _ => rfl
  | t :: T, γ => (joinF_map p h n o T (stepJ n o t γ)).trans (step_map p h n o t γ)
theorem nrP_step {n o t m x : Int} {γ : Gr} (ht : t ∈ nodes γ) (hn : n ∈ nodes γ) : nrP (stepJ n o t γ) m x ↔ (nrP γ m x ∧ ¬ (m = t ∧ x = o)) ∨ (m = t ∧ x = n) ∨ (m = n ∧ x = t) := by
  unfold stepJ
  rw [nrP_put, nrP_put, nrP_del]
  simp only [upN_nodes]
  rw [or_assoc]
  constructor
  · rintro (z | ⟨a, b, _⟩ | ⟨a, b, _⟩)
    · exact .inl z
    · exact .inr (.inl ⟨a, b⟩)
    · exact .inr (.inr ⟨a, b⟩)
  · rintro (z | ⟨a, b⟩ | ⟨a, b⟩)
    · exact .inl z
    · exact .inr (.inl ⟨a, b, ht⟩)
    · exact .inr (.inr ⟨a, b, hn⟩)
theorem nrP_joinF {n o : Int} (hno : n ≠ o) : ∀ {T : List Int} {γ : Gr} {m x : Int}, (∀ t ∈ T, t ∈ nodes γ) → n ∈ nodes γ → n ∉ T →
    (nrP (joinF n o T γ) m x ↔ (nrP γ m x ∧ ¬ (m ∈ T ∧ x = o)) ∨ (m ∈ T ∧ x = n) ∨ (m = n ∧ x ∈ T))
  | [], γ, m, x, _, _, _ => by unfold joinF; simp
  | t :: T, γ, m, x, hT, hn, hnT => by
    have hs : nodes (stepJ n o t γ) = nodes γ := step_map (·.node) (fun zz zz => rfl) n o t γ
    rw [List.mem_cons, not_or] at hnT
    show nrP (joinF n o T (stepJ n o t γ)) m x ↔ _
    rw [nrP_joinF hno (fun z hz => by rw [hs]; exact hT z (List.mem_cons_of_mem _ hz)) (by rw [hs]; exact hn) hnT.2, nrP_step (hT t List.mem_cons_self) hn]
    simp only [List.mem_cons]
    constructor
    · rintro (⟨⟨a, b⟩ | ⟨a, b⟩ | ⟨a, b⟩, c⟩ | ⟨a, b⟩ | ⟨a, b⟩)
      · exact .inl ⟨a, fun ⟨z, w⟩ => z.elim (fun z => b ⟨z, w⟩) fun z => c ⟨z, w⟩⟩
      · exact .inr (.inl ⟨.inl a, b⟩)
      · exact .inr (.inr ⟨a, .inl b⟩)
      · exact .inr (.inl ⟨.inr a, b⟩)
      · exact .inr (.inr ⟨a, .inr b⟩)
    · rintro (⟨a, b⟩ | ⟨a | a, b⟩ | ⟨a, b | b⟩)
      · exact .inl ⟨.inl ⟨a, fun z => b ⟨.inl z.1, z.2⟩⟩, fun z => b ⟨.inr z.1, z.2⟩⟩
      · exact .inl ⟨.inr (.inl ⟨a, b⟩), fun z => hno (b.symm.trans z.2)⟩
      · exact .inr (.inl ⟨a, b⟩)
      · exact .inl ⟨.inr (.inr ⟨a, b⟩), fun z => hnT.2 (a ▸ z.1)⟩
      · exact .inr (.inr ⟨a, b⟩)
theorem nrP_joinG {e1 e2 : GE} {γ : Gr} {m x : Int} : nrP (joinG e1 e2 γ) m x ↔ m ≠ e2.node ∧ nrP (joinF e1.node e2.node e2.near γ) m x := by
  unfold joinG remN upM nrP
  constructor
  · intro zq
    (revert zq; refine xe1 fun e zq1 => ?_; revert zq1; refine ae3 fun he h1 h2 => ?_)
    (refine ae2 (fun he hq => ?_) (List.mem_filter.mp he))
    (refine xe1 (fun e0 zq1 => ?_) (List.mem_map.mp he); revert zq1; refine ae2 fun h0 zq2 => ?_; subst zq2)
    have q1 : (if e0.node = e1.node then { e0 with mem := e0.mem ++ e2.mem } else e0).node = e0.node := by split <;> rfl
    have q2 : (if e0.node = e1.node then { e0 with mem := e0.mem ++ e2.mem } else e0).near = e0.near := by split <;> rfl
    rw [q1] at h1 hq
    rw [q2] at h2
    exact ⟨fun z => by rw [h1, z] at hq; simp at hq, e0, h0, h1, h2⟩
  · intro zq
    (revert zq; refine ae2 fun hn zq1 => ?_; revert zq1; refine xe1 fun e0 zq2 => ?_; revert zq2; refine ae3 fun h0 h1 h2 => ?_)
    refine ⟨_, List.mem_filter.mpr ⟨List.mem_map.mpr ⟨e0, h0, rfl⟩, ?_⟩, ?_, ?_⟩
    · have q1 : (if e0.node = e1.node then { e0 with mem := e0.mem ++ e2.mem } else e0).node = e0.node := by split <;> rfl
      rw [q1, h1]; simpa using hn
    · split <;> exact h1
    · split <;> exact h2
theorem sh_joinG {e1 e2 : GE} {γ : Gr} : sh (joinG e1 e2 γ) = ((sh γ).map fun p => if p.1 = e1.node then (p.1, p.2 ++ e2.mem) else p).filter fun p => !(p.1 == e2.node) := by
  have : sh γ = sh (joinF e1.node e2.node e2.near γ) := (joinF_map (fun e => (e.node, e.mem)) (fun zz zz => rfl) _ _ _ _).symm
  rw [this]
  unfold joinG remN upM sh
  rw [List.map_map, List.filter_map, List.filter_map, List.map_map]
  have q : ∀ e : GE, (if e.node = e1.node then { e with mem := e.mem ++ e2.mem } else e).node = e.node := fun e => by split <;> rfl
  have q3 : ∀ e : GE, (if e.node = e1.node then (e.node, e.mem ++ e2.mem) else (e.node, e.mem)).1 = e.node := fun e => by split <;> rfl
  have f1 : ((fun e : GE => !(e.node == e2.node)) ∘ fun e => if e.node = e1.node then { e with mem := e.mem ++ e2.mem } else e) = fun e : GE => !(e.node == e2.node) := funext fun e => by
    show (!(_ == _)) = _
    rw [q]
  have f2 : ((fun p : Int × List Int => !(p.1 == e2.node)) ∘ ((fun p : Int × List Int => if p.1 = e1.node then (p.1, p.2 ++ e2.mem) else p) ∘ fun e : GE => (e.node, e.mem))) = fun e : GE => !(e.node == e2.node) := funext fun e => by
    show (!((if e.node = e1.node then (e.node, e.mem ++ e2.mem) else (e.node, e.mem)).1 == _)) = _
    rw [q3]
  rw [f1, f2]
  apply List.map_congr_left
  intro e _
  show ((if e.node = e1.node then { e with mem := e.mem ++ e2.mem } else e).node, (if e.node = e1.node then { e with mem := e.mem ++ e2.mem } else e).mem) = (if e.node = e1.node then (e.node, e.mem ++ e2.mem) else (e.node, e.mem))
  split <;> rfl
/- the two groups of a join, and the rest -/
theorem sh_split {γ : Gr} {e1 e2 : GE} (nd : (nodes γ).Nodup) (h1 : e1 ∈ γ) (h2 : e2 ∈ γ) (hne : e1.node ≠ e2.node) :
    ∃ ρ : Sh, (sh γ).Perm ((e1.node, e1.mem) :: (e2.node, e2.mem) :: ρ) ∧ (sh (joinG e1 e2 γ)).Perm ((e1.node, e1.mem ++ e2.mem) :: ρ) := by
  have m1 : (e1.node, e1.mem) ∈ sh γ := List.mem_map_of_mem (f := fun e : GE => (e.node, e.mem)) h1
  have m2 : (e2.node, e2.mem) ∈ sh γ := List.mem_map_of_mem (f := fun e : GE => (e.node, e.mem)) h2
  have p1 := List.perm_cons_erase m1
  have m2' : (e2.node, e2.mem) ∈ (sh γ).erase (e1.node, e1.mem) := (List.mem_erase_of_ne fun z => hne (congrArg Prod.fst z).symm).mpr m2
  have p := p1.trans ((List.perm_cons_erase m2').cons _)
  refine ⟨_, p, ?_⟩
  rw [sh_joinG]
  refine ((p.map _).filter _).trans ?_
  generalize ((sh γ).erase (e1.node, e1.mem)).erase (e2.node, e2.mem) = ρ at p
  have ndp : (((e1.node, e1.mem) :: (e2.node, e2.mem) :: ρ).map (·.1)).Nodup := (p.map _).nodup_iff.mp (by unfold sh; rw [List.map_map]; exact nd)
  simp only [List.map_cons, List.nodup_cons, List.mem_cons, not_or] at ndp
  have r1 : ρ.map (fun p => if p.1 = e1.node then (p.1, p.2 ++ e2.mem) else p) = ρ := by
    rw [List.map_congr_left (g := id) fun q hq => if_neg fun (z : q.1 = e1.node) => ndp.1.2 (z ▸ List.mem_map_of_mem hq), List.map_id]
  have r2 : ρ.filter (fun p => !(p.1 == e2.node)) = ρ := by
    rw [List.filter_eq_self]
    intro q hq
    simpa using fun z : q.1 = e2.node => ndp.2.1 (z ▸ List.mem_map_of_mem hq)
  rw [List.map_cons, List.map_cons, r1, if_pos rfl, if_neg (Ne.symm hne), List.filter_cons_of_pos (by simpa using hne), List.filter_cons_of_neg (by simp), r2]
theorem mem_sh {γ : Gr} {e : GE} (h : e ∈ γ) : (e.node, e.mem) ∈ sh γ := List.mem_map_of_mem (f := fun e : GE => (e.node, e.mem)) h
theorem nrP_at {γ : Gr} (nd : (nodes γ).Nodup) {e : GE} (h : e ∈ γ) {x : Int} : nrP γ e.node x ↔ x ∈ e.near :=
  ⟨fun ⟨_, he, h1, h2⟩ => (nodup_map_inj nd he h h1) ▸ h2, fun q => ⟨e, h, rfl, q⟩⟩

theorem inv_join {k : Nat} {Λ : Life} {C : Int → Int → Prop} {γ : Gr} {e1 e2 : GE} (I : Inv Λ C γ) (lo : LifeOk k Λ) (h1 : e1 ∈ γ) (h2 : e2 ∈ γ) (hne : e1.node ≠ e2.node) (hnn : e2.node ∉ e1.near)
    {a b : Int} (hab : C a b ∨ C b a) (ha : a ∈ e1.mem) (hb : b ∈ e2.mem) : Inv Λ C (joinG e1 e2 γ) := by
  have nd : (nodes γ).Nodup := by have := I.s.nodes; unfold sh at this; rw [List.map_map] at this; exact this
  (refine xe1 (fun ρ zq1 => ?_) (sh_split nd h1 h2 hne); revert zq1; refine ae2 fun p1 p2 => ?_)
  have S := I.s.perm p1
  have hc : clash Λ e1.mem e2.mem = false := by
    cases q : clash Λ e1.mem e2.mem with
    | false => rfl
    | true => exact absurd ((nrP_at nd h1).mp ((I.near _ _).mpr ⟨_, mem_sh h1, _, mem_sh h2, rfl, rfl, Ne.symm hne, q⟩)) hnn
  have SJ := S.join lo hc hab ha hb
  refine ⟨SJ.perm p2.symm, fun m x => ?_⟩
  have T : ∀ t, t ∈ e2.near ↔ ∃ r ∈ sh γ, r.1 = t ∧ t ≠ e2.node ∧ clash Λ e2.mem r.2 = true := fun t => by
    rw [← nrP_at nd h2, I.near]
    constructor
    · intro zq
      (revert zq; refine xe1 fun p zq1 => ?_; revert zq1; refine ae2 fun hp zq2 => ?_; revert zq2; refine xe1 fun r zq3 => ?_; revert zq3; refine ae5 fun hr q1 q2 q3 q4 => ?_)
      have : p = (e2.node, e2.mem) := nodup_map_inj I.s.nodes hp (mem_sh h2) q1
      subst this
      exact ⟨r, hr, q2, q3, q4⟩
    · intro zq
      (revert zq; refine xe1 fun r zq1 => ?_; revert zq1; refine ae4 fun hr q2 q3 q4 => ?_)
      exact ⟨_, mem_sh h2, r, hr, rfl, q2, q3, q4⟩
  have hT1 : e1.node ∉ e2.near := fun z => by
    (refine xe1 (fun r zq1 => ?_) ((T _).mp z); revert zq1; refine ae4 fun hr q1 zz q3 => ?_)
    have : r = (e1.node, e1.mem) := nodup_map_inj I.s.nodes hr (mem_sh h1) q1
    subst this
    rw [clash_comm lo (I.s.sub (mem_sh h2)) (I.s.sub (mem_sh h1)) q3] at hc
    cases hc
  have hTn : ∀ t ∈ e2.near, t ∈ nodes γ := fun t ht => by
    (refine xe1 (fun r zq1 => ?_) ((T t).mp ht); revert zq1; refine ae3 fun hr q1 zz => ?_)
    (refine xe1 (fun e zq1 => ?_) (List.mem_map.mp hr); revert zq1; refine ae2 fun he zq2 => ?_; subst zq2)
    exact q1 ▸ List.mem_map_of_mem he
  have hn1 : e1.node ∈ nodes γ := List.mem_map_of_mem h1
  have ndS := S.nodes
  simp only [List.map_cons, List.nodup_cons, List.mem_cons, not_or] at ndS
  have ρ1 : ∀ r ∈ ρ, r.1 ≠ e1.node ∧ r.1 ≠ e2.node := fun r hr => ⟨fun z => ndS.1.2 (z ▸ List.mem_map_of_mem hr), fun z => ndS.2.1 (z ▸ List.mem_map_of_mem hr)⟩
  have old : ∀ r, r ∈ sh γ ↔ r = (e1.node, e1.mem) ∨ r = (e2.node, e2.mem) ∨ r ∈ ρ := fun r => by rw [p1.mem_iff]; simp
  have new : ∀ r, r ∈ sh (joinG e1 e2 γ) ↔ r = (e1.node, e1.mem ++ e2.mem) ∨ r ∈ ρ := fun r => by rw [p2.mem_iff]; simp
  have keysOf : ∀ r ∈ sh γ, ∀ v ∈ r.2, v ∈ keys Λ := fun r hr => I.s.sub hr
  rw [nrP_joinG, nrP_joinF hne hTn hn1 hT1]
  constructor
  · rintro ⟨hm, ⟨z, z2⟩ | ⟨z, rfl⟩ | ⟨rfl, z⟩⟩
    · (refine xe1 (fun p zq1 => ?_) ((I.near m x).mp z); revert zq1; refine ae2 fun hp zq2 => ?_; revert zq2; refine xe1 fun r zq3 => ?_; revert zq3; refine ae5 fun hr q1 q2 q3 q4 => ?_)
      rcases (old p).mp hp with rfl | rfl | hp'
      · rcases (old r).mp hr with rfl | rfl | hr'
        · exact absurd (q2.symm.trans q1) q3
        · rw [show clash Λ e1.mem e2.mem = true from q4] at hc; cases hc
        · exact ⟨_, (new _).mpr (.inl rfl), r, (new _).mpr (.inr hr'), q1, q2, q3, clash_left.mpr (.inl q4)⟩
      · exact absurd q1.symm hm
      · rcases (old r).mp hr with rfl | rfl | hr'
        · exact ⟨p, (new _).mpr (.inr hp'), _, (new _).mpr (.inl rfl), q1, q2, q3, clash_right.mpr (.inl q4)⟩
        · refine absurd ⟨(T m).mpr ⟨p, hp, q1, hm, clash_comm lo (keysOf p hp) (keysOf _ (mem_sh h2)) q4⟩, q2.symm⟩ z2
        · exact ⟨p, (new _).mpr (.inr hp'), r, (new _).mpr (.inr hr'), q1, q2, q3, q4⟩
    · (refine xe1 (fun r zq1 => ?_) ((T m).mp z); revert zq1; refine ae4 fun hr q1 q2 q3 => ?_)
      rcases (old r).mp hr with rfl | rfl | hr'
      · exact absurd ((show e1.node = m from q1) ▸ z) hT1
      · exact absurd q1.symm q2
      · exact ⟨r, (new _).mpr (.inr hr'), _, (new _).mpr (.inl rfl), q1, rfl, fun w => (ρ1 r hr').1 (q1.trans w.symm), clash_right.mpr (.inr (clash_comm lo (keysOf _ (mem_sh h2)) (keysOf r hr) q3))⟩
    · (refine xe1 (fun r zq1 => ?_) ((T x).mp z); revert zq1; refine ae4 fun hr q1 q2 q3 => ?_)
      rcases (old r).mp hr with rfl | rfl | hr'
      · exact absurd ((show e1.node = x from q1) ▸ z) hT1
      · exact absurd q1.symm q2
      · exact ⟨_, (new _).mpr (.inl rfl), r, (new _).mpr (.inr hr'), rfl, q1, fun w => (ρ1 r hr').1 (q1.trans w), clash_left.mpr (.inr q3)⟩
  · intro zq
    (revert zq; refine xe1 fun p zq1 => ?_; revert zq1; refine ae2 fun hp zq2 => ?_; revert zq2; refine xe1 fun r zq3 => ?_; revert zq3; refine ae5 fun hr q1 q2 q3 q4 => ?_)
    rcases (new p).mp hp with rfl | hp'
    · refine ⟨q1 ▸ hne, ?_⟩
      rcases (new r).mp hr with rfl | hr'
      · exact absurd (q2.symm.trans q1) q3
      · rcases clash_left.mp q4 with q4 | q4
        · exact .inl ⟨(I.near m x).mpr ⟨_, mem_sh h1, r, (old r).mpr (.inr (.inr hr')), q1, q2, q3, q4⟩, fun w => (ρ1 r hr').2 (q2.trans w.2)⟩
        · exact .inr (.inr ⟨q1.symm, (T x).mpr ⟨r, (old r).mpr (.inr (.inr hr')), q2, fun w => (ρ1 r hr').2 (q2.trans w), q4⟩⟩)
    · refine ⟨fun w => (ρ1 p hp').2 (q1.trans w), ?_⟩
      have hpo := (old p).mpr (.inr (.inr hp'))
      rcases (new r).mp hr with rfl | hr'
      · rcases clash_right.mp q4 with q4 | q4
        · exact .inl ⟨(I.near m x).mpr ⟨p, hpo, _, mem_sh h1, q1, q2, q3, q4⟩, fun w => hne (q2.trans w.2)⟩
        · exact .inr (.inl ⟨(T m).mpr ⟨p, hpo, q1, fun w => (ρ1 p hp').2 (q1.trans w), clash_comm lo (keysOf p hpo) (keysOf _ (mem_sh h2)) q4⟩, q2.symm⟩)
      · exact .inl ⟨(I.near m x).mpr ⟨p, hpo, r, (old r).mpr (.inr (.inr hr')), q1, q2, q3, q4⟩, fun w => (ρ1 r hr').2 (q2.trans w.2)⟩

open PySem PySem.W PyProof.Rows

theorem upM_map {α : Type} (n : Int) (l : List Int) (γ : Gr) (p : GE → α) (h : ∀ e l, p { e with mem := l } = p e) : (upM n l γ).map p = γ.map p := by
  unfold upM
  rw [List.map_map]
  apply List.map_congr_left
  intro e _
  show p (if e.node = n then { e with mem := e.mem ++ l } else e) = p e
  split
  · exact h _ _
  · rfl
theorem GA.ext {h h1 : H} {g d nr mr : Nat} {γ : Gr} (x : GA h g d nr mr γ) {e : GE} (he : e ∈ γ) {l : List Int} (u : Upd e.ma (.list ((e.mem ++ l).map .int)) h h1) : GA h1 g d nr mr (upM e.node l γ) := by
  (refine ae2 (fun zz hma => ?_) (x.each e he))
  have o : ∀ {b : Nat} {p : O}, h[b]? = some p → (∀ xs, p ≠ O.list xs) → h1[b]? = some p := fun q n => u.other q fun z => by
    rw [z, hma] at q; cases q; exact n _ rfl
  have m1 : nearK (upM e.node l γ) = nearK γ := upM_map _ _ _ _ fun zz zz => rfl
  have m2 : memK (upM e.node l γ) = memK γ := upM_map _ _ _ _ fun zz zz => rfl
  have m3 : Mine.nodes (upM e.node l γ) = Mine.nodes γ := upM_map _ _ _ _ fun zz zz => rfl
  refine ⟨o x.inst (fun zz q => nomatch q), o x.ns (fun zz q => nomatch q), ?_, ?_, fun e' he' => ?_, x.nrmr, fun e' he' => ?_, ?_, ?_, by rw [m3]; exact x.nodes, by unfold upM; rw [List.length_map]; exact x.few, fun e' he' => ?_⟩
  · obtain ⟨ep, q⟩ := x.near; exact ⟨ep, by rw [m1]; exact o q (fun zz q => nomatch q)⟩
  · obtain ⟨ep, q⟩ := x.mem; exact ⟨ep, by rw [m2]; exact o q (fun zz q => nomatch q)⟩
  · (refine xe1 (fun e0 zq1 => ?_) (List.mem_map.mp he'); revert zq1; refine ae2 fun h0 zq2 => ?_; subst zq2)
    (refine ae2 (fun zq1 q2 => ?_) (x.each e0 h0); revert zq1; refine xe1 fun ep0 q1 => ?_)
    by_cases q : e0.node = e.node
    · rw [if_pos q]
      have := nodup_map_inj x.nodes h0 he q
      subst this
      exact ⟨⟨ep0, o q1 (fun zz q => nomatch q)⟩, u.1⟩
    · rw [if_neg q]
      exact ⟨⟨ep0, o q1 (fun zz q => nomatch q)⟩, u.other q2 fun z => q (congrArg GE.node (nodup_map_inj x.mas h0 he z))⟩
  · (refine xe1 (fun e0 zq1 => ?_) (List.mem_map.mp he'); revert zq1; refine ae2 fun h0 zq2 => ?_; subst zq2)
    have := x.off e0 h0
    split <;> exact this
  · rw [upM_map _ _ _ _ fun zz zz => rfl]; exact x.nas
  · rw [upM_map _ _ _ _ fun zz zz => rfl]; exact x.mas
  · (refine xe1 (fun e0 zq1 => ?_) (List.mem_map.mp he'); revert zq1; refine ae2 fun h0 zq2 => ?_; subst zq2)
    have := x.sub e0 h0
    rw [m3]
    split <;> exact this
theorem GN.ext {B : Nat → Option O} {nr mr : Nat} {γ : Gr} (x : GN B nr mr γ) (n : Int) (l : List Int) : GN B nr mr (upM n l γ) := ⟨x.near, x.mem, fun e he => by
  (refine xe1 (fun e0 zq1 => ?_) (List.mem_map.mp he); revert zq1; refine ae2 fun h0 zq2 => ?_; subst zq2)
  have := x.each e0 h0
  split <;> exact this⟩
theorem rem_del (f : GE → V) (o : Int) (γ : Gr) : delD (γ.map fun e => (e.node, f e)) o = (remN o γ).map fun e => (e.node, f e) := by
  unfold delD remN
  rw [List.filter_map]; rfl
theorem GA.rem {h h1 h2 : H} {g d nr mr : Nat} {γ : Gr} {o : Int} {e1 e2 : Nat} (x : GA h g d nr mr γ) (u1 : Upd nr (.dict (delD (nearK γ) o) e1) h h1) (u2 : Upd mr (.dict (delD (memK γ) o) e2) h1 h2) (hs : ∀ e ∈ γ, e.node ≠ o → o ∉ e.near) : GA h2 g d nr mr (remN o γ) := by
  obtain ⟨ep1, n1⟩ := x.near
  obtain ⟨ep2, m1⟩ := x.mem
  have sb : ∀ e ∈ remN o γ, e ∈ γ ∧ e.node ≠ o := fun e he => by
    (refine ae2 (fun a b => ?_) (List.mem_filter.mp he))
    exact ⟨a, by simpa using b⟩
  have keep : ∀ {b : Nat} {p : O}, h[b]? = some p → b ≠ nr → b ≠ mr → h2[b]? = some p := fun q a b => u2.other (u1.other q a) b
  have sl : (remN o γ).Sublist γ := List.filter_sublist
  refine ⟨keep x.inst (fun z => ?_) (fun z => ?_), keep x.ns (fun z => ?_) (fun z => ?_), ⟨e1, ?_⟩, ⟨e2, ?_⟩, fun e he => ?_, x.nrmr, fun e he => x.off e (sb e he).1, x.nas.sublist (sl.map _), x.mas.sublist (sl.map _), x.nodes.sublist (sl.map _), Nat.le_trans sl.length_le x.few, fun e he => ⟨(x.sub e (sb e he).1).1, fun k hk => ?_⟩⟩
  · have := x.inst; rw [z, n1] at this; cases this
  · have := x.inst; rw [z, m1] at this; cases this
  · have := x.ns; rw [z, n1] at this; cases this
  · have := x.ns; rw [z, m1] at this; cases this
  · rw [u2.other u1.1 x.nrmr]; unfold nearK; rw [rem_del fun e => V.ref e.na]
  · rw [u2.1]; unfold memK; rw [rem_del fun e => V.ref e.ma]
  · (refine ae2 (fun he zz => ?_) (sb e he))
    (refine ae2 (fun zq1 a2 => ?_) (x.each e he); revert zq1; refine xe1 fun ep a1 => ?_)
    have off := x.off e he
    exact ⟨⟨ep, keep a1 off.1 off.2⟩, keep a2 (fun z => by rw [z, n1] at a2; cases a2) (fun z => by rw [z, m1] at a2; cases a2)⟩
  · (refine ae2 (fun he hn => ?_) (sb e he))
    (refine xe1 (fun e' zq1 => ?_) (List.mem_map.mp ((x.sub e he).2 k hk)); revert zq1; refine ae2 fun he' zq2 => ?_; subst zq2)
    refine List.mem_map_of_mem (List.mem_filter.mpr ⟨he', ?_⟩)
    simpa using fun (z : e'.node = o) => hs e he hn (z ▸ hk)

section
variable {h : H} {B : Nat → Option O} {k : Nat} {g d nr mr : Nat} {γ : Gr} {Q : V → H → Prop}
theorem w_join {e1 e2 : GE} (K : KeepB B h) (N : GN B nr mr γ) (G : GA h g d nr mr γ) (h1 : e1 ∈ γ) (h2 : e2 ∈ γ) (hne : e1.node ≠ e2.node) (hT1 : e1.node ∉ e2.near) (hT2 : e2.node ∉ e2.near)
    (sym : ∀ e ∈ γ, e2.node ∈ e.near ↔ e.node ∈ e2.near) (ml : ∀ e ∈ γ, e.mem.length ≤ 100)
    (q : ∀ h', KeepB B h' → GN B nr mr (joinG e1 e2 γ) → GA h' g d nr mr (joinG e1 e2 γ) → Q .none h') : W (callA pw (k + 1) (Str.ofString "Graph.join_nodes") [.ref g, .int e1.node, .int e2.node]) h Q := by
  refine call_W (f := "Graph.join_nodes") (ps := [Str.ofString "self", Str.ofString "node", Str.ofString "other"]) (by kernel_rfl) (by kernel_rfl) rfl (by kernel_rfl) rfl ?_
  (refine ae2 (fun zq1 zz => ?_) (G.each e2 h2); revert zq1; refine xe1 fun ep2 a2 => ?_)
  have hTn := (G.sub e2 h2).2
  have hn1 : e1.node ∈ nodes γ := List.mem_map_of_mem h1
  refine s_ForDict (by kernel_rfl) ?_
  repeat wtm_at "mine st"
  refine p_attr_near G.inst G.ns ?_
  repeat wtm_at "mine st"
  refine p_near G h2 ?_
  refine ⟨_, _, _, rfl, a2, fun ys m h3 => ∃ rest γ', ys = rest.map V.int ∧ rest.Nodup ∧ (∀ x ∈ rest, x ∈ e2.near) ∧ joinF e1.node e2.node rest γ' = joinF e1.node e2.node e2.near γ ∧ γ'.map (fun e => (e.node, e.na)) = γ.map (fun e => (e.node, e.na)) ∧ (∀ x ∈ rest, nrP γ' x e2.node) ∧
      KeepB B h3 ∧ GN B nr mr γ' ∧ GA h3 g d nr mr γ' ∧ h3[e2.na]? = some (.dict (nsK e2.near) ep2) ∧ Hs m "self" (.ref g) ∧ Hs m "node" (.int e1.node) ∧ Hs m "other" (.int e2.node),
    ⟨e2.near, γ, keysV_ns _, (G.sub e2 h2).1, fun zz z => z, rfl, rfl, fun x hx => ?_, K, N, G, a2, by wtm_at "mine nm", by wtm_at "mine nm", by wtm_at "mine nm"⟩, ?_, ?_⟩
  · (refine xe1 (fun e zq1 => ?_) (at_node (hTn x hx)); revert zq1; refine ae2 fun he zq2 => ?_; subst zq2)
    exact ⟨e, he, rfl, (sym e he).mpr hx⟩
  · refine fun y ys m h3 hh => ex2 hh fun rest γ' hh => and13 hh fun e nd hr hj hmap hnr K N G b2 n1 n2 n3 => ?_
    cases rest with
    | nil => cases e
    | cons t rest =>
    cases e
    rw [List.nodup_cons] at nd
    have hn : nodes γ' = nodes γ := by have := congrArg (List.map (·.1)) hmap; rw [List.map_map, List.map_map] at this; exact this
    have ht := hr t List.mem_cons_self
    have e2' : ∃ e ∈ γ', e.node = e2.node ∧ e.na = e2.na := by
      have : (e2.node, e2.na) ∈ γ'.map fun e => (e.node, e.na) := by rw [hmap]; exact List.mem_map_of_mem (f := fun e : GE => (e.node, e.na)) h2
      (refine xe1 (fun e zq1 => ?_) (List.mem_map.mp this); revert zq1; refine ae2 fun he q => ?_)
      exact ⟨e, he, congrArg Prod.fst q, congrArg Prod.snd q⟩
    (revert e2'; refine xe1 fun f2 zq1 => ?_; revert zq1; refine ae3 fun hf2 f2n f2a => ?_)
    (refine xe1 (fun et zq1 => ?_) (hnr t List.mem_cons_self); revert zq1; refine ae3 fun het etn etx => ?_)
    have tne : t ≠ e2.node := fun z => hT2 (z ▸ ht)
    have na_ne : ∀ {γ1 : Gr} {e : GE}, γ1.map (fun e => (e.node, e.na)) = γ.map (fun e => (e.node, e.na)) → e ∈ γ1 → e.node ≠ e2.node → e2.na ≠ e.na := fun {γ1 e} hm he hne z => by
      have he' : (e.node, e.na) ∈ γ.map fun e => (e.node, e.na) := by rw [← hm]; exact List.mem_map_of_mem (f := fun e : GE => (e.node, e.na)) he
      (refine xe1 (fun e0 zq1 => ?_) (List.mem_map.mp he'); revert zq1; refine ae2 fun h00 q => ?_)
      have g0 : (γ.map (·.na)).Nodup := by
        have := G.nas
        have q2 := congrArg (List.map (·.2)) hmap
        rw [List.map_map, List.map_map] at q2
        have q2 : γ'.map (·.na) = γ.map (·.na) := q2
        rw [← q2]; exact this
      have := nodup_map_inj g0 h00 h2 ((congrArg Prod.snd q).trans z.symm)
      exact hne ((congrArg Prod.fst q).symm.trans (congrArg GE.node this))
    have mp : ∀ (n : Int) (f : List Int → List Int) (γ : Gr), (upN n f γ).map (fun e => (e.node, e.na)) = γ.map (fun e => (e.node, e.na)) := fun n f γ => upN_map _ _ _ _ fun zz zz => rfl
    repeat wtm_at "mine st"
    refine p_attr_near G.inst G.ns ?_
    repeat wtm_at "mine st"
    refine p_nearE G het etn ?_
    repeat wtm_at "mine st"
    refine p_ndel K N G het etx fun h4 o4 K4 N4 G4 => ?_
    have b4 := o4 _ _ b2 (na_ne hmap het (etn ▸ tne))
    have hm4 := (mp et.node (delK · e2.node) γ').trans hmap
    have hn4 := (upN_nodes et.node (delK · e2.node) γ').trans hn
    rw [etn] at N4 G4 hm4 hn4
    (refine xe1 (fun eu zq1 => ?_) (at_node (hn4 ▸ hTn t ht)); revert zq1; refine ae2 fun heu eun => ?_)
    repeat wtm_at "mine st"
    refine p_attr_near G4.inst G4.ns ?_
    repeat wtm_at "mine st"
    refine p_nearE G4 heu eun ?_
    repeat wtm_at "mine st"
    refine p_nput K4 N4 G4 heu (hn4 ▸ hn1) fun h5 o5 K5 N5 G5 => ?_
    have b5 := o5 _ _ b4 (na_ne hm4 heu (eun ▸ tne))
    have hm5 := (mp eu.node (putK · e1.node) _).trans hm4
    have hn5 := (upN_nodes eu.node (putK · e1.node) _).trans hn4
    rw [eun] at N5 G5 hm5 hn5
    (refine xe1 (fun ev zq1 => ?_) (at_node (hn5 ▸ hn1)); revert zq1; refine ae2 fun hev evn => ?_)
    repeat wtm_at "mine st"
    refine p_attr_near G5.inst G5.ns ?_
    repeat wtm_at "mine st"
    refine p_nearE G5 hev evn ?_
    repeat wtm_at "mine st"
    refine p_nput K5 N5 G5 hev (hn5 ▸ hTn t ht) fun h6 o6 K6 N6 G6 => ?_
    have b6 := o6 _ _ b5 (na_ne hm5 hev (evn ▸ hne))
    have hm6 := (mp ev.node (putK · t) _).trans hm5
    rw [evn] at N6 G6 hm6
    repeat wtm_at "mine st"
    refine ⟨b6, rest, stepJ e1.node e2.node t γ', rfl, nd.2, fun x hx => hr x (List.mem_cons_of_mem _ hx), hj, hm6, fun x hx => ?_, K6, N6, G6, b6, by wtm_at "mine nm", by wtm_at "mine nm", by wtm_at "mine nm"⟩
    refine (nrP_step (hn ▸ hTn t ht) (hn ▸ hn1)).mpr (.inl ⟨hnr x (List.mem_cons_of_mem _ hx), fun z => nd.1 (z.1 ▸ hx)⟩)
  · refine fun m h3 hh => ex2 hh fun rest γ' hh => and13 hh fun e nd hr hj hmap hnr K N G b2 n1 n2 n3 => ?_
    cases rest with
    | cons _ _ => cases e
    | nil =>
    have hj : γ' = joinF e1.node e2.node e2.near γ := hj
    have hsh : ∀ e ∈ γ, ∃ e' ∈ γ', e'.node = e.node ∧ e'.mem = e.mem := fun e he => by
      have : (e.node, e.mem) ∈ γ'.map fun e => (e.node, e.mem) := by rw [hj, joinF_map (fun e => (e.node, e.mem)) fun zz zz => rfl]; exact List.mem_map_of_mem (f := fun e : GE => (e.node, e.mem)) he
      (refine xe1 (fun e' zq1 => ?_) (List.mem_map.mp this); revert zq1; refine ae2 fun he' q => ?_)
      exact ⟨e', he', congrArg Prod.fst q, congrArg Prod.snd q⟩
    (refine xe1 (fun f1 zq1 => ?_) (hsh e1 h1); revert zq1; refine ae3 fun hf1 f1n f1m => ?_)
    (refine xe1 (fun f2 zq1 => ?_) (hsh e2 h2); revert zq1; refine ae3 fun hf2 f2n f2m => ?_)
    have lm : ∀ e ∈ γ, (e.mem.map V.int).length < 1000 := fun e he => by rw [List.length_map]; have := ml e he; omega
    repeat wtm_at "mine st"
    refine p_attr_mem G.inst G.ns ?_
    repeat wtm_at "mine st"
    refine p_memsE G hf1 f1n ?_
    refine m_list (G.each f1 hf1).2 ?_
    repeat wtm_at "mine st"
    refine p_attr_mem G.inst G.ns ?_
    repeat wtm_at "mine st"
    refine p_memsE G hf2 f2n ?_
    repeat wtm_at "mine st"
    refine p_extend (G.each f1 hf1).2 (G.each f2 hf2).2 (lim_lt (by rw [f1m]; exact lm e1 h1)) ⟨fun z => hne (by rw [← f1n, ← f2n, nodup_map_inj G.mas hf1 hf2 z]), lim_lt (by rw [f2m]; exact lm e2 h2)⟩ fun h4 u4 => ?_
    rw [← List.map_append] at u4
    have G4 := G.ext hf1 u4
    have N4 := N.ext f1.node f2.mem
    have K4 := K.upd u4 (N.each f1 hf1).2
    refine ⟨rfl, ?_⟩
    obtain ⟨ep, n4⟩ := G4.near
    obtain ⟨ep', m4⟩ := G4.mem
    have hn4 : nodes (upM f1.node f2.mem γ') = nodes γ' := upM_map _ _ _ _ fun zz zz => rfl
    have hin : f2.node ∈ nodes (upM f1.node f2.mem γ') := by rw [hn4]; exact List.mem_map_of_mem hf2
    have fl : (upM f1.node f2.mem γ').length ≤ 1000 := Nat.le_trans G4.few (by decide)
    repeat wtm_at "mine st"
    refine p_attr_near G4.inst G4.ns ?_
    repeat wtm_at "mine st"
    refine p_del n4 ⟨by unfold nearK; rw [List.map_map]; rw [f2n] at hin; exact hin, lim_of (by unfold nearK; rw [List.length_map]; exact fl)⟩ fun h5 u5 => ?_
    have ins : h5[g]? = some (.inst d) := u5.other G4.inst fun z => by have := G4.inst; rw [z, n4] at this; cases this
    have nss := u5.other G4.ns fun z => by have := G4.ns; rw [z, n4] at this; cases this
    have m5 := u5.other m4 (Ne.symm G4.nrmr)
    repeat wtm_at "mine st"
    refine p_attr_mem ins nss ?_
    repeat wtm_at "mine st"
    refine p_del m5 ⟨by unfold memK; rw [List.map_map]; rw [f2n] at hin; exact hin, lim_of (by unfold memK; rw [List.length_map]; exact fl)⟩ fun h6 u6 => ?_
    have sep : ∀ e ∈ upM f1.node f2.mem γ', e.node ≠ e2.node → e2.node ∉ e.near := fun e he hx z => by
      (refine xe1 (fun e0 zq1 => ?_) (List.mem_map.mp he); revert zq1; refine ae2 fun h00 zq2 => ?_; subst zq2)
      have q1 : (if e0.node = f1.node then { e0 with mem := e0.mem ++ f2.mem } else e0).near = e0.near := by split <;> rfl
      rw [q1] at z
      have zz : nrP (joinF e1.node e2.node e2.near γ) e0.node e2.node := ⟨e0, hj ▸ h00, rfl, z⟩
      rcases (nrP_joinF hne hTn hn1 hT1).mp zz with ⟨⟨e', he', q2, q3⟩, w⟩ | ⟨_, w⟩ | ⟨_, w⟩
      · exact w ⟨q2 ▸ (sym e' he').mp q3, rfl⟩
      · exact hne w.symm
      · exact hT2 w
    have GG := G4.rem u5 u6 sep
    have NN : GN B nr mr (remN e2.node (upM f1.node f2.mem γ')) := ⟨N4.near, N4.mem, fun e he => N4.each e (List.mem_filter.mp he).1⟩
    have eq : remN e2.node (upM f1.node f2.mem γ') = joinG e1 e2 γ := by unfold joinG; rw [f1n, f2m, hj]
    rw [eq] at GG NN
    repeat wtm_at "mine st"
    exact q h6 ((K4.upd u5 N4.near).upd u6 N4.mem) NN GG
end

open PySem PySem.W PyProof.Rows

theorem sortI_perm (a : List Int) : (sortI a).Perm a := List.mergeSort_perm ..
theorem sortI_one (v : Int) : sortI [v] = [v] := by unfold sortI; simp
theorem sortI_pair (a : List Int) : (sortI a).Pairwise (· ≤ ·) := by
  have := List.pairwise_mergeSort (le := fun a b : Int => decide (a ≤ b)) (fun a b c h1 h2 => by simp only [decide_eq_true_eq] at *; omega) (fun a b => by simp only [Bool.or_eq_true, decide_eq_true_eq]; omega) a
  exact this.imp fun h => of_decide_eq_true h
theorem sortI_congr {a b : List Int} (p : a.Perm b) : sortI a = sortI b := sortI_eq ((sortI_perm a).trans p) (sortI_pair a)
theorem mem_sortI {a : List Int} {x : Int} : x ∈ sortI a ↔ x ∈ a := (sortI_perm a).mem_iff

noncomputable def part (x : Int) (S : List (List Int)) : List Int := (S.find? fun l => decide (x ∈ l)).getD []
noncomputable def jstep (Λ : Life) (x y : Int) (p : List (List Int) × Nat) : List (List Int) × Nat :=
  if part x p.1 ≠ part y p.1 ∧ clash Λ (part x p.1) (part y p.1) = false then ((p.1.erase (part x p.1)).erase (part y p.1) ++ [sortI (part x p.1 ++ part y p.1)], p.2 + 1) else p
noncomputable def joinedK (R : List Row) (Λ : Life) : Nat → List (List Int) × Nat
  | 0 => ((sortI (keys Λ)).map fun v => [v], 0)
  | i + 1 => match R[i]? with
    | some r => if r.1 = sCopy then jstep Λ r.2.1 r.2.2.1 (joinedK R Λ i) else joinedK R Λ i
    | none => joinedK R Λ i
noncomputable def grp (σ : Sh) : List (List Int) := σ.map fun p => sortI p.2
noncomputable def Cp (R : List Row) (x y : Int) : Prop := ∃ r ∈ R, r.1 = sCopy ∧ r.2.1 = x ∧ r.2.2.1 = y

section
variable {k : Nat} {Λ : Life} {C : Int → Int → Prop} {γ : Gr} {S : List (List Int)}
theorem part_eq (I : InvS Λ C (sh γ)) (lo : LifeOk k Λ) (rel : S.Perm (grp (sh γ))) {p : Int × List Int} (hp : p ∈ sh γ) {x : Int} (hx : x ∈ p.2) : part x S = sortI p.2 := by
  unfold part
  have hin : sortI p.2 ∈ S := rel.mem_iff.mpr (List.mem_map.mpr ⟨p, hp, rfl⟩)
  cases q : S.find? fun l => decide (x ∈ l) with
  | none =>
    rw [List.find?_eq_none] at q
    exact absurd (decide_eq_true (mem_sortI.mpr hx)) (q _ hin)
  | some l =>
    have h1 := List.mem_of_find?_eq_some q
    have h2 : x ∈ l := by have := List.find?_some q; exact of_decide_eq_true this
    (refine xe1 (fun r zq1 => ?_) (List.mem_map.mp (rel.mem_iff.mp h1)); revert zq1; refine ae2 fun hr zq2 => ?_; subst zq2)
    rw [I.uniq lo hp hr hx (mem_sortI.mp h2)]; rfl
theorem rel_join {e1 e2 : GE} (nd : (nodes γ).Nodup) (h1 : e1 ∈ γ) (h2 : e2 ∈ γ) (hne : e1.node ≠ e2.node) (rel : S.Perm (grp (sh γ))) :
    ((S.erase (sortI e1.mem)).erase (sortI e2.mem) ++ [sortI (sortI e1.mem ++ sortI e2.mem)]).Perm (grp (sh (joinG e1 e2 γ))) ∧ ((S.erase (sortI e2.mem)).erase (sortI e1.mem) ++ [sortI (sortI e2.mem ++ sortI e1.mem)]).Perm (grp (sh (joinG e1 e2 γ))) := by
  (refine xe1 (fun ρ zq1 => ?_) (sh_split nd h1 h2 hne); revert zq1; refine ae2 fun p1 p2 => ?_)
  have q1 : S.Perm (sortI e1.mem :: sortI e2.mem :: grp ρ) := rel.trans (p1.map _)
  have q2 : (grp (sh (joinG e1 e2 γ))).Perm (sortI (e1.mem ++ e2.mem) :: grp ρ) := p2.map _
  have a1 : ((S.erase (sortI e1.mem)).erase (sortI e2.mem)).Perm (grp ρ) := by
    have := (q1.erase (sortI e1.mem)).erase (sortI e2.mem)
    rwa [List.erase_cons_head, List.erase_cons_head] at this
  have a2 : ((S.erase (sortI e2.mem)).erase (sortI e1.mem)).Perm (grp ρ) := by
    have := ((q1.trans (List.Perm.swap ..)).erase (sortI e2.mem)).erase (sortI e1.mem)
    rwa [List.erase_cons_head, List.erase_cons_head] at this
  have s1 : sortI (sortI e1.mem ++ sortI e2.mem) = sortI (e1.mem ++ e2.mem) := sortI_congr ((sortI_perm _).append (sortI_perm _))
  have s2 : sortI (sortI e2.mem ++ sortI e1.mem) = sortI (e1.mem ++ e2.mem) := sortI_congr (((sortI_perm _).append (sortI_perm _)).trans List.perm_append_comm)
  rw [s1, s2]
  have fin : ∀ {T : List (List Int)}, T.Perm (grp ρ) → (T ++ [sortI (e1.mem ++ e2.mem)]).Perm (grp (sh (joinG e1 e2 γ))) := fun a => ((a.append_right _).trans List.perm_append_comm).trans q2.symm
  exact ⟨fin a1, fin a2⟩
theorem joinG_len {e1 e2 : GE} (nd : (nodes γ).Nodup) (h1 : e1 ∈ γ) (h2 : e2 ∈ γ) (hne : e1.node ≠ e2.node) : (joinG e1 e2 γ).length + 1 = γ.length := by
  (refine xe1 (fun ρ zq1 => ?_) (sh_split nd h1 h2 hne); revert zq1; refine ae2 fun p1 p2 => ?_)
  have := p1.length_eq
  have := p2.length_eq
  unfold sh at *
  simp only [List.length_map, List.length_cons] at *
  omega

/- where the joining stands behind i rows -/
structure St (R : List Row) (Λ : Life) (cnt : Int) (i : Nat) (γ : Gr) (j : Nat) : Prop where
  inv : Inv Λ (Cp R) γ
  num : j + γ.length = (keys Λ).length
  zero : cnt = 0 → j = 0
  big : (R.length : Int) < cnt → (joinedK R Λ i).1.Perm (grp (sh γ)) ∧ (joinedK R Λ i).2 = j
theorem Inv.nodes (I : Inv Λ C γ) : (Mine.nodes γ).Nodup := by have := I.s.nodes; unfold sh at this; rw [List.map_map] at this; exact this
theorem Inv.at_ (I : Inv Λ C γ) {x : Int} (hx : x ∈ keys Λ) : ∃ e ∈ γ, x ∈ e.mem := by
  (refine xe1 (fun p zq1 => ?_) (List.mem_flatMap.mp (I.s.part.mem_iff.mpr hx)); revert zq1; refine ae2 fun hp h => ?_)
  (refine xe1 (fun e zq1 => ?_) (List.mem_map.mp hp); revert zq1; refine ae2 fun he zq2 => ?_; subst zq2)
  exact ⟨e, he, h⟩
theorem Inv.uniq (I : Inv Λ C γ) (lo : LifeOk k Λ) {e e' : GE} (h : e ∈ γ) (h' : e' ∈ γ) {x : Int} (hx : x ∈ e.mem) (hx' : x ∈ e'.mem) : e' = e :=
  nodup_map_inj I.nodes h' h (congrArg Prod.fst (I.s.uniq lo (mem_sh h') (mem_sh h) hx' hx))
theorem Inv.sym (I : Inv Λ C γ) (lo : LifeOk k Λ) {e e' : GE} (h : e ∈ γ) (h' : e' ∈ γ) (q : e'.node ∈ e.near) : e.node ∈ e'.near := by
  rw [← nrP_at I.nodes h, I.near] at q
  rw [← nrP_at I.nodes h', I.near]
  (revert q; refine xe1 fun p zq1 => ?_; revert zq1; refine ae2 fun hp zq2 => ?_; revert zq2; refine xe1 fun r zq3 => ?_; revert zq3; refine ae5 fun hr q1 q2 q3 q4 => ?_)
  exact ⟨r, hr, p, hp, q2, q1, Ne.symm q3, clash_comm lo (I.s.sub hp) (I.s.sub hr) q4⟩
theorem Inv.irr (I : Inv Λ C γ) {e : GE} (h : e ∈ γ) : e.node ∉ e.near := fun q => by
  rw [← nrP_at I.nodes h, I.near] at q
  (revert q; refine xe1 fun p zq1 => ?_; revert zq1; refine ae2 fun hp zq2 => ?_; revert zq2; refine xe1 fun r zq3 => ?_; revert zq3; refine ae5 fun hr q1 q2 q3 q4 => ?_)
  exact q3 rfl
theorem flat_len : ∀ {σ : Sh} {p : Int × List Int}, p ∈ σ → p.2.length ≤ (σ.flatMap (·.2)).length
  | [], _, h => nomatch h
  | a :: σ, p, h => by
    rw [List.flatMap_cons, List.length_append]
    rcases List.mem_cons.mp h with rfl | h
    · omega
    · have := flat_len h; omega
theorem Inv.mem_len (I : Inv Λ C γ) {e : GE} (h : e ∈ γ) : e.mem.length ≤ (keys Λ).length := by
  have := flat_len (mem_sh h)
  rwa [I.s.part.length_eq] at this
theorem near_clash (I : Inv Λ C γ) {e1 e2 : GE} (h1 : e1 ∈ γ) (h2 : e2 ∈ γ) (hne : e1.node ≠ e2.node) : e2.node ∈ e1.near ↔ clash Λ e1.mem e2.mem = true := by
  rw [← nrP_at I.nodes h1, I.near]
  constructor
  · intro zq
    (revert zq; refine xe1 fun p zq1 => ?_; revert zq1; refine ae2 fun hp zq2 => ?_; revert zq2; refine xe1 fun r zq3 => ?_; revert zq3; refine ae5 fun hr q1 q2 q3 q4 => ?_)
    rw [nodup_map_inj I.s.nodes hp (mem_sh h1) q1, nodup_map_inj I.s.nodes hr (mem_sh h2) q2] at q4
    exact q4
  · exact fun q => ⟨_, mem_sh h1, _, mem_sh h2, rfl, rfl, Ne.symm hne, q⟩
variable {R : List Row} {cnt : Int} {i j : Nat}
theorem joinedK_copy {r : Row} (e : R[i]? = some r) (hc : r.1 = sCopy) : joinedK R Λ (i + 1) = jstep Λ r.2.1 r.2.2.1 (joinedK R Λ i) := by
  show (match R[i]? with | some r => _ | none => _) = _
  rw [e]
  exact if_pos hc
theorem joinedK_same {r : Row} (e : R[i]? = some r) (hc : ¬ r.1 = sCopy) : joinedK R Λ (i + 1) = joinedK R Λ i := by
  show (match R[i]? with | some r => _ | none => _) = _
  rw [e]
  exact if_neg hc
theorem St.skip {r : Row} (x : St R Λ cnt i γ j) (e : R[i]? = some r) (hc : ¬ r.1 = sCopy) : St R Λ cnt (i + 1) γ j := ⟨x.inv, x.num, x.zero, by rw [joinedK_same e hc]; exact x.big⟩
theorem St.no {r : Row} (x : St R Λ cnt i γ j) (lo : LifeOk k Λ) (e : R[i]? = some r) (hc : r.1 = sCopy) {e1 e2 : GE} (h1 : e1 ∈ γ) (h2 : e2 ∈ γ) (hx : r.2.1 ∈ e1.mem) (hy : r.2.2.1 ∈ e2.mem)
    (no : e1.node = e2.node ∨ e2.node ∈ e1.near ∨ ¬ (R.length : Int) < cnt) : St R Λ cnt (i + 1) γ j := by
  refine ⟨x.inv, x.num, x.zero, fun hb => ?_⟩
  (refine ae2 (fun rel hj => ?_) (x.big hb))
  have p1 := part_eq x.inv.s lo rel (mem_sh h1) hx
  have p2 := part_eq x.inv.s lo rel (mem_sh h2) hy
  have : jstep Λ r.2.1 r.2.2.1 (joinedK R Λ i) = joinedK R Λ i := by
    unfold jstep
    rw [p1, p2]
    refine if_neg fun z => ?_
    rcases no with q | q | q
    · exact z.1 (by rw [nodup_map_inj x.inv.nodes h1 h2 q])
    · by_cases hne : e1.node = e2.node
      · exact z.1 (by rw [nodup_map_inj x.inv.nodes h1 h2 hne])
      · have := (near_clash x.inv h1 h2 hne).mp q
        rw [clash_perm (sortI_perm e1.mem) (sortI_perm e2.mem), this] at z
        cases z.2
    · exact q hb
  rw [joinedK_copy e hc, this]
  exact ⟨rel, hj⟩
theorem St.yes {r : Row} (x : St R Λ cnt i γ j) (lo : LifeOk k Λ) (e : R[i]? = some r) (hc : r.1 = sCopy) {e1 e2 : GE} (h1 : e1 ∈ γ) (h2 : e2 ∈ γ) (hx : r.2.1 ∈ e1.mem) (hy : r.2.2.1 ∈ e2.mem)
    (hne : e1.node ≠ e2.node) (hnn : e2.node ∉ e1.near) (h0 : cnt ≠ 0) : St R Λ cnt (i + 1) (joinG e1 e2 γ) (j + 1) ∧ St R Λ cnt (i + 1) (joinG e2 e1 γ) (j + 1) := by
  have hC : Cp R r.2.1 r.2.2.1 := ⟨r, List.mem_of_getElem? e, hc, rfl, rfl⟩
  have hnn2 : e1.node ∉ e2.near := fun z => hnn (x.inv.sym lo h2 h1 z)
  have l1 := joinG_len x.inv.nodes h1 h2 hne
  have l2 := joinG_len x.inv.nodes h2 h1 (Ne.symm hne)
  have hnum := x.num
  have big : (R.length : Int) < cnt → joinedK R Λ (i + 1) = (((joinedK R Λ i).1.erase (sortI e1.mem)).erase (sortI e2.mem) ++ [sortI (sortI e1.mem ++ sortI e2.mem)], (joinedK R Λ i).2 + 1) := fun hb => by
    (refine ae2 (fun rel hj => ?_) (x.big hb))
    rw [joinedK_copy e hc]
    unfold jstep
    rw [part_eq x.inv.s lo rel (mem_sh h1) hx, part_eq x.inv.s lo rel (mem_sh h2) hy]
    refine if_pos ⟨fun z => ?_, ?_⟩
    · have : r.2.1 ∈ e2.mem := mem_sortI.mp (z ▸ mem_sortI.mpr hx)
      exact hne (congrArg GE.node (x.inv.uniq lo h2 h1 this hx))
    · rw [clash_perm (sortI_perm e1.mem) (sortI_perm e2.mem)]
      cases q : clash Λ e1.mem e2.mem with
      | false => rfl
      | true => exact absurd ((near_clash x.inv h1 h2 hne).mpr q) hnn
  refine ⟨⟨inv_join x.inv lo h1 h2 hne hnn (.inl hC) hx hy, by omega, fun z => absurd z h0, fun hb => ?_⟩, inv_join x.inv lo h2 h1 (Ne.symm hne) hnn2 (.inr hC) hy hx, by omega, fun z => absurd z h0, fun hb => ?_⟩
  · (refine ae2 (fun rel hj => ?_) (x.big hb))
    rw [big hb]
    exact ⟨(rel_join x.inv.nodes h1 h2 hne rel).1, by rw [hj]⟩
  · (refine ae2 (fun rel hj => ?_) (x.big hb))
    rw [big hb]
    exact ⟨(rel_join x.inv.nodes h2 h1 (Ne.symm hne) rel).2, by rw [hj]⟩
theorem St.start {γ0 : Gr} (lo : LifeOk k Λ) (b : Bare γ0 (sortI (keys Λ))) : St R Λ cnt 0 (outerI Λ (nodes γ0) (nodes γ0) γ0) 0 := by
  have I := inv_start (C := Cp R) lo b
  (revert b; refine ae2 fun hn hb => ?_)
  refine ⟨I, ?_, fun zz => rfl, fun zz => ⟨?_, rfl⟩⟩
  · have := congrArg List.length (outer_map (Λ := Λ) (names := nodes γ0) (·.node) (fun zz zz => rfl) (nodes γ0) γ0)
    rw [List.length_map, List.length_map] at this
    rw [Nat.zero_add, this]
    have h2 := congrArg List.length hn
    unfold nodes at h2
    rw [List.length_map, (sortI_perm _).length_eq] at h2
    exact h2
  · have : grp (sh (outerI Λ (nodes γ0) (nodes γ0) γ0)) = (sortI (keys Λ)).map fun v => [v] := by
      unfold grp sh
      rw [List.map_map]
      rw [outer_map ((fun p : Int × List Int => sortI p.2) ∘ fun e : GE => (e.node, e.mem)) (fun zz zz => rfl), ← hn]
      unfold nodes
      rw [List.map_map]
      apply List.map_congr_left
      intro e he
      show sortI e.mem = [e.node]
      rw [(hb e he).2]; exact sortI_one _
    rw [this]
    exact List.Perm.refl _
end

theorem keys_up {R : List Row} {i : Nat} {v : Int} (hv : v ∈ keys (lifeK R i)) : ∀ n, i + n ≤ R.length → v ∈ keys (lifeK R (i + n))
  | 0, _ => hv
  | n + 1, hn => by
    have e2 : R[i + n]? = some R[i + n] := List.getElem?_eq_getElem (by omega)
    have := keys_up hv n (by omega)
    show v ∈ keys (lifeK R (i + n + 1))
    rw [lifeK_succ e2, stepL_keys]
    split
    · exact this
    · exact List.mem_append_left _ this
theorem row_keys {R : List Row} (wf : Wf R) {i : Nat} {r : Row} (e : R[i]? = some r) {s : Int} (hs : s ∈ srcs r ∨ (r.1 ≠ sOut ∧ s = r.2.1)) : s ∈ keys (lifeK R R.length) := by
  have ok := wf.row i r e
  have hi : i < R.length := (List.getElem?_eq_some_iff.mp e).1
  have h1 : s ∈ keys (lifeK R (i + 1)) := by
    rw [lifeK_succ e, stepL_keys]
    rcases hs with hs | ⟨hs, rfl⟩
    · split
      · exact ok.src s hs
      · exact List.mem_append_left _ (ok.src s hs)
    · rw [if_neg hs]
      exact List.mem_append_right _ List.mem_cons_self
  have := keys_up h1 (R.length - (i + 1)) (by omega)
  rwa [show i + 1 + (R.length - (i + 1)) = R.length by omega] at this
noncomputable def RowsB (B : Nat → Option O) (vs : List V) (R : List Row) : Prop := vs.length = R.length ∧ ∀ (k : Nat) (r : Row), R[k]? = some r → ∃ a, vs[k]? = some (.ref a) ∧ B a = some (rowO r)
theorem drop_at {α : Type} {xs : List α} {i : Nat} {y : α} {ys : List α} (e : y :: ys = xs.drop i) : xs[i]? = some y ∧ ys = xs.drop (i + 1) := by
  constructor
  · have := congrArg (·[0]?) e; simpa using this.symm
  · have := congrArg List.tail e; simpa using this

section
variable {h : H} {B : Nat → Option O} {k : Nat} {g d nr mr : Nat} {γ : Gr} {Q : V → H → Prop} {R : List Row} {vs : List V} {ra : Nat}
theorem w_coalesce {cnt : Int} (hr : B ra = some (.list vs)) (A : RowsB B vs R) (wf : Wf R) (K : KeepB B h) (N : GN B nr mr γ) (G : GA h g d nr mr γ) (S : St R (lifeK R R.length) cnt 0 γ 0) (hc : 0 ≤ cnt)
    (q : ∀ γ' (j : Nat) h', KeepB B h' → GN B nr mr γ' → GA h' g d nr mr γ' → St R (lifeK R R.length) cnt R.length γ' j → Q (.int j) h') :
    W (callA pw (k + 3) (Str.ofString "coalesce") [.ref g, .ref ra, .int cnt]) h Q := by
  have lo := lifeOk wf R.length
  have hlen : vs.length ≤ 30 := A.1 ▸ wf.len
  generalize hΛ : lifeK R R.length = Λ at S q lo
  have inK : ∀ (i : Nat) (r : Row), R[i]? = some r → ∀ s, s ∈ srcs r ∨ (r.1 ≠ sOut ∧ s = r.2.1) → s ∈ keys Λ := fun i r e s hs => hΛ ▸ row_keys wf e hs
  refine call_W (ps := [Str.ofString "graph", Str.ofString "rows", Str.ofString "count"]) (by kernel_rfl) (by kernel_rfl) rfl (by kernel_rfl) rfl ?_
  repeat wtm_at "mine st"
  refine s_ForList (by kernel_rfl) ?_
  repeat wtm_at "mine st"
  refine forL_in (K _ _ hr) (fun ys m h1 => ∃ i γ, ∃ j : Nat, ys = vs.drop i ∧ i ≤ R.length ∧ KeepB B h1 ∧ GN B nr mr γ ∧ GA h1 g d nr mr γ ∧ St R Λ cnt i γ j ∧ Hs m "graph" (.ref g) ∧ Hs m "count" (.int cnt) ∧ Hs m "joins" (.int j))
    ⟨0, γ, 0, rfl, Nat.zero_le _, K, N, G, S, by wtm_at "mine nm", by wtm_at "mine nm", by wtm_at "mine nm"⟩ ?_ ?_
  · refine fun y ys m h1 hh => ex3 hh fun i γ j hh => and9 hh fun e hi K N G S n1 n2 n3 => ?_
    (refine ae2 (fun hv hys => ?_) (drop_at e))
    have hil : i < R.length := by rw [← A.1]; exact (List.getElem?_eq_some_iff.mp hv).1
    have hri : R[i]? = some R[i] := List.getElem?_eq_getElem hil
    (refine xe1 (fun a zq1 => ?_) (A.2 i _ hri); revert zq1; refine ae2 fun hva har => ?_)
    rw [hv] at hva
    cases hva
    generalize R[i] = r at hri har
    repeat wtm_at "mine st"
    refine p_row0 (K _ _ har) ?_
    repeat wtm_at "mine st"
    refine p_eq (r := decide (r.1 = sCopy)) rfl ?_
    wtm_at "mine st"
    refine ⟨fun t => ?_, fun t => ?_⟩
    rotate_left
    · repeat wtm_at "mine st"
      exact ⟨K _ _ hr, i + 1, γ, j, hys, hil, K, N, G, S.skip hri (of_decide_eq_false t), by wtm_at "mine nm", by wtm_at "mine nm", by wtm_at "mine nm"⟩
    have t := of_decide_eq_true t
    have hx : r.2.1 ∈ keys Λ := inK i r hri _ (.inr ⟨fun z => absurd (t.symm.trans z) (by decide), rfl⟩)
    have hy : r.2.2.1 ∈ keys Λ := inK i r hri _ (.inl (by rw [src_copy t]; exact List.mem_cons_self))
    (refine xe1 (fun e1 zq1 => ?_) (S.inv.at_ hx); revert zq1; refine ae2 fun h1 hx1 => ?_)
    (refine xe1 (fun e2 zq1 => ?_) (S.inv.at_ hy); revert zq1; refine ae2 fun h2 hy2 => ?_)
    repeat wtm_at "mine st"
    refine m_inst (f := Str.ofString "Graph.holder") (by kernel_rfl) G.inst G.ns ?_
    repeat wtm_at "mine st"
    refine p_row1 (K _ _ har) ?_
    repeat wtm_at "mine st"
    refine w_holder G h1 hx1 (fun e' he' z => S.inv.uniq lo h1 he' hx1 z) ?_
    repeat wtm_at "mine st"
    refine m_inst (f := Str.ofString "Graph.holder") (by kernel_rfl) G.inst G.ns ?_
    repeat wtm_at "mine st"
    refine p_row2 (K _ _ har) ?_
    repeat wtm_at "mine st"
    refine w_holder G h2 hy2 (fun e' he' z => S.inv.uniq lo h2 he' hy2 z) ?_
    repeat wtm_at "mine st"
    refine p_ne (r := decide (e1.node = e2.node)) rfl ?_
    wtm_at "mine st"
    refine ⟨fun t2 => ⟨fun z => (Bool.false_ne_true z).elim, fun zz => ?_⟩, fun t2 => ?_⟩
    · repeat wtm_at "mine st"
      exact ⟨K _ _ hr, i + 1, γ, j, hys, hil, K, N, G, S.no lo hri t h1 h2 hx1 hy2 (.inl (of_decide_eq_true (nbf t2))), by wtm_at "mine nm", by wtm_at "mine nm", by wtm_at "mine nm"⟩
    have hne : e1.node ≠ e2.node := of_decide_eq_false (nbt t2)
    (refine ae2 (fun zq1 zz => ?_) (G.each e1 h1); revert zq1; refine xe1 fun ep a1 => ?_)
    repeat wtm_at "mine st"
    refine p_attr_near G.inst G.ns ?_
    repeat wtm_at "mine st"
    refine p_near G h1 ?_
    refine p_nin (in_dict a1) ?_
    rw [nsK_keys]
    repeat wtm_at "mine st"
    refine ⟨fun t3 => ⟨fun z => (Bool.false_ne_true z).elim, fun zz => ?_⟩, fun t3 => ?_⟩
    · repeat wtm_at "mine st"
      exact ⟨K _ _ hr, i + 1, γ, j, hys, hil, K, N, G, S.no lo hri t h1 h2 hx1 hy2 (.inr (.inl (of_decide_eq_true (nbf t3)))), by wtm_at "mine nm", by wtm_at "mine nm", by wtm_at "mine nm"⟩
    have hnn : e2.node ∉ e1.near := of_decide_eq_false (nbt t3)
    repeat wtm_at "mine st"
    refine ⟨fun zz => ?_, fun z => (Bool.false_ne_true z.symm).elim⟩
    repeat wtm_at "mine st"
    refine w_heavy G h1 h2 fun n h2' K2 hn => ?_
    have GG := G.keep K2
    have KK := K.trans K2
    have hnum := S.num
    have hkl : (keys Λ).length ≤ R.length := by rw [keys_len, ← hΛ]; exact lifeK_len R _
    repeat wtm_at "mine st"
    refine ⟨fun t4 => ?_, fun t4 => ?_⟩
    rotate_left
    · repeat wtm_at "mine st"
      exact ⟨KK _ _ hr, i + 1, γ, j, hys, hil, KK, N, GG, S.no lo hri t h1 h2 hx1 hy2 (.inr (.inr (by have := of_decide_eq_false t4; omega))), by wtm_at "mine nm", by wtm_at "mine nm", by wtm_at "mine nm"⟩
    have h00 : cnt ≠ 0 := fun z => by have := of_decide_eq_true t4; omega
    (refine ae2 (fun S1 S2 => ?_) (S.yes lo hri t h1 h2 hx1 hy2 hne hnn h00))
    have ml : ∀ e ∈ γ, e.mem.length ≤ 100 := fun e he => by have := S.inv.mem_len he; have := wf.len; omega
    have sym : ∀ {a b : GE}, a ∈ γ → b ∈ γ → (b.node ∈ a.near ↔ a.node ∈ b.near) := fun ha hb => ⟨S.inv.sym lo ha hb, S.inv.sym lo hb ha⟩
    have hnn2 : e1.node ∉ e2.near := fun z => hnn ((sym h2 h1).mp z)
    have fin : ∀ γ' h5, KeepB B h5 → GN B nr mr γ' → GA h5 g d nr mr γ' → St R Λ cnt (i + 1) γ' (j + 1) → ∀ m' : Mine.L, Hs m' "graph" (.ref g) → Hs m' "count" (.int cnt) → Hs m' "joins" (.int (j + 1 : Nat)) →
        h5[ra]? = some (.list vs) ∧ ∃ i γ, ∃ j : Nat, ys = vs.drop i ∧ i ≤ R.length ∧ KeepB B h5 ∧ GN B nr mr γ ∧ GA h5 g d nr mr γ ∧ St R Λ cnt i γ j ∧ Hs m' "graph" (.ref g) ∧ Hs m' "count" (.int cnt) ∧ Hs m' "joins" (.int j) :=
      fun γ' h5 K5 N5 G5 S5 m' a b c => ⟨K5 _ _ hr, i + 1, γ', j + 1, hys, hil, K5, N5, G5, S5, a, b, c⟩
    repeat wtm_at "mine st"
    refine m_inst (f := Str.ofString "Graph.join_nodes") (by kernel_rfl) GG.inst GG.ns ?_
    repeat wtm_at "mine st"
    refine c_min ?_
    repeat wtm_at "mine st"
    refine c_max ?_
    repeat wtm_at "mine st"
    by_cases hlt : e1.node < e2.node
    · rw [if_neg (by omega), if_pos hlt]
      refine w_join KK N GG h1 h2 hne hnn2 (S.inv.irr h2) (fun e he => sym he h2) ml fun h5 K5 N5 G5 => ⟨rfl, ?_⟩
      refine s_AugAdd (a := j) (by wtm_at "mine nm") ?_
      repeat wtm_at "mine st"
      refine ⟨1, rfl, ?_⟩
      repeat wtm_at "mine st"
      exact fin _ h5 K5 N5 G5 S1 _ (by wtm_at "mine nm") (by wtm_at "mine nm") (by wtm_at "mine nm")
    · have hgt : e2.node < e1.node := by omega
      rw [if_pos hgt, if_neg (by omega)]
      refine w_join KK N GG h2 h1 (Ne.symm hne) hnn (S.inv.irr h1) (fun e he => sym he h1) ml fun h5 K5 N5 G5 => ⟨rfl, ?_⟩
      refine s_AugAdd (a := j) (by wtm_at "mine nm") ?_
      repeat wtm_at "mine st"
      refine ⟨1, rfl, ?_⟩
      repeat wtm_at "mine st"
      exact fin _ h5 K5 N5 G5 S2 _ (by wtm_at "mine nm") (by wtm_at "mine nm") (by wtm_at "mine nm")
  · refine fun m h1 hh => ex3 hh fun i γ j hh => and9 hh fun e hi K N G S n1 n2 n3 => ?_
    have hvl : vs.length ≤ i := List.drop_eq_nil_iff.mp e.symm
    have : i = R.length := by rw [A.1] at hvl; omega
    subst this
    repeat wtm_at "mine st"
    exact q γ j h1 K N G S
end

open PySem PySem.W PyProof.Rows
theorem clr_ne {gs : List Comprehension} {m : L} {y : Str} {v : V} (t : isTarget gs y = false) (e : m y = some v) : clrL gs m y = some v := by
  unfold clrL
  rw [t]; exact e
section
variable {cl : Str → List V → M V} {m : L} {h : H}
theorem cd_none {Q : Bool → H → Prop} (q : Q true h) : W (condsA cl [] m) h Q := ⟨_, _, rfl, q⟩
theorem cd_more {e : Expr} {es : List Expr} {Q : Bool → H → Prop} (w : W (testA cl e m (evalA cl e m)) h fun c h1 => (c = true → W (condsA cl es m) h1 Q) ∧ (c = false → Q false h1)) : W (condsA cl (e :: es) m) h Q :=
  W_bind (x := testA cl e m (evalA cl e m)) (f := fun c => if c = true then condsA cl es m else pure false) (W_mono w fun c h1 ⟨w1, w2⟩ => by cases c with | true => exact w1 rfl | false => exact W_pure (w2 rfl))
theorem g_nil {e : Expr} {Q : List V → H → Prop} (w : W (evalA cl e m) h fun v h1 => Q [v] h1) : W (gensA cl [] m fun m' => evalA cl e m') h Q :=
  W_bind (x := evalA cl e m) (f := fun v => pure [v]) (W_mono w fun zz zz q => W_pure q)
theorem comp_W {ck : M Unit} {body : V → M (List V)} {ok : H → Prop} (hck : ∀ h, ok h → ck h = some ((), h)) (I : List V → List V → H → Prop) :
    ∀ (xs acc : List V) (h : H), I acc xs h → (∀ acc y ys h2, I acc (y :: ys) h2 → W (body y) h2 fun l h3 => ok h3 ∧ I (acc ++ l) ys h3) → W (compA ck body xs) h fun r h' => I (acc ++ r) [] h'
  | [], acc, h, i, _ => W_pure (by rw [List.append_nil]; exact i)
  | y :: ys, acc, h, i, step => W_bind (x := body y) (f := fun a => ck >>= fun zz => compA ck body ys >>= fun b => pure (a ++ b)) (W_mono (step acc y ys h i) fun l h3 ⟨o, i2⟩ =>
      W_bind ⟨(), h3, hck _ o, W_bind (W_mono (comp_W hck I ys (acc ++ l) h3 i2 step) fun r h' z => W_pure (by rw [← List.append_assoc]; exact z))⟩)
noncomputable def Over (o : O) (xs : List V) : Prop := o = .list xs ∨ ∃ kvs ep, o = .dict kvs ep ∧ xs = keysV kvs
/- a clause that runs over an object -/
noncomputable def CompIn (cl : Str → List V → M V) (m : L) (x : Str) (ifs : List Expr) (gs : List Comprehension) (e : Expr) (Q : List V → H → Prop) (src : V) (h1 : H) : Prop :=
  ∃ a o xs, src = .ref a ∧ h1[a]? = some o ∧ Over o xs ∧ ∃ I : List V → List V → H → Prop, I [] xs h1 ∧
      (∀ acc y ys h2, I acc (y :: ys) h2 → W (condsA cl ifs (upd m x y)) h2 fun c h3 =>
        (c = true → W (gensA cl gs (upd m x y) fun m' => evalA cl e m') h3 fun l h4 => h4[a]? = some o ∧ I (acc ++ l) ys h4) ∧ (c = false → h3[a]? = some o ∧ I acc ys h3)) ∧
      ∀ acc h2, I acc [] h2 → Q acc h2
theorem comp_in {cl : Str → List V → M V} {m : L} {x : Str} {ifs : List Expr} {gs : List Comprehension} {e : Expr} {Q : List V → H → Prop} {h1 : H} {a : Nat} {o : O} {xs : List V} (e2 : h1[a]? = some o) (ov : Over o xs) (I : List V → List V → H → Prop) (i0 : I [] xs h1)
    (st : ∀ acc y ys h2, I acc (y :: ys) h2 → W (condsA cl ifs (upd m x y)) h2 fun c h3 =>
        (c = true → W (gensA cl gs (upd m x y) fun m' => evalA cl e m') h3 fun l h4 => h4[a]? = some o ∧ I (acc ++ l) ys h4) ∧ (c = false → h3[a]? = some o ∧ I acc ys h3))
    (fin : ∀ acc h2, I acc [] h2 → Q acc h2) : CompIn cl m x ifs gs e Q (.ref a) h1 := ⟨a, o, xs, rfl, e2, ov, I, i0, st, fin⟩
noncomputable def CompW (cl : Str → List V → M V) (it : Expr) (m0 m : L) (x : Str) (ifs : List Expr) (gs : List Comprehension) (e : Expr) (h : H) (Q : List V → H → Prop) : Prop :=
  W (evalA cl it m0) h fun src h1 => CompIn cl m x ifs gs e Q src h1
theorem compW_run {it e : Expr} {m0 : L} {x : Str} {ifs : List Expr} {gs : List Comprehension} {Q : List V → H → Prop} (w : CompW cl it m0 m x ifs gs e h Q) :
    W (evalA cl it m0 >>= fun src => iterA src >>= fun r => compA r.2 (fun v => do
      let c ← condsA cl ifs (upd m x v)
      if c = true then gensA cl gs (upd m x v) (fun m' => evalA cl e m') else pure []) r.1) h Q := by
  refine W_bind (W_mono w fun src h1 zq => ?_)
  (revert zq; refine xe3 fun a o xs zq1 => ?_; revert zq1; refine ae4 fun e1 e2 ov zq2 => ?_; revert zq2; refine xe1 fun I zq3 => ?_; revert zq3; refine ae3 fun i0 st fin => ?_)
  subst e1
  have body : ∀ acc y ys h2, I acc (y :: ys) h2 → W (do
      let c ← condsA cl ifs (upd m x y)
      if c = true then gensA cl gs (upd m x y) (fun m' => evalA cl e m') else pure [] : M (List V)) h2 fun l h3 => h3[a]? = some o ∧ I (acc ++ l) ys h3 := fun acc y ys h2 i =>
    W_bind (W_mono (st acc y ys h2 i) fun c h3 ⟨w1, w2⟩ => by
      cases c with
      | true => exact w1 rfl
      | false => exact W_pure (by rw [List.append_nil]; exact w2 rfl))
  have run : W (compA (chk a o) (fun v => do
      let c ← condsA cl ifs (upd m x v)
      if c = true then gensA cl gs (upd m x v) (fun m' => evalA cl e m') else pure []) xs) h1 Q := W_mono (comp_W (ok := fun h => h[a]? = some o) (fun h e => chk_ok e) I xs [] h1 i0 body) fun r h' z => fin r h' z
  rcases ov with rfl | ⟨kvs, ep, rfl, rfl⟩
  · exact W_bind (W_bind (x := rd a) (f := _) (p_rd e2 (W_pure run)))
  · exact W_bind (W_bind (x := rd a) (f := _) (p_rd e2 (W_pure run)))
theorem e_Comp {e it : Expr} {x : Str} {p : Pos} {ifs : List Expr} {z : Int} {gs : List Comprehension} {sc : Scope} {pos : Pos} {Q : V → H → Prop}
    (w : CompW cl it m (clrL (⟨.Name x p, it, ifs, z⟩ :: gs) m) x ifs gs e h fun vs h1 => W (newL vs) h1 Q) : W (evalA cl (.ListComp e (⟨.Name x p, it, ifs, z⟩ :: gs) sc pos) m) h Q := by
  have r := compW_run w
  (revert r; refine xe2 fun vs h1 zq1 => ?_; revert zq1; refine ae2 fun e1 zq2 => ?_; revert zq2; refine xe2 fun v h2 zq3 => ?_; revert zq3; refine ae2 fun e2 q => ?_)
  refine ⟨v, h2, ?_, q⟩
  change (evalA cl it m h).bind _ = _ at e1
  show (evalA cl it m h).bind _ = _
  rw [Option.bind_eq_some_iff] at e1 ⊢
  (revert e1; refine xe1 fun zq1 zq2 => ?_; rcases zq1 with ⟨src, h3⟩; revert zq2; refine ae2 fun e3 e4 => ?_)
  refine ⟨(src, h3), e3, ?_⟩
  change (iterA src h3).bind _ = _ at e4
  show (iterA src h3).bind _ = _
  rw [Option.bind_eq_some_iff] at e4 ⊢
  (revert e4; refine xe1 fun zq1 zq2 => ?_; rcases zq1 with ⟨ri, h5⟩; revert zq2; refine ae2 fun e5 e6 => ?_)
  refine ⟨(ri, h5), e5, ?_⟩
  show (compA _ _ _ h5).bind _ = _
  rw [Option.bind_eq_some_iff]
  exact ⟨(vs, h1), e6, e2⟩
theorem g_cons {e it : Expr} {x : Str} {p : Pos} {ifs : List Expr} {z : Int} {gs : List Comprehension} {Q : List V → H → Prop}
    (w : CompW cl it m m x ifs gs e h Q) : W (gensA cl (⟨.Name x p, it, ifs, z⟩ :: gs) m fun m' => evalA cl e m') h Q := compW_run w
end
local macro_rules | `(tactic| wtm_at "mine nm") => `(tactic| (apply clr_ne (by kernel_rfl); wtm_at "mine nm"))
local macro_rules | `(tactic| wtm_at "mine st") => `(tactic| with_reducible first | refine cd_none ?_ | refine cd_more ?_ | refine g_nil ?_)
theorem perm_of_sub : ∀ (l m : List Int), l.Nodup → (∀ x ∈ l, x ∈ m) → m.length ≤ l.length → l.Perm m
  | [], m, _, _, hl => by cases m with | nil => exact List.Perm.refl _ | cons _ _ => simp at hl
  | x :: l, m, nd, s, hl => by
    rw [List.nodup_cons] at nd
    have hx := s x List.mem_cons_self
    have h1 := List.length_erase_of_mem hx
    rw [List.length_cons] at hl
    have := perm_of_sub l (m.erase x) nd.2 (fun y hy => (List.mem_erase_of_ne fun (q : y = x) => nd.1 (q ▸ hy)).mpr (s y (List.mem_cons_of_mem _ hy))) (by omega)
    exact (this.cons x).trans (List.perm_cons_erase hx).symm
theorem perm_of_mem {l m : List Int} (h1 : l.Nodup) (h2 : m.Nodup) (s : ∀ x, x ∈ l ↔ x ∈ m) : l.Perm m := perm_of_sub l m h1 (fun x => (s x).mp) (sub_len m l h2 fun x => (s x).mpr)
theorem eq_ints {h : H} {a b : Nat} {is js : List Int} (e1 : h[a]? = some (.list (is.map .int))) (e2 : h[b]? = some (.list (js.map .int))) : eqA h (.ref a) (.ref b) = some (decide (is = js)) := by
  show eqRefs h a b = _
  unfold eqRefs
  rw [e1, e2]
  show eqLs h _ _ = _
  unfold eqLs
  rw [map_intsOf, map_intsOf]

section
variable {h : H} {k : Nat} {Q : V → H → Prop} {R : List Row} {vs : List V} {ra : Nat}
/- what a round has met -/
structure Met (P met : List Int) : Prop where
  nd : met.Nodup
  sub : ∀ x ∈ met, x ∈ P
  some : met ≠ []
theorem Met.add {P met : List Int} (x : Met P met) {v : Int} (hv : v ∈ P) (hn : v ∉ met) : Met P (met ++ [v]) := by
  refine ⟨?_, fun y hy => ?_, by simp⟩
  · rw [List.nodup_append]
    exact ⟨x.nd, by simp, fun a ha b hb e => hn (by rw [List.mem_singleton] at hb; rw [← hb, ← e]; exact ha)⟩
  · rcases List.mem_append.mp hy with hy | hy
    · exact x.sub y hy
    · rw [List.mem_singleton.mp hy]; exact hv
theorem w_hangs {pa : Nat} {P : List Int} (hr : h[ra]? = some (.list vs)) (A : RowsAt h vs R) (wf : Wf R) (hp : h[pa]? = some (.list (P.map .int))) (hP : P ≠ []) (nd : P.Nodup) (srt : sortI P = P) (hl : P.length ≤ 30) (C : Conn (Cp R) P)
    (q : ∀ h1, Keep h h1 → Q (.bool true) h1) : W (callA pw (k + 2) (Str.ofString "_law_hangs") [.ref pa, .ref ra]) h Q := by
  obtain ⟨p0, P', rfl⟩ : ∃ p P', P = p :: P' := by cases P with | nil => exact absurd rfl hP | cons p P' => exact ⟨p, P', rfl⟩
  generalize hPP : p0 :: P' = P at hp hP nd srt hl C
  have hp0 : (P.map V.int)[(0 : Int).toNat]? = some (.int p0) := by rw [← hPP]; rfl
  have p0P : p0 ∈ P := by rw [← hPP]; exact List.mem_cons_self
  have hPl : (P.map V.int).length ≤ 1000 := by rw [List.length_map]; omega
  have met_len : ∀ met, Met P met → (met.map V.int).length < 1000 := fun met x => by rw [List.length_map]; have := sub_len met P x.nd x.sub; omega
  refine call_W (ps := [Str.ofString "part", Str.ofString "made"]) (by kernel_rfl) (by kernel_rfl) rfl (by kernel_rfl) rfl ?_
  repeat wtm_at "mine st"
  refine p_item_list hp (lim_of hPl) ⟨by decide, hp0⟩ ?_
  repeat wtm_at "mine st"
  refine p_newL (lim_c (by kernel_rfl)) fun ma h1 K1 n1 e1 => ?_
  refine s_ForList (by kernel_rfl) ?_
  repeat wtm_at "mine st"
  refine forL_in (K1 _ _ hp) (fun ys m h2 => ∃ met : List Int, Met P met ∧ (P.length < met.length + ys.length + 1) ∧ Keep h h2 ∧ h2[ma]? = some (.list (met.map .int)) ∧ Hs m "part" (.ref pa) ∧ Hs m "made" (.ref ra) ∧ Hs m "met_ones" (.ref ma))
    ⟨[p0], ⟨by simp, fun x hx => by rw [List.mem_singleton.mp hx]; exact p0P, by simp⟩, by rw [List.length_map]; simp; omega, K1, e1, by wtm_at "mine nm", by wtm_at "mine nm", by wtm_at "mine nm"⟩ ?_ ?_
  · refine fun y ys m h2 hh => ex1 hh fun met0 hh => and7 hh fun M0 hm K e2 n2 n3 n4 => ?_
    refine ab_in fun zz zz => ?_
    refine s_ForList (by kernel_rfl) ?_
    repeat wtm_at "mine st"
    refine ⟨_, _, rfl, K _ _ hr, fun zs m h3 => ∃ i, ∃ met : List Int, zs = vs.drop i ∧ i ≤ R.length ∧ Met P met ∧ (met0.length < met.length ∨ (met = met0 ∧ ∀ i' r, i' < i → R[i']? = some r → r.1 = sCopy → r.2.1 ∈ P → r.2.2.1 ∈ P → (r.2.1 ∈ met0 ↔ r.2.2.1 ∈ met0))) ∧
        Keep h h3 ∧ h3[ma]? = some (.list (met.map .int)) ∧ Hs m "part" (.ref pa) ∧ Hs m "made" (.ref ra) ∧ Hs m "met_ones" (.ref ma),
      ⟨0, met0, rfl, Nat.zero_le _, M0, .inr ⟨rfl, fun i' r z => (Nat.not_lt_zero _ z).elim⟩, K, e2, by wtm_at "mine nm", by wtm_at "mine nm", by wtm_at "mine nm"⟩, ?_, ?_⟩
    · intro z zs m h3 zq
      (revert zq; refine xe2 fun i met zq1 => ?_; revert zq1; refine ae8 fun e hi Mt hg K e3 n2 zq2 => ?_; revert zq2; refine ae2 fun n3 n4 => ?_)
      (refine ae2 (fun hv hzs => ?_) (drop_at e))
      have hil : i < R.length := by rw [← A.1]; exact (List.getElem?_eq_some_iff.mp hv).1
      have hri : R[i]? = some R[i] := List.getElem?_eq_getElem hil
      (refine xe1 (fun a zq1 => ?_) (A.2 i _ hri); revert zq1; refine ae2 fun hva har => ?_)
      rw [hv] at hva
      cases hva
      generalize R[i] = r at hri har
      have har := K _ _ har
      have hp3 := K _ _ hp
      -- a row that changes nothing
      have same : (r.1 = sCopy → r.2.1 ∈ P → r.2.2.1 ∈ P → (r.2.1 ∈ met ↔ r.2.2.1 ∈ met)) → (met0.length < met.length ∨ (met = met0 ∧ ∀ i' r, i' < i + 1 → R[i']? = some r → r.1 = sCopy → r.2.1 ∈ P → r.2.2.1 ∈ P → (r.2.1 ∈ met0 ↔ r.2.2.1 ∈ met0))) := fun z => by
        rcases hg with hg | ⟨rfl, hg⟩
        · exact .inl hg
        · refine .inr ⟨rfl, fun i' r' hi' hr' => ?_⟩
          rcases Nat.lt_succ_iff_lt_or_eq.mp hi' with q | rfl
          · exact hg i' r' q hr'
          · rw [hri] at hr'; cases hr'; exact z
      repeat wtm_at "mine st"
      refine p_row0 har ?_
      repeat wtm_at "mine st"
      refine p_eq (r := decide (r.1 = sCopy)) rfl ?_
      wtm_at "mine st"
      refine ⟨fun t => ⟨fun z => (Bool.false_ne_true z).elim, fun zz => ?_⟩, fun t => ?_⟩
      · repeat wtm_at "mine st"
        exact ⟨K _ _ hr, i + 1, met, hzs, hil, Mt, same fun z => absurd z (of_decide_eq_false t), K, e3, by wtm_at "mine nm", by wtm_at "mine nm", by wtm_at "mine nm"⟩
      repeat wtm_at "mine st"
      refine p_row1 har ?_
      repeat wtm_at "mine st"
      refine p_in (in_list hp3) ?_
      wtm_at "mine st"
      refine ⟨fun t1 => ⟨fun z => (Bool.false_ne_true z).elim, fun zz => ?_⟩, fun t1 => ?_⟩
      · repeat wtm_at "mine st"
        exact ⟨K _ _ hr, i + 1, met, hzs, hil, Mt, same fun zz z => absurd z (of_decide_eq_false t1), K, e3, by wtm_at "mine nm", by wtm_at "mine nm", by wtm_at "mine nm"⟩
      repeat wtm_at "mine st"
      refine p_row2 har ?_
      repeat wtm_at "mine st"
      refine p_in (in_list hp3) ?_
      wtm_at "mine st"
      refine ⟨fun t2 => ⟨fun z => (Bool.false_ne_true z).elim, fun zz => ?_⟩, fun t2 => ?_⟩
      · repeat wtm_at "mine st"
        exact ⟨K _ _ hr, i + 1, met, hzs, hil, Mt, same fun zz zz z => absurd z (of_decide_eq_false t2), K, e3, by wtm_at "mine nm", by wtm_at "mine nm", by wtm_at "mine nm"⟩
      repeat wtm_at "mine st"
      refine ⟨fun zz => ?_, fun z => (Bool.false_ne_true z.symm).elim⟩
      repeat wtm_at "mine st"
      refine p_row1 har ?_
      repeat wtm_at "mine st"
      refine p_in (in_list e3) ?_
      repeat wtm_at "mine st"
      refine p_row2 har ?_
      repeat wtm_at "mine st"
      refine p_in (in_list e3) ?_
      refine p_ne (r := decide (r.2.1 ∈ met) == decide (r.2.2.1 ∈ met)) rfl ?_
      wtm_at "mine st"
      refine ⟨fun t3 => ?_, fun t3 => ?_⟩
      rotate_left
      · repeat wtm_at "mine st"
        refine ⟨K _ _ hr, i + 1, met, hzs, hil, Mt, same fun zz zz zz => ?_, K, e3, by wtm_at "mine nm", by wtm_at "mine nm", by wtm_at "mine nm"⟩
        have := beq_iff_eq.mp (nbf t3)
        exact decide_eq_decide.mp this
      have hx := of_decide_eq_true t1
      have hy := of_decide_eq_true t2
      have hdiff := beq_eq_false_iff_ne.mp (nbt t3)
      have push : ∀ v : Int, v ∈ P → v ∉ met → ∀ h4, Upd ma (.list (met.map V.int ++ [.int v])) h3 h4 → ∀ m' : Mine.L, Hs m' "part" (.ref pa) → Hs m' "made" (.ref ra) → Hs m' "met_ones" (.ref ma) →
          h4[ra]? = some (.list vs) ∧ ∃ i, ∃ met : List Int, zs = vs.drop i ∧ i ≤ R.length ∧ Met P met ∧ (met0.length < met.length ∨ (met = met0 ∧ ∀ i' r, i' < i → R[i']? = some r → r.1 = sCopy → r.2.1 ∈ P → r.2.2.1 ∈ P → (r.2.1 ∈ met0 ↔ r.2.2.1 ∈ met0))) ∧
            Keep h h4 ∧ h4[ma]? = some (.list (met.map .int)) ∧ Hs m' "part" (.ref pa) ∧ Hs m' "made" (.ref ra) ∧ Hs m' "met_ones" (.ref ma) := fun v hv hn h4 u m' a b c => by
        have K4 := K.upd u n1
        refine ⟨K4 _ _ hr, i + 1, met ++ [v], hzs, hil, Mt.add hv hn, .inl ?_, K4, by rw [u.1]; simp, a, b, c⟩
        rw [List.length_append, List.length_singleton]
        rcases hg with hg | ⟨rfl, _⟩ <;> omega
      repeat wtm_at "mine st"
      refine m_list e3 ?_
      wtm_at "mine st"
      refine e_IfExp ?_
      repeat wtm_at "mine st"
      refine p_row2 har ?_
      repeat wtm_at "mine st"
      refine p_in (in_list e3) ?_
      wtm_at "mine st"
      refine ⟨fun t4 => ?_, fun t4 => ?_⟩
      · repeat wtm_at "mine st"
        refine p_row1 har ?_
        repeat wtm_at "mine st"
        refine p_append e3 (lim_lt (met_len met Mt)) fun h4 u => ⟨rfl, ?_⟩
        repeat wtm_at "mine st"
        refine push _ hx (fun z => hdiff ?_) h4 u _ (by wtm_at "mine nm") (by wtm_at "mine nm") (by wtm_at "mine nm")
        rw [t4, decide_eq_true z]
      · repeat wtm_at "mine st"
        refine p_row2 har ?_
        repeat wtm_at "mine st"
        refine p_append e3 (lim_lt (met_len met Mt)) fun h4 u => ⟨rfl, ?_⟩
        repeat wtm_at "mine st"
        exact push _ hy (of_decide_eq_false t4) h4 u _ (by wtm_at "mine nm") (by wtm_at "mine nm") (by wtm_at "mine nm")
    · intro m h3 zq
      (revert zq; refine xe2 fun i met zq1 => ?_; revert zq1; refine ae8 fun e hi Mt hg K e3 n2 zq2 => ?_; revert zq2; refine ae2 fun n3 n4 => ?_)
      have hvl : vs.length ≤ i := List.drop_eq_nil_iff.mp e.symm
      have : i = R.length := by rw [A.1] at hvl; omega
      subst this
      repeat wtm_at "mine st"
      refine ⟨K _ _ hp, met, Mt, ?_, K, e3, n2, n3, n4⟩
      rw [List.length_cons] at hm
      rcases hg with hg | ⟨rfl, hg⟩
      · omega
      · by_cases full : ∀ x ∈ P, x ∈ met
        · have := sub_len P met nd full
          omega
        · exfalso
          (refine xe1 (fun x hx => ?_) (Classical.not_forall.mp full))
          (refine ae2 (fun hx hxn => ?_) (Classical.not_imp.mp hx))
          obtain ⟨w, hw⟩ : ∃ w, w ∈ met := by cases h : met with | nil => exact absurd h Mt.some | cons a b => exact ⟨a, List.mem_cons_self⟩
          (refine xe2 (fun u v zq1 => ?_) (C (fun z => decide (z ∈ met)) ⟨w, Mt.sub w hw, decide_eq_true hw⟩ ⟨x, hx, decide_eq_false hxn⟩); revert zq1; refine ae2 fun zq2 zq3 => ?_; revert zq2; refine xe1 fun r zq4 => ?_; revert zq4; refine ae4 fun hr' rc ru rv => ?_; revert zq3; refine ae3 fun hu hv hne => ?_)
          (refine xe1 (fun i' hi' => ?_) (List.mem_iff_getElem?.mp hr'))
          have := hg i' r (List.getElem?_eq_some_iff.mp hi').1 hi' rc (ru ▸ hu) (rv ▸ hv)
          rw [ru, rv] at this
          exact hne (decide_eq_decide.mpr this)
  · refine fun m h2 hh => ex1 hh fun met hh => and7 hh fun Mt hm K e2 n2 n3 n4 => ?_
    have perm : met.Perm P := perm_of_sub met P Mt.nd Mt.sub (by simp at hm; omega)
    repeat wtm_at "mine st"
    refine c_sorted (p_sorted_ints e2 (by have := sub_len met P Mt.nd Mt.sub; omega) fun c h3 K3 n3 e3 => ?_)
    repeat wtm_at "mine st"
    refine p_eq (eq_ints e3 (K3 _ _ (K _ _ hp))) ?_
    repeat wtm_at "mine st"
    rw [decide_eq_true (by rw [sortI_congr perm]; exact srt)]
    exact q h3 (K.trans K3)
end

open PySem PySem.W PyProof.Rows

noncomputable def sortL (ls : List (List Int)) : List (List Int) := ls.mergeSort fun a b => !lexLt b a
theorem sortL_perm (ls : List (List Int)) : (sortL ls).Perm ls := List.mergeSort_perm ..
theorem sortP_fst (ps : List (List Int × V)) : (sortP ps).map (·.1) = sortL (ps.map (·.1)) := by
  unfold sortP sortL
  exact List.map_mergeSort fun zz zz zz zz => rfl
theorem listsOf_pairs {h : H} : ∀ {ps : List (List Int × V)}, (∀ p ∈ ps, listAt h p.2 = some p.1) → listsOf h (ps.map (·.2)) = some (ps.map (·.1))
  | [], _ => rfl
  | p :: ps, e => by
    rw [List.map_cons, List.map_cons]
    unfold listsOf
    rw [e p List.mem_cons_self, listsOf_pairs fun q hq => e q (List.mem_cons_of_mem _ hq)]; rfl
/- references to lists of ints -/
noncomputable def Refs (h : H) (xs : List V) (ls : List (List Int)) : Prop := xs.length = ls.length ∧ ∀ p ∈ ls.zip xs, listAt h p.2 = some p.1
theorem listAt_keep {h h1 : H} (K : Keep h h1) {v : V} {l : List Int} (e : listAt h v = some l) : listAt h1 v = some l := by
  (refine xe2 (fun i xs zq1 => ?_) (listAt_some e); revert zq1; refine ae2 fun zq2 zq3 => ?_; subst zq2; revert zq3; refine ae2 fun e1 zq4 => ?_; subst zq4)
  show (match h1[i]? with | some (.list xs) => intsOf xs | _ => none) = _
  rw [K _ _ e1]
  exact map_intsOf l
theorem Refs.keep {h h1 : H} {xs : List V} {ls : List (List Int)} (x : Refs h xs ls) (K : Keep h h1) : Refs h1 xs ls := ⟨x.1, fun p hp => listAt_keep K (x.2 p hp)⟩
theorem Refs.lists {h : H} {xs : List V} {ls : List (List Int)} (x : Refs h xs ls) : listsOf h xs = some ls := by
  have := listsOf_pairs (ps := ls.zip xs) x.2
  rwa [List.map_snd_zip (by have := x.1; omega), List.map_fst_zip (by have := x.1; omega)] at this
theorem Refs.add {h : H} {xs : List V} {ls : List (List Int)} (x : Refs h xs ls) {a : Nat} {l : List Int} (e : h[a]? = some (.list (l.map .int))) : Refs h (xs ++ [.ref a]) (ls ++ [l]) := by
  refine ⟨by rw [List.length_append, List.length_append, x.1]; rfl, fun p hp => ?_⟩
  rw [List.zip_append x.1.symm] at hp
  rcases List.mem_append.mp hp with hp | hp
  · exact x.2 p hp
  · rw [List.mem_singleton.mp hp]
    show (match h[a]? with | some (.list xs) => intsOf xs | _ => none) = _
    rw [e]
    exact map_intsOf l
theorem Refs.noInts {h : H} {xs : List V} {ls : List (List Int)} (x : Refs h xs ls) (ne : ls ≠ []) : intsOf xs = none := by
  cases xs with
  | nil => have := x.1; cases ls with | nil => exact absurd rfl ne | cons _ _ => simp at this
  | cons v xs =>
    cases ls with
    | nil => exact absurd rfl ne
    | cons l ls =>
    (refine xe2 (fun i zz zq1 => ?_) (listAt_some (x.2 (l, v) List.mem_cons_self)); revert zq1; refine ae2 fun e zz => ?_)
    have e : v = .ref i := e
    subst e
    rfl
theorem p_sorted_refs {h : H} {Q : V → H → Prop} {a : Nat} {xs : List V} {ls : List (List Int)} (e : h[a]? = some (.list xs)) (x : Refs h xs ls) (ne : ls ≠ []) (few : ls.length < 60) (nd : ls.Nodup)
    (q : ∀ c h1 ys, Keep h h1 → h[c]? = none → h1[c]? = some (.list ys) → Refs h1 ys (sortL ls) → Q (.ref c) h1) : W (sortedA (.ref a)) h Q := by
  refine p_sorted_lists e (by rw [x.1]; exact few) (x.noInts ne) x.lists nd fun c h1 K n e1 => q c h1 _ K n e1 ?_
  have hf : (ls.zip xs).map (·.1) = ls := List.map_fst_zip (by have := x.1; omega)
  have perm : (sortP (ls.zip xs)).Perm (ls.zip xs) := List.mergeSort_perm ..
  have f := sortP_fst (ls.zip xs)
  rw [hf] at f
  refine ⟨by rw [List.length_map, ← f, List.length_map], fun p hp => ?_⟩
  rw [← f] at hp
  have : ∀ (ps : List (List Int × V)) (p : List Int × V), p ∈ (ps.map (·.1)).zip (ps.map (·.2)) → p ∈ ps := by
    intro ps
    induction ps with
    | nil => intro p hp; cases hp
    | cons a ps ih =>
      intro p hp
      rw [List.map_cons, List.map_cons, List.zip_cons_cons] at hp
      rcases List.mem_cons.mp hp with rfl | hp
      · exact List.mem_cons_self
      · exact List.mem_cons_of_mem _ (ih p hp)
  exact listAt_keep K (x.2 p (perm.mem_iff.mp (this _ p hp)))
theorem nodup_map_on {α β : Type} {f : α → β} : ∀ {l : List α}, l.Nodup → (∀ a ∈ l, ∀ b ∈ l, f a = f b → a = b) → (l.map f).Nodup
  | [], _, _ => List.Pairwise.nil
  | x :: l, nd, i => by
    rw [List.nodup_cons] at nd
    rw [List.map_cons, List.nodup_cons]
    refine ⟨fun z => ?_, nodup_map_on nd.2 fun a ha b hb => i a (List.mem_cons_of_mem _ ha) b (List.mem_cons_of_mem _ hb)⟩
    (refine xe1 (fun y zq1 => ?_) (List.mem_map.mp z); revert zq1; refine ae2 fun hy e => ?_)
    exact nd.1 (i y (List.mem_cons_of_mem _ hy) x List.mem_cons_self e ▸ hy)
theorem flat_sort (γ : Gr) : (γ.flatMap fun e => sortI e.mem).Perm (γ.flatMap (·.mem)) := by
  induction γ with
  | nil => exact List.Perm.refl _
  | cons e γ ih => rw [List.flatMap_cons, List.flatMap_cons]; exact (sortI_perm _).append ih
theorem flat_sh (γ : Gr) : (sh γ).flatMap (·.2) = γ.flatMap (·.mem) := by unfold sh; rw [List.flatMap_map]
theorem grp_sh (γ : Gr) : grp (sh γ) = γ.map fun e => sortI e.mem := by unfold grp sh; rw [List.map_map]; rfl

section
variable {h : H} {k : Nat} {g d nr mr : Nat} {γ : Gr} {Q : V → H → Prop} {R : List Row} {vs : List V} {ra ba da : Nat} {Λ : Life}
theorem w_right (G : GA h g d nr mr γ) (hr : h[ra]? = some (.list vs)) (A : RowsAt h vs R) (wf : Wf R) (Lf : LifeAt h ba da Λ) (lo : LifeOk k Λ) (I : Inv Λ (Cp R) γ) (hk : (keys Λ).length ≤ 30) (hne : keys Λ ≠ []) {n : Nat}
    (q : ∀ c ys h1, Keep h h1 → h1[c]? = some (.list ys) → Refs h1 ys (sortL (grp (sh γ))) → Q (.ref c) h1) : W (callA pw (n + 3) (Str.ofString "_law_graph_right") [.ref g, .ref ra, .ref ba, .ref da]) h Q := by
  have few := G.few
  have ml : ∀ e ∈ γ, e.mem.length ≤ 30 := fun e he => Nat.le_trans (I.mem_len he) hk
  have mk : ∀ e ∈ γ, ∀ v ∈ e.mem, v ∈ keys Λ := fun e he => I.s.sub (mem_sh he)
  have mk' : ∀ e ∈ γ, ∀ v ∈ sortI e.mem, v ∈ keys Λ := fun e he v hv => mk e he v (mem_sortI.mp hv)
  have mnd : ∀ e ∈ γ, e.mem.Nodup := fun e he => by
    have nf : (γ.flatMap (·.mem)).Nodup := by rw [← flat_sh]; exact I.s.part.nodup_iff.mpr lo.nodup
    have : ∀ {γ : Gr}, e ∈ γ → (γ.flatMap (·.mem)).Nodup → e.mem.Nodup := by
      intro γ
      induction γ with
      | nil => intro h; cases h
      | cons a γ ih =>
        intro h nd
        rw [List.flatMap_cons, List.nodup_append] at nd
        rcases List.mem_cons.mp h with rfl | h
        · exact nd.1
        · exact ih h nd.2.1
    exact this he nf
  obtain ⟨epm, hm⟩ := G.mem
  obtain ⟨epn, hn⟩ := G.near
  refine call_W (ps := [Str.ofString "graph", Str.ofString "made", Str.ofString "born", Str.ofString "dies"]) (by kernel_rfl) (by kernel_rfl) rfl (by kernel_rfl) rfl ?_
  repeat wtm_at "mine st"
  refine p_newL (lim_c (by kernel_rfl)) fun ga h1 K1 n1 e1 => ?_
  refine s_ForDict (by kernel_rfl) ?_
  repeat wtm_at "mine st"
  refine p_attr_mem (K1 _ _ G.inst) (K1 _ _ G.ns) ?_
  refine forD_in (K1 _ _ hm) (fun ys m h2 => ∃ γ1 γ2 xs, γ = γ1 ++ γ2 ∧ ys = (nodes γ2).map V.int ∧ Keep h h2 ∧ h2[ga]? = some (.list xs) ∧ Refs h2 xs (γ1.map fun e => sortI e.mem) ∧ Hs m "graph" (.ref g) ∧ Hs m "made" (.ref ra) ∧ Hs m "born" (.ref ba) ∧ Hs m "dies" (.ref da) ∧ Hs m "groups_seen" (.ref ga))
    ⟨[], γ, [], rfl, keysV_mem γ, K1, e1, ⟨rfl, fun p hp => (nomatch hp)⟩, by wtm_at "mine nm", by wtm_at "mine nm", by wtm_at "mine nm", by wtm_at "mine nm", by wtm_at "mine nm"⟩ ?_ ?_
  · refine fun y ys m h2 hh => ex3 hh fun γ1 γ2 xs hh => and10 hh fun eγ e K e2 X m1 m2 m3 m4 m5 => ?_
    cases γ2 with
    | nil => cases e
    | cons e0 γ2 =>
    cases e
    have he : e0 ∈ γ := by rw [eγ]; exact List.mem_append_right _ List.mem_cons_self
    have G2 := G.keep K
    repeat wtm_at "mine st"
    refine p_attr_mem G2.inst G2.ns ?_
    repeat wtm_at "mine st"
    refine p_mems G2 he ?_
    repeat wtm_at "mine st"
    refine c_sorted (p_sorted_ints (G2.each e0 he).2 (by have := ml e0 he; omega) fun pa h3 K3 n3 e3 => ?_)
    have K3' := K.trans K3
    have plen : (sortI e0.mem).length ≤ 30 := by rw [(sortI_perm _).length_eq]; exact ml e0 he
    refine s_IfJ (fun m' h4 => m' = upd (upd m (Str.ofString "node") (.int e0.node)) (Str.ofString "part") (.ref pa) ∧ Keep h h4 ∧ Keep h3 h4) ?_ ?_
    · repeat wtm_at "mine st"
      refine p_nin (in_list e3) ?_
      repeat wtm_at "mine st"
      have hin : e0.node ∈ sortI e0.mem := mem_sortI.mpr (I.s.self _ (mem_sh he))
      rw [decide_eq_true hin]
      refine ⟨fun z => (Bool.false_ne_true z).elim, fun zz => ?_⟩
      repeat wtm_at "mine st"
      refine w_hangs (K3' _ _ hr) (A.keep K3') wf e3 (fun z => by rw [z] at hin; cases hin) ((sortI_perm _).nodup_iff.mpr (mnd e0 he)) (sortI_congr (sortI_perm _)) plen ?_ fun h4 K4 => ?_
      · have cc := I.s.conn _ (mem_sh he)
        intro S ⟨x, hx, sx⟩ ⟨y, hy, sy⟩
        (refine xe2 (fun u v zq1 => ?_) (cc S ⟨x, mem_sortI.mp hx, sx⟩ ⟨y, mem_sortI.mp hy, sy⟩); revert zq1; refine ae4 fun z1 z2 z3 z4 => ?_)
        exact ⟨u, v, z1, mem_sortI.mpr z2, mem_sortI.mpr z3, z4⟩
      repeat wtm_at "mine st"
      refine ⟨fun z => (Bool.false_ne_true z).elim, fun zz => ?_⟩
      repeat wtm_at "mine st"
      refine w_clash (Lf.keep (K3'.trans K4)) (K4 _ _ e3) (K4 _ _ e3) (mk' e0 he) (mk' e0 he) fun h5 K5 => ?_
      rw [clash_perm (sortI_perm e0.mem) (sortI_perm e0.mem), show clash Λ e0.mem e0.mem = false from I.s.inner _ (mem_sh he)]
      repeat wtm_at "mine st"
      refine ⟨fun z => (Bool.false_ne_true z).elim, fun zz => ?_⟩
      repeat wtm_at "mine st"
      refine ⟨fun z => (Bool.false_ne_true z).elim, fun zz => ?_⟩
      repeat wtm_at "mine st"
      exact ⟨rfl, (K3'.trans K4).trans K5, K4.trans K5⟩
    intro m' h4 zq
    (revert zq; refine ae2 fun zq1 zq2 => ?_; subst zq1; revert zq2; refine ae2 fun K4 K34 => ?_)
    have e4 := K34 _ _ e3
    have ga4 := K34 _ _ (K3 _ _ e2)
    have X4 := (X.keep K3).keep K34
    have xlen : xs.length < 1000 := by
      have := X.1
      rw [List.length_map] at this
      have h2 := congrArg List.length eγ
      rw [List.length_append] at h2
      omega
    repeat wtm_at "mine st"
    refine m_list ga4 ?_
    repeat wtm_at "mine st"
    refine p_append ga4 (lim_lt xlen) fun h5 u5 => ⟨rfl, ?_⟩
    have K5 := K4.upd u5 n1
    have pga : pa ≠ ga := fun z => by
      have a := K3 _ _ e2
      rw [← z] at a
      rw [z, e2] at n3; cases n3
    have e5 : h5[pa]? = some (.list ((sortI e0.mem).map .int)) := u5.other e4 pga
    have G5 := G.keep K5
    have X5 : Refs h5 (xs ++ [.ref pa]) ((γ1 ++ [e0]).map fun e => sortI e.mem) := by
      rw [List.map_append]
      refine Refs.add ⟨X4.1, fun p hp => ?_⟩ e5
      (refine xe2 (fun i zs zq1 => ?_) (listAt_some (X4.2 p hp)); revert zq1; refine ae3 fun q1 q2 q3 => ?_)
      rw [q1]
      show (match h5[i]? with | some (.list xs) => intsOf xs | _ => none) = _
      by_cases hi : i = ga
      · exfalso
        subst hi
        have ga4 := ga4
        rw [q2] at ga4
        cases ga4
        cases xs with
        | nil => have := X.1; cases h : (γ1.map fun e => sortI e.mem) with
          | nil => rw [h] at hp; cases hp
          | cons a b => rw [h] at this; simp at this
        | cons a b =>
          have hno := X.noInts (fun z => by have := X.1; rw [z] at this; simp at this)
          rw [q3, map_intsOf] at hno
          cases hno
      · rw [u5.other q2 hi, q3]
        exact map_intsOf _
    repeat wtm_at "mine st"
    refine e_Comp ?_
    unfold CompW
    repeat wtm_at "mine st"
    refine p_attr_mem G5.inst G5.ns ?_
    have hm5 := K5 _ _ hm
    refine comp_in (hm5) (.inr ⟨_, _, rfl, rfl⟩) (fun acc ys h6 => ∃ δ1 δ2 : Gr, γ = δ1 ++ δ2 ∧ ys = (nodes δ2).map V.int ∧ acc = (nodes (δ1.filter fun e => decide (e.node ≠ e0.node) && clash Λ e0.mem e.mem)).map V.int ∧ Keep h5 h6) ⟨[], γ, rfl, keysV_mem γ, rfl, Keep.refl _⟩ ?_ ?_
    · refine fun acc y ys h6 hh => ex2 hh fun δ1 δ2 hh => and4 hh fun ed e6 ea K6 => ?_
      cases δ2 with
      | nil => cases e6
      | cons x δ2 =>
      cases e6
      have hx : x ∈ γ := by rw [ed]; exact List.mem_append_right _ List.mem_cons_self
      have K56 := K5.trans K6
      have G6 := G.keep K56
      have next : ∀ (b : Bool), (decide (x.node ≠ e0.node) && clash Λ e0.mem x.mem) = b → ∀ h7, Keep h5 h7 → ∃ δ1' δ2' : Gr, γ = δ1' ++ δ2' ∧ (nodes δ2).map V.int = (nodes δ2').map V.int ∧ (if b then acc ++ [V.int x.node] else acc) = (nodes (δ1'.filter fun e => decide (e.node ≠ e0.node) && clash Λ e0.mem e.mem)).map V.int ∧ Keep h5 h7 := fun b hb h7 K7 => by
        refine ⟨δ1 ++ [x], δ2, by rw [ed]; simp, rfl, ?_, K7⟩
        rw [List.filter_append, ea]
        unfold nodes
        cases b with
        | true => rw [List.filter_cons_of_pos (p := fun e : GE => decide (e.node ≠ e0.node) && clash Λ e0.mem e.mem) hb]; simp
        | false => rw [List.filter_cons_of_neg (p := fun e : GE => decide (e.node ≠ e0.node) && clash Λ e0.mem e.mem) (by rw [hb]; decide)]; simp
      repeat wtm_at "mine st"
      refine p_ne (r := decide (x.node = e0.node)) rfl ?_
      wtm_at "mine st"
      refine ⟨fun t => ⟨fun z => (Bool.false_ne_true z).elim, fun zz => ?_⟩, fun t => ?_⟩
      · refine ⟨fun z => (Bool.false_ne_true z).elim, fun zz => ⟨K56 _ _ hm, next false ?_ h6 K6⟩⟩
        rw [decide_eq_false (fun z => z (of_decide_eq_true (nbf t))), Bool.false_and]
      have hxn : x.node ≠ e0.node := of_decide_eq_false (nbt t)
      repeat wtm_at "mine st"
      refine p_attr_mem G6.inst G6.ns ?_
      repeat wtm_at "mine st"
      refine p_mems G6 hx ?_
      repeat wtm_at "mine st"
      refine w_clash (Lf.keep K56) (K6 _ _ e5) (G6.each x hx).2 (mk' e0 he) (mk x hx) fun h7 K7 => ?_
      rw [clash_perm (sortI_perm e0.mem) (List.Perm.refl x.mem)]
      have K57 := K6.trans K7
      have fin : ∀ b : Bool, clash Λ e0.mem x.mem = b → (decide (x.node ≠ e0.node) && clash Λ e0.mem x.mem) = b := fun b hb => by rw [decide_eq_true hxn, Bool.true_and]; exact hb
      repeat wtm_at "mine st"
      refine ⟨fun t2 => ⟨fun z => (Bool.false_ne_true z).elim, fun zz => ?_⟩, fun t2 => ?_⟩
      · exact ⟨fun z => (Bool.false_ne_true z).elim, fun zz => ⟨(K5.trans K57) _ _ hm, next false (fin _ t2) h7 K57⟩⟩
      · repeat wtm_at "mine st"
        refine ⟨fun zz => ?_, fun z => (Bool.false_ne_true z.symm).elim⟩
        repeat wtm_at "mine st"
        refine ⟨fun zz => ?_, fun z => (Bool.false_ne_true z.symm).elim⟩
        repeat wtm_at "mine st"
        exact ⟨(K5.trans K57) _ _ hm, next true (fin _ t2) h7 K57⟩
    · refine fun acc h6 hh => ex2 hh fun δ1 δ2 hh => and4 hh fun ed e6 ea K6 => ?_
      cases δ2 with
      | cons _ _ => cases e6
      | nil =>
      rw [List.append_nil] at ed
      subst ed
      have K56 := K5.trans K6
      have G6 := G.keep K56
      generalize hbl : nodes (γ.filter fun e => decide (e.node ≠ e0.node) && clash Λ e0.mem e.mem) = bl at ea
      have bnd : bl.Nodup := by rw [← hbl]; exact I.nodes.sublist (List.filter_sublist.map _)
      have blen : bl.length ≤ 30 := by rw [← hbl]; unfold nodes; rw [List.length_map]; exact Nat.le_trans (List.length_filter_le ..) few
      have perm : bl.Perm e0.near := perm_of_mem bnd (G.sub e0 he).1 fun x => by
        rw [← nrP_at I.nodes he, I.near, ← hbl]
        constructor
        · intro hx
          (refine xe1 (fun e' zq1 => ?_) (List.mem_map.mp hx); revert zq1; refine ae2 fun he' zq2 => ?_; subst zq2)
          (refine ae2 (fun he' hc => ?_) (List.mem_filter.mp he'))
          simp only [Bool.and_eq_true, decide_eq_true_eq] at hc
          exact ⟨_, mem_sh he, _, mem_sh he', rfl, rfl, hc.1, hc.2⟩
        · intro zq
          (revert zq; refine xe1 fun p zq1 => ?_; revert zq1; refine ae2 fun hp zq2 => ?_; revert zq2; refine xe1 fun r zq3 => ?_; revert zq3; refine ae5 fun hr q1 q2 q3 q4 => ?_)
          (refine xe1 (fun e' zq1 => ?_) (List.mem_map.mp hr); revert zq1; refine ae2 fun he' zq2 => ?_; subst zq2)
          have := nodup_map_inj I.s.nodes hp (mem_sh he) q1
          subst this
          have q2 : e'.node = x := q2
          subst q2
          exact List.mem_map_of_mem (List.mem_filter.mpr ⟨he', by simp only [Bool.and_eq_true, decide_eq_true_eq]; exact ⟨q3, q4⟩⟩)
      rw [ea]
      refine p_newL (lim_of (by rw [List.length_map]; omega)) fun be h7 K7 n7 e7 => ?_
      have K57 := K6.trans K7
      have G7 := G6.keep K7
      repeat wtm_at "mine st"
      refine c_sorted (p_sorted_ints e7 (by omega) fun s1 h8 K8 n8 e8 => ?_)
      repeat wtm_at "mine st"
      have G8 := G7.keep K8
      (refine ae2 (fun zq1 zz => ?_) (G8.each e0 he); revert zq1; refine xe1 fun epx ax => ?_)
      refine p_attr_near G8.inst G8.ns ?_
      repeat wtm_at "mine st"
      refine p_near G8 he ?_
      repeat wtm_at "mine st"
      refine c_sorted (p_sorted_dict ax (by unfold nsK; rw [List.length_map]; have := G.near_len he; omega) fun s2 h9 K9 n9 e9 => ?_)
      rw [nsK_keys] at e9
      refine p_ne (eq_ints (K9 _ _ e8) e9) ?_
      rw [decide_eq_true (sortI_congr perm)]
      repeat wtm_at "mine st"
      refine ⟨fun z => (Bool.false_ne_true z).elim, fun zz => ?_⟩
      repeat wtm_at "mine st"
      have K59 := (K57.trans K8).trans K9
      refine ⟨(K5.trans K59) _ _ hm, γ1 ++ [e0], γ2, xs ++ [.ref pa], by rw [eγ]; simp, rfl, K5.trans K59, K59 _ _ u5.1, X5.keep K59, ?_, ?_, ?_, ?_, ?_⟩
      all_goals wtm_at "mine nm"
  · refine fun m h2 hh => ex3 hh fun γ1 γ2 xs hh => and10 hh fun eγ e K e2 X m1 m2 m3 m4 m5 => ?_
    cases γ2 with
    | cons _ _ => cases e
    | nil =>
    rw [List.append_nil] at eγ
    subst eγ
    have G2 := G.keep K
    have glen : (γ.flatMap fun e => sortI e.mem).length ≤ 30 := by rw [(flat_sort γ).length_eq, ← flat_sh, I.s.part.length_eq]; exact hk
    repeat wtm_at "mine st"
    refine e_Comp ?_
    unfold CompW
    repeat wtm_at "mine st"
    refine comp_in (e2) (.inl rfl) (fun acc ys h3 => ∃ ls1 ls2 : List (List Int), γ.map (fun e => sortI e.mem) = ls1 ++ ls2 ∧ ys.length = ls2.length ∧ (∀ p ∈ ls2.zip ys, listAt h2 p.2 = some p.1) ∧ acc = (ls1.flatMap id).map V.int ∧ Keep h2 h3) ⟨[], _, rfl, X.1, X.2, rfl, Keep.refl _⟩ ?_ ?_
    · refine fun acc y ys h3 hh => ex2 hh fun ls1 ls2 hh => and5 hh fun el hlen hz ea K3 => ?_
      cases ls2 with
      | nil => simp at hlen
      | cons l ls2 =>
      (refine xe2 (fun pa zs zq1 => ?_) (listAt_some (hz (l, y) List.mem_cons_self)); revert zq1; refine ae3 fun q1 q2 q3 => ?_)
      have q1 : y = .ref pa := q1
      subst q1
      have q3 : zs = l.map .int := q3
      subst q3
      repeat wtm_at "mine st"
      refine ⟨fun zz => ?_, fun z => (Bool.false_ne_true z.symm).elim⟩
      refine g_cons ?_
      unfold CompW
      repeat wtm_at "mine st"
      refine comp_in (K3 _ _ q2) (.inl rfl) (fun acc2 ys2 h4 => ∃ d1 d2 : List Int, l = d1 ++ d2 ∧ ys2 = d2.map V.int ∧ acc2 = d1.map V.int ∧ Keep h2 h4) ⟨[], l, rfl, rfl, rfl, K3⟩ ?_ ?_
      · intro acc2 y2 ys2 h4 zq
        (revert zq; refine xe2 fun d1 d2 zq1 => ?_; revert zq1; refine ae4 fun ed ey ea2 K4 => ?_)
        cases d2 with
        | nil => cases ey
        | cons v d2 =>
        cases ey
        repeat wtm_at "mine st"
        refine ⟨fun zz => ?_, fun z => (Bool.false_ne_true z.symm).elim⟩
        repeat wtm_at "mine st"
        exact ⟨K4 _ _ q2, d1 ++ [v], d2, by rw [ed]; simp, rfl, by rw [ea2]; simp, K4⟩
      · intro acc2 h4 zq
        (revert zq; refine xe2 fun d1 d2 zq1 => ?_; revert zq1; refine ae4 fun ed ey ea2 K4 => ?_)
        cases d2 with
        | cons _ _ => cases ey
        | nil =>
        rw [List.append_nil] at ed
        subst ed
        refine ⟨K4 _ _ e2, ls1 ++ [l], ls2, by rw [el]; simp, by simpa using hlen, fun p hp => hz p (List.mem_cons_of_mem _ hp), by rw [ea, ea2]; simp, K4⟩
    · refine fun acc h3 hh => ex2 hh fun ls1 ls2 hh => and5 hh fun el hlen zz ea K3 => ?_
      cases ls2 with
      | cons _ _ => simp at hlen
      | nil =>
      rw [List.append_nil] at el
      rw [← el] at ea
      have hflat : (γ.map fun e => sortI e.mem).flatMap id = γ.flatMap fun e => sortI e.mem := by rw [List.flatMap_map]; rfl
      rw [hflat] at ea
      rw [ea]
      refine p_newL (lim_of (by rw [List.length_map]; omega)) fun fa h4 K4 n4 e4 => ?_
      repeat wtm_at "mine st"
      refine c_sorted (p_sorted_ints e4 (by omega) fun s1 h5 K5 n5 e5 => ?_)
      have K25 := (K3.trans K4).trans K5
      (refine xe2 (fun eb ed zq1 => ?_) (Lf.keep (K.trans K25)); revert zq1; refine ae2 fun f1 f2 => ?_)
      repeat wtm_at "mine st"
      refine c_sorted (p_sorted_dict f1 (by unfold bornK; rw [List.length_map]; rw [keys_len] at hk; omega) fun s2 h6 K6 n6 e6 => ?_)
      rw [born_keys] at e6
      refine p_ne (eq_ints (K6 _ _ e5) e6) ?_
      rw [decide_eq_true (sortI_congr ((flat_sort γ).trans (by rw [← flat_sh]; exact I.s.part)))]
      repeat wtm_at "mine st"
      refine ⟨fun z => (Bool.false_ne_true z).elim, fun zz => ?_⟩
      have K26 := K25.trans K6
      have G6 := G2.keep K26
      repeat wtm_at "mine st"
      refine p_attr_near G6.inst G6.ns ?_
      repeat wtm_at "mine st"
      refine c_sorted (p_sorted_dict (K26 _ _ (K _ _ hn)) (by unfold nearK; rw [List.length_map]; omega) fun s3 h7 K7 n7 e7 => ?_)
      have G7 := G6.keep K7
      repeat wtm_at "mine st"
      refine p_attr_mem G7.inst G7.ns ?_
      repeat wtm_at "mine st"
      refine c_sorted (p_sorted_dict (K7 _ _ (K26 _ _ (K _ _ hm))) (by unfold memK; rw [List.length_map]; omega) fun s4 h8 K8 n8 e8 => ?_)
      have k1 : (nearK γ).map (·.1) = nodes γ := by unfold nearK; rw [List.map_map]; rfl
      have k2 : (memK γ).map (·.1) = nodes γ := by unfold memK; rw [List.map_map]; rfl
      rw [k1] at e7
      rw [k2] at e8
      refine p_ne (eq_ints (K8 _ _ e7) e8) ?_
      rw [decide_eq_true rfl]
      repeat wtm_at "mine st"
      refine ⟨fun z => (Bool.false_ne_true z).elim, fun zz => ?_⟩
      repeat wtm_at "mine st"
      refine ⟨fun z => (Bool.false_ne_true z).elim, fun zz => ?_⟩
      have K28 := (K26.trans K7).trans K8
      have γne : γ ≠ [] := fun z => hne (by
        have := I.s.part.length_eq
        rw [flat_sh, z] at this
        exact List.length_eq_zero_iff.mp this.symm)
      have X8 := X.keep K28
      rw [← grp_sh] at X8
      repeat wtm_at "mine st"
      refine c_sorted (p_sorted_refs (K28 _ _ e2) X8 (fun z => γne (by have := congrArg List.length z; unfold grp sh at this; rw [List.length_map, List.length_map] at this; exact List.length_eq_zero_iff.mp this)) ?_ ?_ fun c h9 ys K9 n9 e9 X9 => ?_)
      · unfold grp sh; rw [List.length_map, List.length_map]; omega
      · rw [grp_sh]
        have ndg : γ.Nodup := by
          have := I.nodes
          unfold nodes at this
          exact (List.pairwise_map.mp this).imp fun h z => h (congrArg GE.node z)
        refine nodup_map_on ndg fun a ha b hb z => ?_
        have s1 := I.s.self _ (mem_sh ha)
        exact (I.uniq lo ha hb s1 (mem_sortI.mp (z ▸ mem_sortI.mpr s1))).symm
      · repeat wtm_at "mine st"
        exact q c ys h9 ((K.trans K28).trans K9) e9 X9
end

open PySem PySem.W PyProof.Rows

/- parts of the registers -/
structure InvJ (Λ : Life) (S : List (List Int)) : Prop where
  flat : (S.flatMap id).Perm (keys Λ)
  ne : ∀ l ∈ S, l ≠ []
theorem flat_nodup : ∀ {S : List (List Int)}, (S.flatMap id).Nodup → (∀ l ∈ S, l ≠ []) → S.Nodup
  | [], _, _ => List.Pairwise.nil
  | a :: S, nd, ne => by
    rw [List.flatMap_cons, List.nodup_append] at nd
    rw [List.nodup_cons]
    refine ⟨fun z => ?_, flat_nodup nd.2.1 fun l hl => ne l (List.mem_cons_of_mem _ hl)⟩
    cases ha : a with
    | nil => exact ne a List.mem_cons_self ha
    | cons x b =>
      have hx : x ∈ id a := by rw [ha]; exact List.mem_cons_self
      exact nd.2.2 x hx x (List.mem_flatMap.mpr ⟨a, z, hx⟩) rfl
theorem flat_count : ∀ {S : List (List Int)}, (∀ l ∈ S, l ≠ []) → S.length ≤ (S.flatMap id).length
  | [], _ => Nat.le_refl _
  | a :: S, ne => by
    have := flat_count fun l hl => ne l (List.mem_cons_of_mem _ hl)
    have h1 := List.length_pos_iff.mpr (ne a List.mem_cons_self)
    rw [List.flatMap_cons, List.length_append, List.length_cons]
    show _ ≤ a.length + _
    omega
section
variable {k : Nat} {Λ : Life} {S : List (List Int)} {R : List Row}
theorem InvJ.nodup (x : InvJ Λ S) (lo : LifeOk k Λ) : S.Nodup := flat_nodup (x.flat.nodup_iff.mpr lo.nodup) x.ne
theorem InvJ.part (x : InvJ Λ S) {v : Int} (hv : v ∈ keys Λ) : S.find? (fun l => decide (v ∈ l)) = some (Mine.part v S) ∧ Mine.part v S ∈ S ∧ v ∈ Mine.part v S := by
  (refine xe1 (fun l zq1 => ?_) (List.mem_flatMap.mp (x.flat.mem_iff.mpr hv)); revert zq1; refine ae2 fun hl h => ?_)
  unfold Mine.part
  cases q : S.find? fun l => decide (v ∈ l) with
  | none => rw [List.find?_eq_none] at q; exact absurd (decide_eq_true h) (q l hl)
  | some r => exact ⟨rfl, List.mem_of_find?_eq_some q, by have := List.find?_some q; exact of_decide_eq_true this⟩
theorem InvJ.sub (x : InvJ Λ S) {l : List Int} (hl : l ∈ S) : ∀ v ∈ l, v ∈ keys Λ := fun v hv => x.flat.mem_iff.mp (List.mem_flatMap.mpr ⟨l, hl, hv⟩)
theorem InvJ.len (x : InvJ Λ S) : S.length ≤ (keys Λ).length := x.flat.length_eq ▸ flat_count x.ne
theorem InvJ.llen (x : InvJ Λ S) {l : List Int} (hl : l ∈ S) : l.length ≤ (keys Λ).length := by
  have : ∀ {S : List (List Int)}, l ∈ S → l.length ≤ (S.flatMap id).length := by
    intro S
    induction S with
    | nil => intro h; cases h
    | cons a S ih =>
      intro h
      rw [List.flatMap_cons, List.length_append]
      rcases List.mem_cons.mp h with rfl | h
      · show l.length ≤ l.length + _; omega
      · have := ih h; omega
  exact x.flat.length_eq ▸ this hl
theorem InvJ.join (x : InvJ Λ S) {one two : List Int} (h1 : one ∈ S) (h2 : two ∈ S) (hne : one ≠ two) : InvJ Λ ((S.erase one).erase two ++ [sortI (one ++ two)]) := by
  have p1 := List.perm_cons_erase h1
  have p2 := List.perm_cons_erase ((List.mem_erase_of_ne (Ne.symm hne)).mpr h2)
  have p := p1.trans (p2.cons _)
  generalize (S.erase one).erase two = τ at p
  refine ⟨?_, fun l hl => ?_⟩
  · have f := (List.Perm.flatMap_right id p).symm.trans x.flat
    rw [List.flatMap_cons, List.flatMap_cons, ← List.append_assoc] at f
    rw [List.flatMap_append]
    refine List.Perm.trans ?_ f
    refine List.perm_append_comm.trans ?_
    rw [List.flatMap_cons, List.flatMap_nil, List.append_nil]
    exact (sortI_perm _).append_right _
  · rcases List.mem_append.mp hl with hl | hl
    · exact x.ne l (p.mem_iff.mpr (List.mem_cons_of_mem _ (List.mem_cons_of_mem _ hl)))
    · rw [List.mem_singleton.mp hl]
      intro z
      have := congrArg List.length z
      rw [(sortI_perm _).length_eq, List.length_append, List.length_nil] at this
      exact x.ne one h1 (List.length_eq_zero_iff.mp (by omega))
theorem invJ (wf : Wf R) : ∀ i, InvJ (lifeK R R.length) (joinedK R (lifeK R R.length) i).1
  | 0 => by
    show InvJ _ ((sortI (keys (lifeK R R.length))).map fun v => [v])
    refine ⟨?_, fun l hl => ?_⟩
    · have : ∀ l : List Int, (l.map fun v => [v]).flatMap id = l := fun l => by
        induction l with
        | nil => rfl
        | cons a l ih => rw [List.map_cons, List.flatMap_cons, ih]; rfl
      rw [this]; exact sortI_perm _
    · (refine xe1 (fun v zq1 => ?_) (List.mem_map.mp hl); revert zq1; refine ae2 fun zz zq2 => ?_; subst zq2)
      exact List.cons_ne_nil _ _
  | i + 1 => by
    have ih := invJ wf i
    cases e : R[i]? with
    | none => show InvJ _ (match R[i]? with | some r => _ | none => _ : List (List Int) × Nat).1; rw [e]; exact ih
    | some r =>
      by_cases hc : r.1 = sCopy
      · rw [joinedK_copy e hc]
        unfold jstep
        split
        · rename_i z
          have hx := row_keys wf e (.inr ⟨fun z => absurd (hc.symm.trans z) (by decide), rfl⟩)
          have hy := row_keys wf e (s := r.2.2.1) (.inl (by rw [src_copy hc]; exact List.mem_cons_self))
          exact ih.join (ih.part hx).2.1 (ih.part hy).2.1 z.1
        · exact ih
      · rw [joinedK_same e hc]; exact ih
end

section
variable {cl : Str → List V → M V} {m m0 : L} {h : H}
theorem compW_pick {it : Expr} {x : Str} {p : Pos} {ifs : List Expr} {Q : List V → H → Prop} {S : List (List Int)} {z : Int} {l : List Int} (hz : S.find? (fun l => decide (z ∈ l)) = some l) (hS : S.length ≤ 1000)
    (w : W (evalA cl it m0) h fun src h1 => ∃ a xs, src = .ref a ∧ h1[a]? = some (.list xs) ∧ Refs h1 xs S ∧ (∀ v l h2, Keep h1 h2 → listAt h2 v = some l → W (condsA cl ifs (upd m x v)) h2 fun c h3 => c = decide (z ∈ l) ∧ Keep h2 h3) ∧
      ∀ v vs h2, Keep h1 h2 → listAt h2 v = some l → (v :: vs).length ≤ 1000 → Q (v :: vs) h2) : CompW cl it m0 m x ifs [] (.Name x p) h Q := by
  refine W_mono w fun src h1 zq => ?_
  (revert zq; refine xe2 fun a xs zq1 => ?_; revert zq1; refine ae5 fun e1 e2 X cd fin => ?_)
  subst e1
  refine comp_in (e2) (.inl rfl) (fun acc ys h2 => ∃ S1 S2, S = S1 ++ S2 ∧ ys.length = S2.length ∧ (∀ p ∈ S2.zip ys, listAt h1 p.2 = some p.1) ∧ Keep h1 h2 ∧ acc.length ≤ S1.length ∧ ((S1.find? (fun l => decide (z ∈ l)) = none ∧ acc = []) ∨ ∃ v vs, acc = v :: vs ∧ listAt h1 v = some l)) ⟨[], S, rfl, X.1, X.2, Keep.refl _, Nat.le_refl _, .inl ⟨rfl, rfl⟩⟩ ?_ ?_
  · refine fun acc y ys h2 hh => ex2 hh fun S1 S2 hh => and6 hh fun eS hl hp K ha hq => ?_
    cases S2 with
    | nil => simp at hl
    | cons l' S2 =>
    have hy : listAt h1 y = some l' := hp (l', y) List.mem_cons_self
    refine W_mono (cd y l' h2 K (listAt_keep K hy)) fun c h3 zq => ?_
    (revert zq; refine ae2 fun hc K3 => ?_)
    have K13 := K.trans K3
    have rest : ys.length = S2.length ∧ (∀ p ∈ S2.zip ys, listAt h1 p.2 = some p.1) := ⟨by simpa using hl, fun p h => hp p (List.mem_cons_of_mem _ h)⟩
    refine ⟨fun t => ?_, fun t => ⟨K13 _ _ e2, S1 ++ [l'], S2, by rw [eS]; simp, rest.1, rest.2, K13, by rw [List.length_append]; omega, ?_⟩⟩
    · refine g_nil (e_Name upd_same ⟨K13 _ _ e2, S1 ++ [l'], S2, by rw [eS]; simp, rest.1, rest.2, K13, by rw [List.length_append, List.length_append]; simp; omega, .inr ?_⟩)
      rcases hq with ⟨q1, rfl⟩ | ⟨v, vs, rfl, q2⟩
      · refine ⟨y, [], rfl, ?_⟩
        have : S.find? (fun l => decide (z ∈ l)) = some l' := by
          rw [eS, List.find?_append, q1, List.find?_cons_of_pos (p := fun l => decide (z ∈ l)) (by rw [← hc]; exact t)]; rfl
        rw [hz] at this
        cases this
        exact hy
      · exact ⟨v, vs ++ [y], rfl, q2⟩
    · rcases hq with ⟨q1, rfl⟩ | q2
      · refine .inl ⟨?_, rfl⟩
        rw [List.find?_append, q1, List.find?_cons_of_neg (p := fun l => decide (z ∈ l)) (by rw [← hc, t]; decide)]; rfl
      · exact .inr q2
  · refine fun acc h2 hh => ex2 hh fun S1 S2 hh => and6 hh fun eS hl zz K ha hq => ?_
    cases S2 with
    | cons _ _ => simp at hl
    | nil =>
    rw [List.append_nil] at eS
    subst eS
    rcases hq with ⟨q1, _⟩ | ⟨v, vs, rfl, q2⟩
    · rw [hz] at q1; cases q1
    · exact fin v vs h2 K (listAt_keep K q2) (Nat.le_trans ha hS)
theorem compW_ones {it : Expr} {x : Str} {p q : Pos} {Q : List V → H → Prop} {l : List Int}
    (w : W (evalA cl it m0) h fun src h1 => ∃ a, src = .ref a ∧ h1[a]? = some (.list (l.map .int)) ∧ ∀ ys h2, Keep h1 h2 → Refs h2 ys (l.map fun v => [v]) → (∀ v ∈ ys, ∃ c, v = .ref c ∧ h1[c]? = none ∧ h2[c]? ≠ none) → Q ys h2) : CompW cl it m0 m x [] [] (.List [.Name x p] q) h Q := by
  refine W_mono w fun src h1 zq => ?_
  (revert zq; refine xe1 fun a zq1 => ?_; revert zq1; refine ae3 fun e1 e2 fin => ?_)
  subst e1
  refine comp_in (e2) (.inl rfl) (fun acc ys h2 => ∃ l1 l2, l = l1 ++ l2 ∧ ys = l2.map V.int ∧ Keep h1 h2 ∧ Refs h2 acc (l1.map fun v => [v]) ∧ (∀ v ∈ acc, ∃ c, v = .ref c ∧ h1[c]? = none ∧ h2[c]? ≠ none)) ⟨[], l, rfl, rfl, Keep.refl _, ⟨rfl, fun p h => (nomatch h)⟩, fun v h => (nomatch h)⟩ ?_ ?_
  · refine fun acc y ys h2 hh => ex2 hh fun l1 l2 hh => and5 hh fun el ey K X ff => ?_
    cases l2 with
    | nil => cases ey
    | cons v l2 =>
    cases ey
    refine cd_none ⟨fun zz => ?_, fun z => (Bool.false_ne_true z.symm).elim⟩
    refine g_nil (e_List (es_cons (e_Name upd_same (es_nil (p_newL (lim_c (by kernel_rfl)) fun c h3 K3 n3 e3 => ?_)))))
    refine ⟨(K.trans K3) _ _ e2, l1 ++ [v], l2, by rw [el]; simp, rfl, K.trans K3, ?_, fun u hu => ?_⟩
    · rw [List.map_append]
      exact (X.keep K3).add (l := [v]) e3
    · rcases List.mem_append.mp hu with hu | hu
      · (refine xe1 (fun c zq1 => ?_) (ff u hu); revert zq1; refine ae3 fun z1 z2 z3 => ?_)
        refine ⟨c, z1, z2, ?_⟩
        cases q : h2[c]? with
        | none => exact absurd q z3
        | some o => rw [K3 _ _ q]; exact fun z => nomatch z
      · exact ⟨c, List.mem_singleton.mp hu, K.dead n3, by rw [e3]; exact fun z => nomatch z⟩
  · refine fun acc h2 hh => ex2 hh fun l1 l2 hh => and5 hh fun el ey K X ff => ?_
    cases l2 with
    | cons _ _ => cases ey
    | nil =>
    rw [List.append_nil] at el
    subst el
    exact fin acc h2 K X ff
end
theorem Refs.upd {h h1 : H} {xs : List V} {S : List (List Int)} (x : Refs h xs S) {a : Nat} {o : O} (u : Upd a o h h1) (n : ∀ v ∈ xs, v ≠ .ref a) : Refs h1 xs S := by
  refine ⟨x.1, fun p hp => ?_⟩
  (refine xe2 (fun i zs zq1 => ?_) (listAt_some (x.2 p hp)); revert zq1; refine ae3 fun q1 q2 q3 => ?_)
  have hv : p.2 ∈ xs := (List.of_mem_zip (a := p.1) (b := p.2) hp).2
  have hi : i ≠ a := fun z => n _ hv (by rw [q1, z])
  rw [q1]
  show (match h1[i]? with | some (.list xs) => intsOf xs | _ => none) = _
  rw [u.other q2 hi, q3]
  exact map_intsOf _
theorem zip_erase {α β : Type} : ∀ {xs : List α} {ys : List β} {i : Nat} {p : α × β}, p ∈ (xs.eraseIdx i).zip (ys.eraseIdx i) → p ∈ xs.zip ys
  | [], _, _, _, h => by cases h
  | _ :: _, [], i, _, h => by cases i <;> simp at h
  | x :: xs, y :: ys, 0, p, h => List.mem_cons_of_mem _ h
  | x :: xs, y :: ys, i + 1, p, h => by
    rw [List.eraseIdx_cons_succ, List.eraseIdx_cons_succ, List.zip_cons_cons] at h
    rcases List.mem_cons.mp h with rfl | h
    · exact List.mem_cons_self
    · exact List.mem_cons_of_mem _ (zip_erase h)
theorem Refs.erase {h : H} {xs : List V} {S : List (List Int)} (x : Refs h xs S) (c : List Int) : Refs h (xs.eraseIdx (S.idxOf c)) (S.erase c) := by
  rw [List.erase_eq_eraseIdx_of_idxOf (a := c) (l := S) rfl]
  refine ⟨?_, fun p hp => x.2 p (zip_erase hp)⟩
  rw [List.length_eraseIdx, List.length_eraseIdx, x.1]

section
variable {h : H} {k : Nat} {Q : V → H → Prop} {R : List Row} {vs : List V} {ra ba da : Nat}
theorem w_joined (hr : h[ra]? = some (.list vs)) (A : RowsAt h vs R) (wf : Wf R) (Lf : LifeAt h ba da (lifeK R R.length)) (hne : keys (lifeK R R.length) ≠ [])
    (q : ∀ c r ys h1, Keep h h1 → h1[c]? = some (.tuple [.ref r, .int (joinedK R (lifeK R R.length) R.length).2]) → h1[r]? = some (.list ys) → Refs h1 ys (sortL (joinedK R (lifeK R R.length) R.length).1) → Q (.ref c) h1) :
    W (callA pw (k + 3) (Str.ofString "_law_joined") [.ref ra, .ref ba, .ref da]) h Q := by
  have lo := lifeOk wf R.length
  have hlen : vs.length ≤ 30 := A.1 ▸ wf.len
  have J := invJ wf
  have rk := fun (i : Nat) (r : Row) (e : R[i]? = some r) (s : Int) => row_keys wf e (s := s)
  have hk : (keys (lifeK R R.length)).length ≤ 30 := by rw [keys_len]; exact Nat.le_trans (lifeK_len _ _) wf.len
  generalize lifeK R R.length = Λ at Lf q lo J rk hk hne
  refine call_W (ps := [Str.ofString "made", Str.ofString "born", Str.ofString "dies"]) (by kernel_rfl) (by kernel_rfl) rfl (by kernel_rfl) rfl ?_
  wtm_at "mine st"
  refine e_Comp (compW_ones (l := sortI (keys Λ)) ?_)
  (refine xe2 (fun eb ed zq1 => ?_) (id Lf); revert zq1; refine ae2 fun f1 f2 => ?_)
  repeat wtm_at "mine st"
  refine c_sorted (p_sorted_dict f1 (by unfold bornK; rw [List.length_map]; rw [keys_len] at hk; omega) fun sa h1 K1 n1 e1 => ?_)
  rw [born_keys] at e1
  refine ⟨sa, rfl, e1, fun ys h2 K2 X2 ff => ?_⟩
  refine p_newL (lim_of (by rw [X2.1, List.length_map, (sortI_perm _).length_eq]; omega)) fun ta h3 K3 n3 e3 => ?_
  have K13 := (K1.trans K2).trans K3
  repeat wtm_at "mine st"
  refine s_ForList (by kernel_rfl) ?_
  repeat wtm_at "mine st"
  refine ⟨_, _, rfl, K13 _ _ hr, fun ys m h4 => ∃ i xs, ys = vs.drop i ∧ i ≤ R.length ∧ Keep h h4 ∧ h4[ta]? = some (.list xs) ∧ Refs h4 xs (joinedK R Λ i).1 ∧ (∀ v ∈ xs, v ≠ .ref ta) ∧
      Hs m "made" (.ref ra) ∧ Hs m "born" (.ref ba) ∧ Hs m "dies" (.ref da) ∧ Hs m "sets_of" (.ref ta) ∧ Hs m "joins" (.int (joinedK R Λ i).2),
    ⟨0, ys, rfl, Nat.zero_le _, K13, e3, X2.keep K3, fun v hv z => ?_, by wtm_at "mine nm", by wtm_at "mine nm", by wtm_at "mine nm", by wtm_at "mine nm", by wtm_at "mine nm"⟩, ?_, ?_⟩
  · (refine xe1 (fun c zq1 => ?_) (ff v hv); revert zq1; refine ae3 fun z1 zz z3 => ?_)
    rw [z1] at z
    cases z
    exact z3 n3
  have nta : h[ta]? = none := (K1.trans K2).dead n3
  · refine fun y ys m h4 hh => ex2 hh fun i xs hh => and11 hh fun e hi K e4 X nx m1 m2 m3 m4 m5 => ?_
    (refine ae2 (fun hv hys => ?_) (drop_at e))
    have hil : i < R.length := by rw [← A.1]; exact (List.getElem?_eq_some_iff.mp hv).1
    have hri : R[i]? = some R[i] := List.getElem?_eq_getElem hil
    (refine xe1 (fun a zq1 => ?_) (A.2 i _ hri); revert zq1; refine ae2 fun hva har => ?_)
    rw [hv] at hva
    cases hva
    generalize R[i] = r at hri har
    have Ji := J i
    have har4 := K _ _ har
    have Slen := Ji.len
    refine ab_in fun zz zz => ?_
    refine s_IfJ (fun m' h' => m' = upd m (Str.ofString "entry") (.ref a) ∧ h' = h4 ∧ r.1 = sCopy) ?_ ?_
    · repeat wtm_at "mine st"
      refine p_row0 har4 ?_
      repeat wtm_at "mine st"
      refine p_ne (r := decide (r.1 = sCopy)) rfl ?_
      wtm_at "mine st"
      refine ⟨fun t => ?_, fun t => ?_⟩
      · repeat wtm_at "mine st"
        refine ⟨K _ _ hr, i + 1, xs, hys, hil, K, e4, ?_, nx, ?_, ?_, ?_, ?_, ?_⟩
        · rw [joinedK_same hri (of_decide_eq_false (nbt t))]; exact X
        rotate_right
        · rw [joinedK_same hri (of_decide_eq_false (nbt t))]; wtm_at "mine nm"
        all_goals wtm_at "mine nm"
      · repeat wtm_at "mine st"
        exact ⟨rfl, rfl, of_decide_eq_true (nbf t)⟩
    intro m' h' zq
    (revert zq; refine ae3 fun hm' hh' hc => ?_)
    rw [hm', hh']
    clear hm' hh'
    have hx : r.2.1 ∈ keys Λ := rk i r hri _ (.inr ⟨fun z => absurd (hc.symm.trans z) (by decide), rfl⟩)
    have hy : r.2.2.1 ∈ keys Λ := rk i r hri _ (.inl (by rw [src_copy hc]; exact List.mem_cons_self))
    (refine ae3 (fun p1 p2 p3 => ?_) (Ji.part hx))
    (refine ae3 (fun r1 r2 r3 => ?_) (Ji.part hy))
    have hstep := joinedK_copy (Λ := Λ) hri hc
    unfold jstep at hstep
    generalize hone : part r.2.1 (joinedK R Λ i).1 = one at p1 p2 p3 hstep
    generalize htwo : part r.2.2.1 (joinedK R Λ i).1 = two at r1 r2 r3 hstep
    generalize hSi : (joinedK R Λ i).1 = S at X Ji Slen p1 p2 r1 r2 hstep
    repeat wtm_at "mine st"
    refine e_Comp (compW_pick p1 (by omega) ?_)
    repeat wtm_at "mine st"
    refine ⟨_, _, rfl, e4, X, fun v l h5 K5 hl => ?_, fun v vs' h5 K5 hl hle => ?_⟩
    · (refine xe2 (fun pa zs zq1 => ?_) (listAt_some hl); revert zq1; refine ae3 fun q1 q2 q3 => ?_)
      subst q1 q3
      repeat wtm_at "mine st"
      refine p_row1 (K5 _ _ har4) ?_
      repeat wtm_at "mine st"
      refine p_in (in_list q2) ?_
      repeat wtm_at "mine st"
      refine ⟨fun t => ?_, fun t => ⟨t.symm, Keep.refl _⟩⟩
      repeat wtm_at "mine st"
      exact ⟨t.symm, Keep.refl _⟩
    (refine xe2 (fun oa zs zq1 => ?_) (listAt_some hl); revert zq1; refine ae3 fun q1 q2 q3 => ?_)
    subst q1 q3
    refine p_newL (lim_of hle) fun c6 h6 K6 n6 e6 => ?_
    repeat wtm_at "mine st"
    refine p_item_list (i := 0) e6 (lim_of hle) ⟨by decide, rfl⟩ ?_
    have oa6 := K6 _ _ q2
    have K46 := K5.trans K6
    repeat wtm_at "mine st"
    refine e_Comp (compW_pick r1 (by omega) ?_)
    repeat wtm_at "mine st"
    refine ⟨_, _, rfl, K46 _ _ e4, X.keep K46, fun v l h7 K7 hl => ?_, fun v vs' h7 K7 hl hle => ?_⟩
    · (refine xe2 (fun pa zs zq1 => ?_) (listAt_some hl); revert zq1; refine ae3 fun q1 q2 q3 => ?_)
      subst q1 q3
      repeat wtm_at "mine st"
      refine p_row2 (K7 _ _ (K46 _ _ har4)) ?_
      repeat wtm_at "mine st"
      refine p_in (in_list q2) ?_
      repeat wtm_at "mine st"
      refine ⟨fun t => ?_, fun t => ⟨t.symm, Keep.refl _⟩⟩
      repeat wtm_at "mine st"
      exact ⟨t.symm, Keep.refl _⟩
    (refine xe2 (fun wa zs zq1 => ?_) (listAt_some hl); revert zq1; refine ae3 fun q1 q2' q3 => ?_)
    subst q1 q3
    refine p_newL (lim_of hle) fun c8 h8 K8 n8 e8 => ?_
    repeat wtm_at "mine st"
    refine p_item_list (i := 0) e8 (lim_of hle) ⟨by decide, rfl⟩ ?_
    have K68 := K7.trans K8
    have K48 := K46.trans K68
    have oa8 := K68 _ _ oa6
    have wa8 := K8 _ _ q2'
    repeat wtm_at "mine st"
    refine p_ne (eq_ints oa8 wa8) ?_
    wtm_at "mine st"
    have stay : ∀ h9, Keep h4 h9 → (one = two ∨ clash Λ one two = true) → ∀ m' : Mine.L, Hs m' "made" (.ref ra) → Hs m' "born" (.ref ba) → Hs m' "dies" (.ref da) → Hs m' "sets_of" (.ref ta) → Hs m' "joins" (.int (joinedK R Λ i).2) →
        h9[ra]? = some (.list vs) ∧ ∃ i xs, ys = vs.drop i ∧ i ≤ R.length ∧ Keep h h9 ∧ h9[ta]? = some (.list xs) ∧ Refs h9 xs (joinedK R Λ i).1 ∧ (∀ v ∈ xs, v ≠ .ref ta) ∧
          Hs m' "made" (.ref ra) ∧ Hs m' "born" (.ref ba) ∧ Hs m' "dies" (.ref da) ∧ Hs m' "sets_of" (.ref ta) ∧ Hs m' "joins" (.int (joinedK R Λ i).2) := fun h9 K9 hno m' b1 b2 b3 b4 b5 => by
      rw [if_neg fun z => hno.elim z.1 fun w => by rw [w] at z; cases z.2] at hstep
      refine ⟨(K.trans K9) _ _ hr, i + 1, xs, hys, hil, K.trans K9, K9 _ _ e4, ?_, nx, b1, b2, b3, b4, by rw [hstep]; exact b5⟩
      rw [hstep, hSi]
      exact X.keep K9
    refine ⟨fun t => ⟨fun z => (Bool.false_ne_true z).elim, fun zz => ?_⟩, fun t => ?_⟩
    · repeat wtm_at "mine st"
      exact stay h8 K48 (.inl (of_decide_eq_true (nbf t))) _ (by wtm_at "mine nm") (by wtm_at "mine nm") (by wtm_at "mine nm") (by wtm_at "mine nm") (by wtm_at "mine nm")
    have hdiff : one ≠ two := of_decide_eq_false (nbt t)
    repeat wtm_at "mine st"
    refine w_clash (Lf.keep (K.trans K48)) oa8 wa8 (Ji.sub p2) (Ji.sub r2) fun h9 K9 => ?_
    have K49 := K48.trans K9
    repeat wtm_at "mine st"
    refine ⟨fun t2 => ⟨fun z => (Bool.false_ne_true z).elim, fun zz => ?_⟩, fun t2 => ?_⟩
    · repeat wtm_at "mine st"
      exact stay h9 K49 (.inr (nbf t2)) _ (by wtm_at "mine nm") (by wtm_at "mine nm") (by wtm_at "mine nm") (by wtm_at "mine nm") (by wtm_at "mine nm")
    have hcl := nbt t2
    rw [if_pos ⟨hdiff, hcl⟩] at hstep
    repeat wtm_at "mine st"
    refine ⟨fun zz => ?_, fun z => (Bool.false_ne_true z.symm).elim⟩
    have X9 := X.keep K49
    have e9 := K49 _ _ e4
    have oa9 := K9 _ _ oa8
    have wa9 := K9 _ _ wa8
    have xlen : xs.length < 1000 := by rw [X.1]; omega
    have lat : ∀ {a : Nat} {l : List Int} {h : H}, h[a]? = some (.list (l.map .int)) → listAt h (.ref a) = some l := fun {a l h} e => by
      show (match h[a]? with | some (.list xs) => intsOf xs | _ => none) = _
      rw [e]; exact map_intsOf l
    have tane : ∀ {b : Nat} {l : List Int}, h9[b]? = some (.list (l.map .int)) → b ≠ ta := fun {b l} hb z => by
      rw [z, e9] at hb
      have hb := congrArg (fun o => match o with | some (O.list xs) => intsOf xs | _ => none) hb
      dsimp only at hb
      rw [X9.noInts (fun z => by rw [z] at p2; cases p2), map_intsOf] at hb
      cases hb
    repeat wtm_at "mine st"
    refine m_list e9 ?_
    repeat wtm_at "mine st"
    refine p_remove e9 (lim_lt xlen) X9.lists (lat oa9) p2 fun h10 u10 => ⟨rfl, ?_⟩
    have nx1 : ∀ v ∈ xs.eraseIdx (S.idxOf one), v ≠ .ref ta := fun v hv => nx v (List.mem_of_mem_eraseIdx hv)
    have X10 := (X9.erase one).upd u10 nx1
    have K10 := (K.trans K49).upd u10 nta
    have wa10 := u10.other wa9 (tane wa9)
    have oa10 := u10.other oa9 (tane oa9)
    repeat wtm_at "mine st"
    refine m_list u10.1 ?_
    repeat wtm_at "mine st"
    refine p_remove u10.1 (lim_lt (by rw [X10.1]; have := List.length_erase_le (a := one) (l := S); omega)) X10.lists (lat wa10) ((List.mem_erase_of_ne (Ne.symm hdiff)).mpr r2) fun h11 u11 => ⟨rfl, ?_⟩
    have nx2 : ∀ v ∈ (xs.eraseIdx (S.idxOf one)).eraseIdx ((S.erase one).idxOf two), v ≠ .ref ta := fun v hv => nx1 v (List.mem_of_mem_eraseIdx hv)
    have X11 := (X10.erase two).upd u11 nx2
    have K11 := K10.upd u11 nta
    have wa11 := u11.other wa10 (tane wa9)
    have oa11 := u11.other oa10 (tane oa9)
    have l1 := Ji.llen p2
    have l2 := Ji.llen r2
    repeat wtm_at "mine st"
    refine m_list u11.1 ?_
    repeat wtm_at "mine st"
    refine p_addL oa11 wa11 (lim_of (by rw [List.length_map, List.length_map]; omega)) fun c12 h12 K12 n12 e12 => ?_
    rw [← List.map_append] at e12
    repeat wtm_at "mine st"
    refine c_sorted (p_sorted_ints e12 ?_ fun c13 h13 K13 n13 e13 => ?_)
    · rw [List.length_append]
      have f := Ji.flat.length_eq
      have := (Ji.join p2 r2 hdiff).llen (l := sortI (one ++ two)) (List.mem_append_right _ List.mem_cons_self)
      rw [(sortI_perm _).length_eq, List.length_append] at this
      omega
    have K1113 := K12.trans K13
    repeat wtm_at "mine st"
    refine p_append (K1113 _ _ u11.1) (lim_lt (by rw [X11.1]; have := List.length_erase_le (a := two) (l := S.erase one); have := List.length_erase_le (a := one) (l := S); omega)) fun h14 u14 => ⟨rfl, ?_⟩
    have c13ta : c13 ≠ ta := fun z => by
      have := K12 _ _ u11.1
      rw [z, this] at n13; cases n13
    have nx3 : ∀ v ∈ (xs.eraseIdx (S.idxOf one)).eraseIdx ((S.erase one).idxOf two) ++ [V.ref c13], v ≠ .ref ta := fun v hv => by
      rcases List.mem_append.mp hv with hv | hv
      · exact nx2 v hv
      · rw [List.mem_singleton.mp hv]
        exact fun z => c13ta (by cases z; rfl)
    have X14 := ((X11.keep K1113).add e13).upd u14 nx3
    have K14 := (K11.trans K1113).upd u14 nta
    refine s_AugAdd (a := (joinedK R Λ i).2) (by wtm_at "mine nm") ?_
    repeat wtm_at "mine st"
    refine ⟨1, rfl, ?_⟩
    repeat wtm_at "mine st"
    refine ⟨K14 _ _ hr, i + 1, _, hys, hil, K14, u14.1, by rw [hstep]; exact X14, nx3, ?_, ?_, ?_, ?_, ?_⟩
    rotate_right
    · rw [hstep]
      exact upd_same
    all_goals wtm_at "mine nm"
  · refine fun m h4 hh => ex2 hh fun i xs hh => and11 hh fun e hi K e4 X nx m1 m2 m3 m4 m5 => ?_
    have hvl : vs.length ≤ i := List.drop_eq_nil_iff.mp e.symm
    have : i = R.length := by rw [A.1] at hvl; omega
    subst this
    have JJ := J R.length
    have Slen := JJ.len
    repeat wtm_at "mine st"
    refine c_sorted (p_sorted_refs e4 X (fun z => hne ?_) (by omega) (JJ.nodup lo) fun c h5 ys K5 n5 e5 X5 => ?_)
    · have := JJ.flat.length_eq
      rw [z] at this
      exact List.length_eq_zero_iff.mp this.symm
    repeat wtm_at "mine st"
    refine p_newT (lim_c (by kernel_rfl)) fun d h6 K6 n6 e6 => ?_
    repeat wtm_at "mine st"
    exact q d c ys h6 ((K.trans K5).trans K6) e6 (K6 _ _ e5) (X5.keep K6)
end

open PySem PySem.W PyProof.Rows

theorem sortL_pair (a : List (List Int)) : (sortL a).Pairwise fun a b => lexLt b a = false := by
  have := List.pairwise_mergeSort (le := fun a b : List Int => !lexLt b a) (fun a b c h1 h2 => by rw [lexLt_tr a b c (nbt h1) (nbt h2)]; rfl) (fun a b => by
    cases e : lexLt b a with
    | false => rfl
    | true => rw [lexLt_as _ _ e]; rfl) a
  exact this.imp fun h => nbt h
theorem sortL_congr {a b : List (List Int)} (p : a.Perm b) : sortL a = sortL b :=
  List.Perm.eq_of_pairwise (le := fun a b => lexLt b a = false) (fun zz zz zz zz h1 h2 => lexLt_anti _ _ h2 h1) (sortL_pair a) (sortL_pair b) (((sortL_perm a).trans p).trans (sortL_perm b).symm)
theorem sortL_ones (l : List Int) : sortL ((sortI l).map fun v => [v]) = (sortI l).map fun v => [v] := by
  unfold sortL
  refine List.mergeSort_of_pairwise (List.pairwise_map.mpr ((sortI_pair l).imp fun {a b} h => ?_))
  have : lexLt [b] [a] = false := by
    unfold lexLt
    split
    · rfl
    · exact decide_eq_false (by omega)
  rw [this]; rfl
theorem eq_refs {h : H} {a b : Nat} {xs ys : List V} {S T : List (List Int)} (e1 : h[a]? = some (.list xs)) (e2 : h[b]? = some (.list ys)) (X : Refs h xs S) (Y : Refs h ys T) (ne : S ≠ []) : eqA h (.ref a) (.ref b) = some (decide (S = T)) := by
  show eqRefs h a b = _
  unfold eqRefs
  rw [e1, e2]
  show eqLs h xs ys = _
  unfold eqLs
  rw [X.noInts ne]
  show eqLL h xs ys = _
  unfold eqLL
  rw [X.lists, Y.lists]
  rfl
theorem eq_tups {h : H} {a b p r : Nat} {i j : Int} {xs ys : List V} {S T : List (List Int)} (e1 : h[a]? = some (.tuple [.ref p, .int i])) (e2 : h[b]? = some (.tuple [.ref r, .int j])) (e3 : h[p]? = some (.list xs)) (e4 : h[r]? = some (.list ys)) (X : Refs h xs S) (Y : Refs h ys T) :
    eqA h (.ref a) (.ref b) = some (decide (S = T) && decide (i = j)) := by
  show eqRefs h a b = _
  unfold eqRefs
  rw [e1, e2]
  show eqTs h (p, i) (r, j) = _
  unfold eqTs
  show ((asL h[p]?).bind fun xs => (asL h[r]?).bind fun ys => _) = _
  rw [e3, e4]
  show ((listsOf h xs).bind fun u => (listsOf h ys).map fun v => _) = _
  rw [X.lists, Y.lists]
  rfl
theorem p_is {a : V} {h : H} {Q : V → H → Prop} (q : Q (.bool (decide (a = .none))) h) : W (cmpA .Is a .none) h Q := ⟨_, h, by cases a <;> rfl, q⟩
theorem grp_start {Λ : Life} {γ0 : Gr} (b : Bare γ0 (sortI (keys Λ))) : grp (sh (outerI Λ (nodes γ0) (nodes γ0) γ0)) = (sortI (keys Λ)).map fun v => [v] := by
  (revert b; refine ae2 fun hn hb => ?_)
  unfold grp sh
  rw [List.map_map]
  rw [outer_map ((fun p : Int × List Int => sortI p.2) ∘ fun e : GE => (e.node, e.mem)) (fun zz zz => rfl), ← hn]
  unfold nodes
  rw [List.map_map]
  apply List.map_congr_left
  intro e he
  show sortI e.mem = [e.node]
  rw [(hb e he).2]; exact sortI_one _

section
variable {h : H} {k : Nat} {Q : V → H → Prop} {R : List Row} {vs : List V} {ra : Nat} {cnt : Int}
theorem w_good (hr : h[ra]? = some (.list vs)) (A : RowsAt h vs R) (wf : Wf R) (hne : keys (lifeK R R.length) ≠ []) (hc : 0 ≤ cnt) (q : ∀ h1, Keep h h1 → Q (.bool true) h1) : W (callA pw (k + 6) (Str.ofString "_law_good") [.ref ra, .int cnt]) h Q := by
  have lo := lifeOk wf R.length
  have hlen : vs.length ≤ 30 := A.1 ▸ wf.len
  have hk : (keys (lifeK R R.length)).length ≤ 30 := by rw [keys_len]; exact Nat.le_trans (lifeK_len _ _) wf.len
  refine call_W (ps := [Str.ofString "made", Str.ofString "count"]) (by kernel_rfl) (by kernel_rfl) rfl (by kernel_rfl) rfl ?_
  repeat wtm_at "mine st"
  refine w_lives hr A wf fun c ba da h1 K1 ec L1 => ?_
  refine p_unpack2 (x1 := Str.ofString "born") (x2 := Str.ofString "dies") (by kernel_rfl) (by kernel_rfl) ec ?_
  repeat wtm_at "mine st"
  refine c_list (p_copy (.inl (K1 _ _ hr)) (lim_of (by omega)) fun r2 h2 K2 n2 e2 => ?_)
  have K02 := K1.trans K2
  repeat wtm_at "mine st"
  refine w_interference e2 (A.keep K02) wf fun g d nr mr γ0 h3 K3 b N3 G3 => ?_
  have S0 := St.start (R := R) (cnt := cnt) lo b
  have gs := grp_start b
  generalize outerI (lifeK R R.length) (nodes γ0) (nodes γ0) γ0 = γ1 at N3 G3 S0 gs
  clear b γ0
  have K03 := K02.trans K3
  repeat wtm_at "mine st"
  refine w_right G3 (K03 _ _ hr) (A.keep K03) wf (L1.keep (K2.trans K3)) lo S0.inv hk hne fun c1 ys1 h4 K4 e4 X4 => ?_
  rw [gs, sortL_ones] at X4
  (refine xe2 (fun eb ed zq1 => ?_) (L1.keep ((K2.trans K3).trans K4)); revert zq1; refine ae2 fun f1 f2 => ?_)
  refine e_Comp (compW_ones (l := sortI (keys (lifeK R R.length))) ?_)
  repeat wtm_at "mine st"
  refine c_sorted (p_sorted_dict f1 (by unfold bornK; rw [List.length_map]; rw [keys_len] at hk; omega) fun sa h5 K5 n5 e5 => ?_)
  rw [born_keys] at e5
  refine ⟨sa, rfl, e5, fun ys h6 K6 X6 zz => ?_⟩
  refine p_newL (lim_of (by rw [X6.1, List.length_map, (sortI_perm _).length_eq]; omega)) fun ta h7 K7 n7 e7 => ?_
  have K47 := (K5.trans K6).trans K7
  have one_ne : (sortI (keys (lifeK R R.length))).map (fun v => [v]) ≠ [] := fun z => hne (by
    have := congrArg List.length z
    rw [List.length_map, (sortI_perm _).length_eq] at this
    exact List.length_eq_zero_iff.mp this)
  refine p_ne (eq_refs (K47 _ _ e4) e7 (X4.keep K47) (X6.keep K7) one_ne) ?_
  rw [decide_eq_true rfl]
  repeat wtm_at "mine st"
  refine ⟨fun z => (Bool.false_ne_true z).elim, fun zz => ?_⟩
  have K37 := K4.trans K47
  have K27 := K3.trans K37
  have K07 := K02.trans K27
  repeat wtm_at "mine st"
  refine c_list (p_copy (.inl (K07 _ _ hr)) (lim_of (by omega)) fun r3 h8 K8 n8 e8 => ?_)
  have K38 := K37.trans K8
  have K28 := K27.trans K8
  have G7 := G3.keep K37
  have new : ∀ (a : Nat) (o : O), h7[a]? = some o → a ≠ r3 := fun a o e => ne_of_new e n8
  generalize hB : (fun a => if a = r3 then some (O.list vs) else h2[a]? : Nat → Option O) = B
  have B1 : B r3 = some (.list vs) := by rw [← hB]; exact if_pos rfl
  have B2 : ∀ a, a ≠ r3 → B a = h2[a]? := fun a n => by rw [← hB]; exact if_neg n
  have KB : KeepB B h8 := fun a o e => by
    by_cases z : a = r3
    · rw [z, B1] at e; rw [z, e8]; exact e
    · rw [B2 a z] at e; exact K28 _ _ e
  have NB : GN B nr mr γ1 := by
    obtain ⟨_, x1⟩ := G7.near
    obtain ⟨_, x2⟩ := G7.mem
    refine ⟨by rw [B2 _ (new _ _ x1)]; exact N3.near, by rw [B2 _ (new _ _ x2)]; exact N3.mem, fun e he => ?_⟩
    (refine ae2 (fun zq1 y2 => ?_) (G7.each e he); revert zq1; refine xe1 fun zz y1 => ?_)
    (refine ae2 (fun z1 z2 => ?_) (N3.each e he))
    exact ⟨by rw [B2 _ (new _ _ y1)]; exact z1, by rw [B2 _ (new _ _ y2)]; exact z2⟩
  have AB : RowsB B vs R := ⟨A.1, fun i r e => by
    (refine xe1 (fun a zq1 => ?_) (A.2 i r e); revert zq1; refine ae2 fun x1 x2 => ?_)
    have x3 := K02 _ _ x2
    exact ⟨a, x1, by rw [B2 _ (new _ _ (K27 _ _ x3))]; exact x3⟩⟩
  repeat wtm_at "mine st"
  refine w_coalesce B1 AB wf KB NB (G7.keep K8) S0 hc fun γ2 j h9 K9 zz G9 S => ?_
  have K29 : Keep h2 h9 := fun a o e => K9 a o (by rw [B2 a (new _ _ (K27 _ _ e))]; exact e)
  have K09 := K02.trans K29
  have L9 := L1.keep (K2.trans K29)
  have glen : γ2.length ≤ 30 := G9.few
  have num := S.num
  repeat wtm_at "mine st"
  refine w_right G9 (K09 _ _ hr) (A.keep K09) wf L9 lo S.inv hk hne fun c2 ys2 h10 K10 e10 X10 => ?_
  have ylen : ys2.length = γ2.length := by
    rw [X10.1, (sortL_perm _).length_eq]
    unfold grp sh
    rw [List.length_map, List.length_map]
  have K010 := K09.trans K10
  (refine xe2 (fun eb2 ed2 zq1 => ?_) (L9.keep K10); revert zq1; refine ae2 fun f3 f4 => ?_)
  repeat wtm_at "mine st"
  refine p_is ?_
  rw [decide_eq_false (fun z => by cases z)]
  repeat wtm_at "mine st"
  refine ⟨fun z => (Bool.false_ne_true z).elim, fun zz => ?_⟩
  repeat wtm_at "mine st"
  refine c_len (p_len_dict f3 (lim_of (by unfold bornK; rw [List.length_map]; rw [keys_len] at hk; omega)) ?_)
  repeat wtm_at "mine st"
  refine c_len (p_len_list e10 (lim_of (by omega)) ?_)
  repeat wtm_at "mine st"
  refine p_ne (r := true) ?_ ?_
  · show some (decide _) = _
    rw [decide_eq_true]
    unfold bornK
    rw [List.length_map, ylen]
    rw [keys_len] at num
    omega
  repeat wtm_at "mine st"
  refine ⟨fun z => (Bool.false_ne_true z).elim, fun zz => ?_⟩
  repeat wtm_at "mine st"
  refine ⟨fun z => (Bool.false_ne_true z).elim, fun zz => ?_⟩
  repeat wtm_at "mine st"
  refine p_eq (r := decide (cnt = 0)) rfl ?_
  repeat wtm_at "mine st"
  refine ⟨fun t => ?_, fun t => ?_⟩
  · repeat wtm_at "mine st"
    refine p_eq (r := true) ?_ ?_
    · rw [S.zero (of_decide_eq_true t)]; rfl
    repeat wtm_at "mine st"
    exact q _ K010
  repeat wtm_at "mine st"
  refine c_len (p_len_list (K010 _ _ hr) (lim_of (by omega)) ?_)
  repeat wtm_at "mine st"
  refine ⟨fun t => ?_, fun t => ?_⟩
  · have hb := of_decide_eq_true t
    rw [A.1] at hb
    (refine ae2 (fun rel hj => ?_) (S.big hb))
    repeat wtm_at "mine st"
    refine p_newT (lim_c (by kernel_rfl)) fun c3 h11 K11 n11 e11 => ?_
    have K011 := K010.trans K11
    repeat wtm_at "mine st"
    refine w_joined (K011 _ _ hr) (A.keep K011) wf ((L9.keep K10).keep K11) hne fun c4 r4 ys4 h12 K12 e12 f12 X12 => ?_
    rw [sortL_congr rel, hj] at *
    refine p_eq (r := true) ?_ ?_
    · rw [eq_tups (K12 _ _ e11) e12 (K12 _ _ (K11 _ _ e10)) f12 ((X10.keep K11).keep K12) X12]
      rw [decide_eq_true rfl, decide_eq_true rfl]; rfl
    repeat wtm_at "mine st"
    exact q _ (K011.trans K12)
  · repeat wtm_at "mine st"
    exact q _ K010
end

open PySem PySem.W PyProof.Rows

set_option exponentiation.threshold 400 in
theorem small {x : Int} (h : -(10 ^ 70) ≤ x ∧ x ≤ 10 ^ 70) : x.natAbs < big := by
  show x.natAbs < 2 ^ 300
  omega
theorem Upd.trans {h h1 h2 : H} {a : Nat} {o p : O} (x : Upd a o h h1) (y : Upd a p h1 h2) : Upd a p h h2 := ⟨y.1, fun b n => (y.2 b n).trans (x.2 b n)⟩
/- the well that is drawn from -/
noncomputable def Well (h : H) (wa ca : Nat) (cs : List Int) (n : Nat) : Prop := ∃ w sp : Int, h[wa]? = some (.list [.int w, .ref ca, .int sp]) ∧ h[ca]? = some (.list (cs.map .int)) ∧ wa ≠ ca ∧ cs ≠ [] ∧ cs.length ≤ 100 ∧ 0 ≤ w ∧ w < 10 ^ 70 ∧ 0 ≤ sp ∧ sp ≤ n
theorem Well.keep {h h1 : H} {wa ca n : Nat} {cs : List Int} (x : Well h wa ca cs n) (K : Keep h h1) : Well h1 wa ca cs n := by
  (revert x; refine xe2 fun w sp zq1 => ?_; revert zq1; refine ae3 fun x1 x2 x3 => ?_)
  exact ⟨w, sp, K _ _ x1, K _ _ x2, x3⟩
theorem Well.upd {h h1 : H} {wa ca n a : Nat} {cs : List Int} {o : O} (x : Well h wa ca cs n) (u : Upd a o h h1) (n1 : wa ≠ a) (n2 : ca ≠ a) : Well h1 wa ca cs n := by
  (revert x; refine xe2 fun w sp zq1 => ?_; revert zq1; refine ae3 fun x1 x2 x3 => ?_)
  exact ⟨w, sp, u.other x1 n1, u.other x2 n2, x3⟩
theorem Well.le {h : H} {wa ca n n' : Nat} {cs : List Int} (x : Well h wa ca cs n) (l : n ≤ n') : Well h wa ca cs n' := by
  (revert x; refine xe2 fun w sp zq1 => ?_; revert zq1; refine ae8 fun x1 x2 x3 x4 x5 x6 x7 zq2 => ?_; revert zq2; refine ae2 fun x8 x9 => ?_)
  exact ⟨w, sp, x1, x2, x3, x4, x5, x6, x7, x8, by omega⟩

section
variable {h : H} {k : Nat} {Q : V → H → Prop} {wa ca n : Nat} {cs : List Int} {most : Int}
theorem w_pull (X : Well h wa ca cs n) (hn : n ≤ 500) (h1 : 0 < most) (h2 : most ≤ 10 ^ 20)
    (q : ∀ (d : Int) h1, 0 ≤ d → d < most → (∀ b, b ≠ wa → h1[b]? = h[b]?) → Well h1 wa ca cs (n + 1) → Q (.int d) h1) : W (callA pw (k + 2) (Str.ofString "_law_pull") [.ref wa, .int most]) h Q := by
  (revert X; refine xe2 fun w sp zq1 => ?_; revert zq1; refine ae8 fun x1 x2 x3 x4 x5 x6 x7 zq2 => ?_; revert zq2; refine ae2 fun x8 x9 => ?_)
  have clen : 0 < (cs.length : Int) := by have := List.length_pos_iff.mpr x4; omega
  refine call_W (ps := [Str.ofString "well", Str.ofString "most"]) (by kernel_rfl) (by kernel_rfl) rfl (by kernel_rfl) rfl ?_
  refine s_IfJ (fun m' h' => Hs m' "well" (.ref wa) ∧ Hs m' "most" (.int most) ∧ ∃ w1 sp1 : Int, Upd wa (.list [.int w1, .ref ca, .int sp1]) h h' ∧ 0 ≤ w1 ∧ w1 < 10 ^ 70 ∧ 0 ≤ sp1 ∧ sp1 ≤ n + 1) ?_ ?_
  · repeat wtm_at "mine st"
    refine p_item_list (i := 0) x1 (lim_c (by kernel_rfl)) ⟨by decide, rfl⟩ ?_
    repeat wtm_at "mine st"
    refine ⟨fun zz => ?_, fun zz => ?_⟩
    rotate_left
    · repeat wtm_at "mine st"
      exact ⟨by wtm_at "mine nm", by wtm_at "mine nm", w, sp, ⟨x1, fun zz zz => rfl⟩, x6, x7, x8, by omega⟩
    repeat wtm_at "mine st"
    refine p_item_list (i := 2) x1 (lim_c (by kernel_rfl)) ⟨by decide, rfl⟩ ?_
    repeat wtm_at "mine st"
    refine p_item_list (i := 1) x1 (lim_c (by kernel_rfl)) ⟨by decide, rfl⟩ ?_
    repeat wtm_at "mine st"
    refine c_len (p_len_list x2 (lim_of (by rw [List.length_map]; omega)) ?_)
    rw [List.length_map]
    refine p_mod (by omega) ?_
    have f1 := Int.fmod_nonneg_of_pos sp clen
    have f2 := Int.fmod_lt_of_pos sp clen
    have hlt : (sp.fmod cs.length).toNat < cs.length := by omega
    generalize hc : cs[(sp.fmod cs.length).toNat]'hlt = cell
    refine p_item_list (v := .int cell) x2 (lim_of (by rw [List.length_map]; omega)) ⟨f1, ?_⟩ ?_
    · rw [List.getElem?_map, List.getElem?_eq_getElem hlt, hc]; rfl
    repeat wtm_at "mine st"
    refine p_set_list (i := 2) x1 ⟨by decide, by show 2 < 3; decide, lim_c (by kernel_rfl)⟩ fun h3 u3 => ?_
    have u3 : Upd wa (.list [.int w, .ref ca, .int (sp + 1)]) h h3 := u3
    have c3 := u3.other x2 (Ne.symm x3)
    refine s_IfJ (fun m' h' => Hs m' "well" (.ref wa) ∧ Hs m' "most" (.int most) ∧ ∃ w1 sp1 : Int, Upd wa (.list [.int w1, .ref ca, .int sp1]) h h' ∧ 0 ≤ w1 ∧ w1 < 10 ^ 70 ∧ 0 ≤ sp1 ∧ sp1 ≤ n + 1) ?_ ?_
    rotate_left
    · intro m' h' z
      repeat wtm_at "mine st"
      exact z
    have other : ∀ m' : Mine.L, Hs m' "well" (.ref wa) → Hs m' "most" (.int most) → ∀ w1 : Int, 0 ≤ w1 → w1 < 10 ^ 70 → ∀ h4, Upd wa (.list [.int w1, .ref ca, .int (sp + 1)]) h3 h4 →
        Hs m' "well" (.ref wa) ∧ Hs m' "most" (.int most) ∧ ∃ w1 sp1 : Int, Upd wa (.list [.int w1, .ref ca, .int sp1]) h h4 ∧ 0 ≤ w1 ∧ w1 < 10 ^ 70 ∧ 0 ≤ sp1 ∧ sp1 ≤ n + 1 :=
      fun m' a1 a2 w1 b1 b2 h4 u4 => ⟨a1, a2, w1, sp + 1, u3.trans u4, b1, b2, by omega, by omega⟩
    have P1 := Int.fmod_nonneg_of_pos cell (b := 2305843009213693951) (by decide)
    have P2 := Int.fmod_lt_of_pos cell (b := 2305843009213693951) (by decide)
    refine ab_in fun zz zz => ?_
    refine W_mono (P := fun zz h4 => h4 = h3) ?_ fun c h4 e => ?_
    · repeat wtm_at "mine st"
      refine c_len (p_len_list c3 (lim_of (by rw [List.length_map]; omega)) ?_)
      repeat wtm_at "mine st"
      refine ⟨fun zz => rfl, fun zz => ?_⟩
      repeat wtm_at "mine st"
      refine p_pow ⟨by decide, by decide, by decide⟩ ?_
      repeat wtm_at "mine st"
      exact ⟨fun zz => rfl, fun zz => ts_nilA rfl⟩
    subst e
    refine ⟨fun zz => ?_, fun zz => ?_⟩
    · repeat wtm_at "mine st"
      refine p_pow ⟨by decide, by decide, by decide⟩ ?_
      refine p_mod (by decide) ?_
      repeat wtm_at "mine st"
      refine p_set_list (i := 0) u3.1 ⟨by decide, by show 0 < 3; decide, lim_c (by kernel_rfl)⟩ fun h5 u5 => ?_
      repeat wtm_at "mine st"
      exact other _ (by wtm_at "mine nm") (by wtm_at "mine nm") _ (Int.fmod_nonneg_of_pos cell (by decide)) (Int.fmod_lt_of_pos cell (by decide)) h5 u5
    · repeat wtm_at "mine st"
      refine p_mod (by decide) ?_
      repeat wtm_at "mine st"
      refine p_mul ⟨small (by omega), small (by omega)⟩ ?_
      repeat wtm_at "mine st"
      refine p_mul ⟨small (by omega), small (by omega)⟩ ?_
      repeat wtm_at "mine st"
      refine p_mul ⟨small (by omega), small (by omega)⟩ ?_
      repeat wtm_at "mine st"
      refine p_mul ⟨small (by omega), small (by omega)⟩ ?_
      repeat wtm_at "mine st"
      refine p_mod (by decide) ?_
      repeat wtm_at "mine st"
      refine p_set_list (i := 0) u3.1 ⟨by decide, by show 0 < 3; decide, lim_c (by kernel_rfl)⟩ fun h5 u5 => ?_
      repeat wtm_at "mine st"
      generalize ((cell.fmod 2305843009213693951 + 7919 * sp + 5) * (2862933555777941757 + 2 * sp) + 104729 * sp : Int) = z at u5
      have := Int.fmod_lt_of_pos z (b := 2305843009213693951) (by decide)
      exact other _ (by wtm_at "mine nm") (by wtm_at "mine nm") _ (Int.fmod_nonneg_of_pos z (by decide)) (by omega) h5 u5
  · intro m' h' zq
    (revert zq; refine ae3 fun a1 a2 zq1 => ?_; revert zq1; refine xe2 fun w1 sp1 zq2 => ?_; revert zq2; refine ae5 fun u b1 b2 b3 b4 => ?_)
    repeat wtm_at "mine st"
    refine p_item_list (i := 0) u.1 (lim_c (by kernel_rfl)) ⟨by decide, rfl⟩ ?_
    repeat wtm_at "mine st"
    refine p_mod (by omega) ?_
    repeat wtm_at "mine st"
    refine p_item_list (i := 0) u.1 (lim_c (by kernel_rfl)) ⟨by decide, rfl⟩ ?_
    repeat wtm_at "mine st"
    refine p_div ⟨by omega, small (by omega), small (by omega)⟩ ?_
    repeat wtm_at "mine st"
    refine p_set_list (i := 0) u.1 ⟨by decide, by show 0 < 3; decide, lim_c (by kernel_rfl)⟩ fun h3 u3 => ?_
    have u3 : Upd wa (.list [.int (w1.fdiv most), .ref ca, .int sp1]) h' h3 := u3
    have uu := u.trans u3
    have g1 : 0 ≤ w1.fdiv most := by rw [Int.fdiv_eq_ediv_of_nonneg _ (by omega)]; exact Int.ediv_nonneg b1 (by omega)
    have g2 : w1.fdiv most ≤ w1 := by rw [Int.fdiv_eq_ediv_of_nonneg _ (by omega)]; exact Int.ediv_le_self _ b1
    repeat wtm_at "mine st"
    refine q _ h3 (Int.fmod_nonneg_of_pos w1 h1) (Int.fmod_lt_of_pos w1 h1) uu.2 ⟨_, sp1, uu.1, uu.other x2 (Ne.symm x3), x3, x4, x5, g1, by omega, b3, by omega⟩
end

open PySem PySem.W PyProof.Rows

theorem lifeK_app {R : List Row} {r : Row} : ∀ k, k ≤ R.length → lifeK (R ++ [r]) k = lifeK R k
  | 0, _ => rfl
  | k + 1, h => by
    have e := List.getElem?_eq_getElem (show k < R.length by omega)
    rw [lifeK_succ e, lifeK_succ (r := R[k]) (by rw [List.getElem?_append_left (by omega)]; exact e), lifeK_app k (by omega)]
theorem keys_app {R : List Row} {r : Row} : keys (lifeK (R ++ [r]) (R ++ [r]).length) = if r.1 = sOut then keys (lifeK R R.length) else keys (lifeK R R.length) ++ [r.2.1] := by
  rw [show (R ++ [r]).length = R.length + 1 by simp, lifeK_succ (r := r) (by simp), stepL_keys, lifeK_app _ (Nat.le_refl _)]
theorem wf_app {R : List Row} {r : Row} (wf : Wf R) (hl : R.length < 30) (ok : OkRow r (lifeK R R.length)) : Wf (R ++ [r]) := by
  refine ⟨fun k r' e => ?_, by rw [List.length_append]; exact hl⟩
  by_cases hk : k < R.length
  · rw [List.getElem?_append_left hk] at e
    rw [lifeK_app _ (by omega)]
    exact wf.row k r' e
  · have hk2 := (List.getElem?_eq_some_iff.mp e).1
    rw [List.length_append, List.length_singleton] at hk2
    have : k = R.length := by omega
    subst this
    rw [List.getElem?_concat_length] at e
    cases e
    rw [lifeK_app _ (Nat.le_refl _)]
    exact ok
theorem RowsAt.updL {h h1 : H} {vs : List V} {R : List Row} {a : Nat} {xs : List V} (x : RowsAt h vs R) (u : ∀ b, b ≠ a → h1[b]? = h[b]?) (e : h[a]? = some (.list xs)) : RowsAt h1 vs R := ⟨x.1, fun k r er => by
  (refine xe1 (fun b zq1 => ?_) (x.2 k r er); revert zq1; refine ae2 fun e1 e2 => ?_)
  refine ⟨b, e1, ?_⟩
  rw [u b fun z => ?_]
  · exact e2
  · rw [z, e] at e2; cases e2⟩
theorem RowsAt.app {h : H} {vs : List V} {R : List Row} {c : Nat} {r : Row} (x : RowsAt h vs R) (e : h[c]? = some (rowO r)) : RowsAt h (vs ++ [.ref c]) (R ++ [r]) := by
  refine ⟨by rw [List.length_append, List.length_append, x.1]; rfl, fun k r' er => ?_⟩
  by_cases hk : k < R.length
  · rw [List.getElem?_append_left hk] at er
    (refine xe1 (fun b zq1 => ?_) (x.2 k r' er); revert zq1; refine ae2 fun e1 e2 => ?_)
    exact ⟨b, by rw [List.getElem?_append_left (by rw [x.1]; exact hk)]; exact e1, e2⟩
  · have hk2 := (List.getElem?_eq_some_iff.mp er).1
    rw [List.length_append, List.length_singleton] at hk2
    have : k = R.length := by omega
    subst this
    rw [List.getElem?_concat_length] at er
    cases er
    exact ⟨c, by rw [← x.1, List.getElem?_concat_length], e⟩

/- six lists, each its own -/
structure AD (wa ca ra oa pa : Nat) : Prop where
  wr : wa ≠ ra
  wo : wa ≠ oa
  wp : wa ≠ pa
  cr : ca ≠ ra
  co : ca ≠ oa
  ro : ra ≠ oa
  rp : ra ≠ pa
  op : oa ≠ pa
/- the making, behind s rows -/
structure PS (h : H) (wa ca ra oa pa : Nat) (cs : List Int) (vs : List V) (R : List Row) (olds : List Int) (s n : Nat) : Prop where
  well : Well h wa ca cs n
  made : h[ra]? = some (.list vs)
  rows : RowsAt h vs R
  wf : Wf R
  len : R.length = s
  old : h[oa]? = some (.list (olds.map .int))
  inl : ∀ x ∈ olds, x ∈ keys (lifeK R R.length)
  ks : ∀ x ∈ keys (lifeK R R.length), ∃ t, t < s ∧ x = ((t * 11 % 47 : Nat) : Int)
  any : s = 0 ∨ olds ≠ []
  ol : olds.length ≤ s
  ops : h[pa]? = some (.list (opsL.map .str))
section
variable {h h1 h2 : H} {wa ca ra oa pa : Nat} {cs : List Int} {vs : List V} {R : List Row} {olds : List Int} {s n n' : Nat} {r : Row} {c : Nat}
theorem PS.keep (x : PS h wa ca ra oa pa cs vs R olds s n) (K : Keep h h1) : PS h1 wa ca ra oa pa cs vs R olds s n := ⟨x.well.keep K, K _ _ x.made, x.rows.keep K, x.wf, x.len, K _ _ x.old, x.inl, x.ks, x.any, x.ol, K _ _ x.ops⟩
theorem PS.pull (x : PS h wa ca ra oa pa cs vs R olds s n) (A : AD wa ca ra oa pa) (u : ∀ b, b ≠ wa → h1[b]? = h[b]?) (w : Well h1 wa ca cs n') : PS h1 wa ca ra oa pa cs vs R olds s n' := by
  obtain ⟨_, _, x1, _⟩ := x.well
  exact ⟨w, by rw [u _ (Ne.symm A.wr)]; exact x.made, x.rows.updL u x1, x.wf, x.len, by rw [u _ (Ne.symm A.wo)]; exact x.old, x.inl, x.ks, x.any, x.ol, by rw [u _ (Ne.symm A.wp)]; exact x.ops⟩
theorem PS.out (x : PS h wa ca ra oa pa cs vs R olds s n) (A : AD wa ca ra oa pa) (hs : s < 29) (e : h[c]? = some (rowO r)) (ok : OkRow r (lifeK R R.length)) (ho : r.1 = sOut) (hne : olds ≠ []) (u : Upd ra (.list (vs ++ [.ref c])) h h1) :
    PS h1 wa ca ra oa pa cs (vs ++ [.ref c]) (R ++ [r]) olds (s + 1) n := by
  have k := keys_app (R := R) (r := r)
  rw [if_pos ho] at k
  exact ⟨x.well.upd u A.wr A.cr, u.1, (x.rows.app e).updL u.2 x.made, wf_app x.wf (by have := x.len; omega) ok, by rw [List.length_append, x.len]; rfl, u.other x.old (Ne.symm A.ro), by rw [k]; exact x.inl,
    by rw [k]; exact fun v hv => let ⟨t, a, b⟩ := x.ks v hv; ⟨t, by omega, b⟩, .inr hne, Nat.le_succ_of_le x.ol, u.other x.ops (Ne.symm A.rp)⟩
theorem PS.def_ (x : PS h wa ca ra oa pa cs vs R olds s n) (A : AD wa ca ra oa pa) (hs : s < 29) (e : h[c]? = some (rowO r)) (ok : OkRow r (lifeK R R.length)) (ho : r.1 ≠ sOut) (hv : r.2.1 = ((s * 11 % 47 : Nat) : Int)) (u : Upd ra (.list (vs ++ [.ref c])) h h1)
    (u2 : Upd oa (.list (olds.map .int ++ [.int r.2.1])) h1 h2) : PS h2 wa ca ra oa pa cs (vs ++ [.ref c]) (R ++ [r]) (olds ++ [r.2.1]) (s + 1) n := by
  have k := keys_app (R := R) (r := r)
  rw [if_neg ho] at k
  have o1 := u.other x.old (Ne.symm A.ro)
  refine ⟨(x.well.upd u A.wr A.cr).upd u2 A.wo A.co, u2.other u.1 A.ro, ((x.rows.app e).updL u.2 x.made).updL u2.2 o1, wf_app x.wf (by have := x.len; omega) ok, by rw [List.length_append, x.len]; rfl, by rw [u2.1, List.map_append]; rfl, fun v hv => ?_, fun v hv' => ?_, .inr (by simp), by rw [List.length_append]; exact Nat.succ_le_succ x.ol, u2.other (u.other x.ops (Ne.symm A.rp)) (Ne.symm A.op)⟩
  · rw [k]
    rcases List.mem_append.mp hv with hv | hv
    · exact List.mem_append_left _ (x.inl v hv)
    · exact List.mem_append_right _ hv
  · rw [k] at hv'
    rcases List.mem_append.mp hv' with hv' | hv'
    · (refine xe1 (fun t zq1 => ?_) (x.ks v hv'); revert zq1; refine ae2 fun a b => ?_)
      exact ⟨t, by omega, b⟩
    · exact ⟨s, by omega, by rw [List.mem_singleton.mp hv', hv]⟩
theorem PS.new (x : PS h wa ca ra oa pa cs vs R olds s n) (hs : s < 47) : ((s * 11 % 47 : Nat) : Int) ∉ keys (lifeK R R.length) := fun z => by
  (refine xe1 (fun t zq1 => ?_) (x.ks _ z); revert zq1; refine ae2 fun a b => ?_)
  omega
variable {Q : V → H → Prop}
theorem p_at {α : Type} {xs : List α} {f : α → V} {a : Nat} {d : Int} (e : h[a]? = some (.list (xs.map f))) (l : xs.length ≤ 1000) (h1 : 0 ≤ d) (h2 : d < xs.length) (q : ∀ x ∈ xs, Q (f x) h) : W (getItemA (.ref a) (.int d)) h Q := by
  have hl : d.toNat < xs.length := by omega
  refine p_item_list e (lim_of (by rw [List.length_map]; exact l)) ⟨h1, by rw [List.getElem?_map, List.getElem?_eq_getElem hl]; rfl⟩ (q _ (List.getElem_mem hl))
theorem srcs_two {op : Str} {v x y : Int} {l : List Int} (hx : x ∈ l) (hy : y ∈ l) : ∀ z ∈ srcs (op, v, x, y), z ∈ l := by
  intro z hz
  unfold srcs at hz
  split at hz
  · split at hz
    · rw [List.mem_singleton.mp hz]; exact hx
    · rcases List.mem_cons.mp hz with e | hz
      · rw [e]; exact hx
      · rw [List.mem_singleton.mp hz]; exact hy
  · split at hz
    · rw [List.mem_singleton.mp hz]; exact hx
    · cases hz
theorem ne_in : sIn ≠ sOut := by decide
theorem ne_const : sConst ≠ sOut := by decide
theorem ne_copy : sCopy ≠ sOut := by decide
theorem op_ne_out : ∀ x ∈ opsL, x ≠ sOut := by decide

-- the sums of the walk, each once
theorem pk {s k : Nat} (hs : s ≤ 21) (hk : k ≤ 50) : 1 + 4 * s + k ≤ 500 := by omega
theorem pk4 {s k : Nat} (hk : k ≤ 4) : 1 + 4 * s + k ≤ 1 + 4 * (s + 1) := by omega
theorem ol1 {a s : Nat} (h : a ≤ s) (hs : s ≤ 21) : a ≤ 999 := by omega
theorem ol2 {a s : Nat} (h : a = s) (hs : s ≤ 21) : a < 1000 := by omega
theorem ll1 {l : List Int} (h : l.length ≤ 999) : (l.map V.int).length ≤ lim := by rw [List.length_map]; exact Nat.le_succ_of_le h
theorem ll2 {l : List Int} (h : l.length ≤ 999) : (l.map V.int).length < lim := by rw [List.length_map]; exact Nat.lt_succ_of_le h
theorem ll3 {a : Nat} (h : a ≤ 999) : (a : Int) ≤ 10 ^ 20 := by omega
theorem ll4 {l : List Int} (h : l ≠ []) : 0 < (l.length : Int) := by have := List.length_pos_iff.mpr h; omega
theorem sm1 {s : Nat} (hs : s ≤ 21) : -(10 ^ 70) ≤ (s : Int) ∧ (s : Int) ≤ 10 ^ 70 := by omega
theorem sm2 {s : Nat} : (s * 11 : Int).fmod 47 = ((s * 11 % 47 : Nat) : Int) := by rw [Int.fmod_eq_emod_of_nonneg _ (by decide)]; omega
variable {k : Nat}
theorem w_program (X : Well h wa ca cs 0) (q : ∀ r vs R h1, Well h1 wa ca cs 100 → h1[r]? = some (.list vs) → r ≠ wa → r ≠ ca → RowsAt h1 vs R → Wf R → R.length ≤ 22 → keys (lifeK R R.length) ≠ [] → Q (.ref r) h1) :
    W (callA pw (k + 3) (Str.ofString "_law_program") [.ref wa, .int 20, .int 4]) h Q := by
  (refine xe2 (fun zz zz zq1 => ?_) (id X); revert zq1; refine ae3 fun x1 x2 zz => ?_)
  refine call_W (ps := [Str.ofString "well", Str.ofString "most", Str.ofString "copies"]) (by kernel_rfl) (by kernel_rfl) rfl (by kernel_rfl) rfl ?_
  repeat wtm_at "mine st"
  refine p_newL (lim_c (by kernel_rfl)) fun pa h1 K1 n1 e1 => ?_
  repeat wtm_at "mine st"
  refine p_newL (lim_c (by kernel_rfl)) fun ra h2 K2 n2 e2 => ?_
  repeat wtm_at "mine st"
  refine p_newL (lim_c (by kernel_rfl)) fun oa h3 K3 n3 e3 => ?_
  have K02 := K1.trans K2
  have A : AD wa ca ra oa pa := ⟨ne_of_new (K1 _ _ x1) n2, ne_of_new (K02 _ _ x1) n3, ne_of_new x1 n1, ne_of_new (K1 _ _ x2) n2, ne_of_new (K02 _ _ x2) n3, ne_of_new e2 n3, Ne.symm (ne_of_new e1 n2), Ne.symm (ne_of_new (K2 _ _ e1) n3)⟩
  have P3 : PS h3 wa ca ra oa pa cs [] [] [] 0 0 := ⟨X.keep (K02.trans K3), K3 _ _ e2, ⟨rfl, fun k r e => (nomatch e)⟩, ⟨fun k r e => (nomatch e), Nat.zero_le _⟩, rfl, e3, fun x h => (nomatch h), fun x h => (nomatch h), .inl rfl, Nat.le_refl _, (K2.trans K3) _ _ e1⟩
  refine s_ForR ?_
  repeat wtm_at "mine st"
  refine w_pull P3.well (by decide) (by decide) (by decide) fun d h4 hd1 hd2 u4 W4 => ?_
  have P4 := P3.pull A u4 W4
  repeat wtm_at "mine st"
  refine forN_in (n := (2 + d).toNat) (lim_of (by omega)) (fun s m h5 => ∃ vs R olds, PS h5 wa ca ra oa pa cs vs R olds s (1 + 4 * s) ∧ Hs m "well" (.ref wa) ∧ Hs m "copies" (.int 4) ∧ Hs m "ops" (.ref pa) ∧ Hs m "made" (.ref ra) ∧ Hs m "old_ones" (.ref oa)) ⟨[], [], [], P4, by wtm_at "mine nm", by wtm_at "mine nm", by wtm_at "mine nm", by wtm_at "mine nm", by wtm_at "mine nm"⟩ ?_ ?_ (by omega)
  · refine fun s m h5 hs hh => ex3 hh fun vs R olds hh => and6 hh fun P m1 m2 m3 m4 m5 => ?_
    have hs : s ≤ 21 := by omega
    have hv := sm2 (s := s)
    repeat wtm_at "mine st"
    refine p_mul ⟨small (sm1 hs), small (by decide)⟩ ?_
    repeat wtm_at "mine st"
    refine p_mod (by decide) ?_
    rw [hv]
    have hnew := P.new (by omega)
    generalize hvv : ((s * 11 % 47 : Nat) : Int) = v at hnew
    have hv0 : 0 ≤ v := hvv ▸ Int.natCast_nonneg _
    have s29 : s < 29 := Nat.lt_of_le_of_lt hs (by decide)
    repeat wtm_at "mine st"
    refine w_pull P.well (pk (k := 0) hs (by decide)) (by decide) (by decide) fun pick h6 hp1 hp2 u6 W6 => ?_
    have P6 := P.pull A u6 W6
    have vlen : vs.length = s := P.rows.1.trans P.len
    have o1 := ol1 P.ol hs
    have v1 := ol2 vlen hs
    have o3 := ll3 o1
    refine s_IfJ (fun m' h' => Hs m' "well" (.ref wa) ∧ Hs m' "copies" (.int 4) ∧ Hs m' "ops" (.ref pa) ∧ Hs m' "made" (.ref ra) ∧ Hs m' "old_ones" (.ref oa) ∧ Hs m' "v" (.int v) ∧
      ∃ (r : Row) (c : Nat) (hp : H) (n : Nat), n ≤ 1 + 4 * (s + 1) ∧ PS hp wa ca ra oa pa cs vs R olds s n ∧ hp[c]? = some (rowO r) ∧ OkRow r (lifeK R R.length) ∧ r.1 ≠ sOut ∧ r.2.1 = v ∧ Upd ra (.list (vs ++ [.ref c])) hp h') ?_ ?_
    rotate_left
    · intro m' h' zq
      (revert zq; refine ae7 fun m1 m2 m3 m4 m5 m6 zq1 => ?_; revert zq1; refine xe4 fun r c hp n zq2 => ?_; revert zq2; refine ae7 fun hn P ec ok ho hrv u => ?_)
      repeat wtm_at "mine st"
      refine m_list (u.other P.old (Ne.symm A.ro)) ?_
      repeat wtm_at "mine st"
      refine p_append (u.other P.old (Ne.symm A.ro)) (ll2 o1) fun h8 u8 => ⟨rfl, ?_⟩
      rw [← hrv] at u8
      have P8 := P.def_ A s29 ec ok ho (hrv.trans hvv.symm) u u8
      repeat wtm_at "mine st"
      exact ⟨_, _, _, { P8 with well := P8.well.le hn }, m1, m2, m3, m4, m5⟩
    refine ab_in fun zz zz => ?_
    refine W_mono (P := fun t h7 => PS h7 wa ca ra oa pa cs vs R olds s (1 + 4 * s + 1) ∧ (t = false → olds ≠ [])) ?_ fun t h7 zq => ?_
    · repeat wtm_at "mine st"
      refine p_eq (r := decide (pick = 0)) rfl ?_
      repeat wtm_at "mine st"
      refine ⟨fun zz => ⟨P6, fun z => nomatch z⟩, fun zz => ?_⟩
      repeat wtm_at "mine st"
      refine p_newL (vs := []) (lim_c (by kernel_rfl)) fun c h7 K7 n7 e7 => ?_
      refine p_eq (eq_ints (js := []) (K7 _ _ P6.old) e7) ?_
      repeat wtm_at "mine st"
      refine ⟨fun zz => ⟨P6.keep K7, fun z => nomatch z⟩, fun t => ?_⟩
      exact ts_nilO ⟨P6.keep K7, fun zz => of_decide_eq_false t⟩
    (revert zq; refine ae2 fun P7 ho => ?_)
    refine ⟨fun zz => ?_, fun t => ?_⟩
    · repeat wtm_at "mine st"
      refine m_list P7.made ?_
      repeat wtm_at "mine st"
      refine w_pull P7.well (pk (k := 1) hs (by decide)) (by decide) (by decide) fun d h8 da db u8 W8 => ?_
      have P8 := P7.pull A u8 W8
      repeat wtm_at "mine st"
      refine p_newT (lim_c (by kernel_rfl)) fun c h9 K9 n9 e9 => ?_
      have P9 := P8.keep K9
      repeat wtm_at "mine st"
      refine p_append P9.made (lim_lt v1) fun h10 u10 => ⟨rfl, ?_⟩
      repeat wtm_at "mine st"
      exact ⟨by wtm_at "mine nm", by wtm_at "mine nm", by wtm_at "mine nm", by wtm_at "mine nm", by wtm_at "mine nm", by wtm_at "mine nm", (sIn, v, d, 0), c, h9, _, pk4 (k := 2) (by decide), P9, e9, ⟨.inr (.inr (.inr (.inl rfl))), by rw [src_none (.inl rfl)]; exact fun zz h => (nomatch h), fun zz => ⟨hv0, hnew⟩⟩, ne_in, rfl, u10⟩
    have hne := ho t
    have opos := ll4 hne
    repeat wtm_at "mine st"
    refine p_eq (r := decide (pick = 1)) rfl ?_
    repeat wtm_at "mine st"
    refine ⟨fun zz => ?_, fun zz => ?_⟩
    · repeat wtm_at "mine st"
      refine m_list P7.made ?_
      repeat wtm_at "mine st"
      refine p_pow ⟨by decide, by decide, by decide⟩ ?_
      repeat wtm_at "mine st"
      refine p_pow ⟨by decide, by decide, by decide⟩ ?_
      repeat wtm_at "mine st"
      refine w_pull P7.well (pk (k := 1) hs (by decide)) (by decide) (by decide) fun d h8 da db u8 W8 => ?_
      have P8 := P7.pull A u8 W8
      repeat wtm_at "mine st"
      refine p_pow ⟨by decide, by decide, by decide⟩ ?_
      repeat wtm_at "mine st"
      refine p_newT (lim_c (by kernel_rfl)) fun c h9 K9 n9 e9 => ?_
      have P9 := P8.keep K9
      repeat wtm_at "mine st"
      refine p_append P9.made (lim_lt v1) fun h10 u10 => ⟨rfl, ?_⟩
      repeat wtm_at "mine st"
      exact ⟨by wtm_at "mine nm", by wtm_at "mine nm", by wtm_at "mine nm", by wtm_at "mine nm", by wtm_at "mine nm", by wtm_at "mine nm", (sConst, v, _, 0), c, h9, _, pk4 (k := 2) (by decide), P9, e9, ⟨.inr (.inr (.inr (.inr rfl))), by rw [src_none (.inr rfl)]; exact fun zz h => (nomatch h), fun zz => ⟨hv0, hnew⟩⟩, ne_const, rfl, u10⟩
    repeat wtm_at "mine st"
    refine p_eq (r := decide (pick = 2)) rfl ?_
    repeat wtm_at "mine st"
    refine ⟨fun zz => ?_, fun zz => ?_⟩
    · repeat wtm_at "mine st"
      refine m_list P7.made ?_
      repeat wtm_at "mine st"
      refine w_pull P7.well (pk (k := 1) hs (by decide)) (by decide) (by decide) fun d h8 da db u8 W8 => ?_
      have P8 := P7.pull A u8 W8
      repeat wtm_at "mine st"
      refine c_len (p_len_list P8.old (ll1 o1) ?_)
      rw [List.length_map]
      repeat wtm_at "mine st"
      refine w_pull P8.well (pk (k := 2) hs (by decide)) opos o3 fun d2 h9 d2a d2b u9 W9 => ?_
      have P9 := P8.pull A u9 W9
      repeat wtm_at "mine st"
      refine p_at P9.old (Nat.le_succ_of_le o1) d2a d2b fun x xi => ?_
      have xk := P9.inl x xi
      repeat wtm_at "mine st"
      refine p_newT (lim_c (by kernel_rfl)) fun c h10 K10 n10 e10 => ?_
      have P10 := P9.keep K10
      repeat wtm_at "mine st"
      refine p_append P10.made (lim_lt v1) fun h11 u11 => ⟨rfl, ?_⟩
      have P11 := P10.out A s29 (r := (sOut, d, x, 0)) e10 ⟨.inr (.inr (.inl rfl)), by rw [src_out rfl]; exact fun zz h => List.mem_singleton.mp h ▸ xk, fun z => absurd rfl z⟩ rfl hne u11
      repeat wtm_at "mine st"
      exact ⟨_, _, _, { P11 with well := P11.well.le (pk4 (k := 3) (by decide)) }, by wtm_at "mine nm", by wtm_at "mine nm", by wtm_at "mine nm", by wtm_at "mine nm", by wtm_at "mine nm"⟩
    repeat wtm_at "mine st"
    refine ⟨fun zz => ?_, fun zz => ?_⟩
    · repeat wtm_at "mine st"
      refine m_list P7.made ?_
      repeat wtm_at "mine st"
      refine c_len (p_len_list P7.old (ll1 o1) ?_)
      rw [List.length_map]
      repeat wtm_at "mine st"
      refine w_pull P7.well (pk (k := 1) hs (by decide)) opos o3 fun d h8 da db u8 W8 => ?_
      have P8 := P7.pull A u8 W8
      repeat wtm_at "mine st"
      refine p_at P8.old (Nat.le_succ_of_le o1) da db fun x xi => ?_
      have xk := P8.inl x xi
      repeat wtm_at "mine st"
      refine p_newT (lim_c (by kernel_rfl)) fun c h9 K9 n9 e9 => ?_
      have P9 := P8.keep K9
      repeat wtm_at "mine st"
      refine p_append P9.made (lim_lt v1) fun h10 u10 => ⟨rfl, ?_⟩
      repeat wtm_at "mine st"
      exact ⟨by wtm_at "mine nm", by wtm_at "mine nm", by wtm_at "mine nm", by wtm_at "mine nm", by wtm_at "mine nm", by wtm_at "mine nm", (sCopy, v, x, 0), c, h9, _, pk4 (k := 2) (by decide), P9, e9, ⟨.inr (.inl rfl), by rw [src_copy rfl]; exact fun zz h => List.mem_singleton.mp h ▸ xk, fun zz => ⟨hv0, hnew⟩⟩, ne_copy, rfl, u10⟩
    repeat wtm_at "mine st"
    refine c_len (p_len_list P7.old (ll1 o1) ?_)
    rw [List.length_map]
    repeat wtm_at "mine st"
    refine w_pull P7.well (pk (k := 1) hs (by decide)) opos o3 fun d h8 da db u8 W8 => ?_
    have P8 := P7.pull A u8 W8
    repeat wtm_at "mine st"
    refine p_at P8.old (Nat.le_succ_of_le o1) da db fun x xi => ?_
    have xk := P8.inl x xi
    repeat wtm_at "mine st"
    refine m_list P8.made ?_
    repeat wtm_at "mine st"
    refine w_pull P8.well (pk (k := 2) hs (by decide)) (by decide) (by decide) fun d1 h9 d1a d1b u9 W9 => ?_
    have P9 := P8.pull A u9 W9
    repeat wtm_at "mine st"
    refine p_at (xs := opsL) P9.ops (by decide) d1a d1b fun op opi => ?_
    repeat wtm_at "mine st"
    refine c_len (p_len_list P9.old (ll1 o1) ?_)
    rw [List.length_map]
    repeat wtm_at "mine st"
    refine w_pull P9.well (pk (k := 3) hs (by decide)) opos o3 fun d2 h10 d2a d2b u10 W10 => ?_
    have P10 := P9.pull A u10 W10
    repeat wtm_at "mine st"
    refine p_at P10.old (Nat.le_succ_of_le o1) d2a d2b fun y yi => ?_
    have yk := P10.inl y yi
    repeat wtm_at "mine st"
    refine p_newT (lim_c (by kernel_rfl)) fun c h11 K11 n11 e11 => ?_
    have P11 := P10.keep K11
    repeat wtm_at "mine st"
    refine p_append P11.made (lim_lt v1) fun h12 u12 => ⟨rfl, ?_⟩
    repeat wtm_at "mine st"
    exact ⟨by wtm_at "mine nm", by wtm_at "mine nm", by wtm_at "mine nm", by wtm_at "mine nm", by wtm_at "mine nm", by wtm_at "mine nm", (op, v, x, y), c, h11, _, pk4 (k := 4) (by decide), P11, e11, ⟨.inl opi, srcs_two xk yk, fun zz => ⟨hv0, hnew⟩⟩, op_ne_out op opi, rfl, u12⟩
  · refine fun m h5 hh => ex3 hh fun vs R olds hh => and6 hh fun P m1 m2 m3 m4 m5 => ?_
    have hs1 : (2 + d).toNat ≤ 21 := by omega
    have hs2 : 2 ≤ (2 + d).toNat := by omega
    generalize (2 + d).toNat = s at P hs1 hs2
    have hne : olds ≠ [] := P.any.resolve_left (by omega)
    have opos := ll4 hne
    have o1 := ol1 P.ol hs1
    have vlen : vs.length = s := P.rows.1.trans P.len
    repeat wtm_at "mine st"
    refine m_list P.made ?_
    repeat wtm_at "mine st"
    refine c_len (p_len_list P.old (ll1 o1) ?_)
    rw [List.length_map]
    repeat wtm_at "mine st"
    refine p_at P.old (Nat.le_succ_of_le o1) (by omega) (by omega) fun x xi => ?_
    have xk := P.inl x xi
    repeat wtm_at "mine st"
    refine p_newT (lim_c (by kernel_rfl)) fun c h6 K6 n6 e6 => ?_
    have P6 := P.keep K6
    repeat wtm_at "mine st"
    refine p_append P6.made (lim_lt (ol2 vlen hs1)) fun h7 u7 => ⟨rfl, ?_⟩
    have P7 := P6.out A (Nat.lt_of_le_of_lt hs1 (by decide)) (r := (sOut, 4, x, 0)) e6 ⟨.inr (.inr (.inl rfl)), by rw [src_out rfl]; exact fun zz h => List.mem_singleton.mp h ▸ xk, fun z => absurd rfl z⟩ rfl hne u7
    repeat wtm_at "mine st"
    refine q ra _ _ h7 (P7.well.le (by omega)) P7.made (Ne.symm A.wr) (Ne.symm A.cr) P7.rows P7.wf (by rw [P7.len]; omega) fun z => ?_
    have := P7.inl x xi
    rw [z] at this
    cases this
end

open PySem PySem.W PyProof.Rows

noncomputable def fixedR : List Row := [(Str.ofString "in", 3, 0, 0), (Str.ofString "copy", 8, 3, 0), (Str.ofString "in", 5, 1, 0), (Str.ofString "copy", 1, 8, 0), (Str.ofString "add", 6, 1, 5), (Str.ofString "out", 0, 6, 0)]
theorem wf_snoc {R : List Row} {r : Row} {l : List Int} (wf : Wf R) (k : keys (lifeK R R.length) = l) (hl : R.length < 30) (op : okOp r) (src : ∀ s ∈ srcs r, s ∈ l) (hd : r.1 ≠ sOut → 0 ≤ r.2.1 ∧ r.2.1 ∉ l) :
    Wf (R ++ [r]) ∧ keys (lifeK (R ++ [r]) (R ++ [r]).length) = if r.1 = sOut then l else l ++ [r.2.1] := by
  subst k
  exact ⟨wf_app wf hl ⟨op, src, hd⟩, keys_app⟩
theorem wf_fixed : Wf fixedR ∧ keys (lifeK fixedR fixedR.length) = [3, 8, 5, 1, 6] := by
  have w0 : Wf [] := ⟨fun k r e => (nomatch e), Nat.zero_le _⟩
  (refine ae2 (fun w1 k1 => ?_) (wf_snoc (R := []) (r := (sIn, 3, 0, 0)) (l := []) w0 rfl (by decide) (.inr (.inr (.inr (.inl rfl)))) (by decide) (by decide)))
  rw [if_neg (by decide)] at k1
  (refine ae2 (fun w2 k2 => ?_) (wf_snoc (r := (sCopy, 8, 3, 0)) w1 k1 (by decide) (.inr (.inl rfl)) (by decide) (by decide)))
  rw [if_neg (by decide)] at k2
  (refine ae2 (fun w3 k3 => ?_) (wf_snoc (r := (sIn, 5, 1, 0)) w2 k2 (by decide) (.inr (.inr (.inr (.inl rfl)))) (by decide) (by decide)))
  rw [if_neg (by decide)] at k3
  (refine ae2 (fun w4 k4 => ?_) (wf_snoc (r := (sCopy, 1, 8, 0)) w3 k3 (by decide) (.inr (.inl rfl)) (by decide) (by decide)))
  rw [if_neg (by decide)] at k4
  (refine ae2 (fun w5 k5 => ?_) (wf_snoc (r := (Str.ofString "add", 6, 1, 5)) w4 k4 (by decide) (.inl (by decide)) (by decide) (by decide)))
  rw [if_neg (by decide)] at k5
  (refine ae2 (fun w6 k6 => ?_) (wf_snoc (r := (sOut, 0, 6, 0)) w5 k5 (by decide) (.inr (.inr (.inl rfl))) (by decide) (by decide)))
  rw [if_pos rfl] at k6
  exact ⟨w6, k6⟩
theorem run_body {f : String} {s : Stmt} {r : List Stmt} {cl : Str → List V → M V} {m : Mine.L} {h : H} {Q : Fl × Mine.L → H → Prop} (e : fB f = s :: r) (w : W (execsA cl (s :: r) m) h Q) : W (execsA cl (fB f) m) h Q := by
  rw [e]; exact w
theorem law_ok (is : List Int) (hl : is.length ≤ 63) : LawOk is := by
  suffices w : W (execsA (callA pw 11) (fB "law") (fun x => [(Str.ofString "script", V.ref 0)].lookup x)) [.ro (is.map .int)] fun q h => q.1 = .ret (.bool true) by
    (revert w; refine xe2 fun zq1 h' zq2 => ?_; rcases zq1 with ⟨f, m⟩; revert zq2; refine ae2 fun e zq3 => ?_; subst zq3)
    exact ⟨m, h', e⟩
  have h0 : ([O.ro (is.map .int)] : H)[0]? = some (.ro (is.map .int)) := rfl
  generalize ([O.ro (is.map .int)] : H) = h at h0
  rw [show (fun x => [(Str.ofString "script", V.ref 0)].lookup x) = envL [Str.ofString "script"] [V.ref 0] from envL_eq [Str.ofString "script"] [V.ref 0]]
  refine run_body rfl ?_
  refine s_Assign (e_List (es_cons (e_int (es_cons (e_Slice ?_)))))
  repeat wtm_at "mine st"
  refine c_list (p_copy (.inr h0) (lim_of (by rw [List.length_map]; omega)) fun la h1 K1 n1 e1 => ?_)
  repeat wtm_at "mine st"
  refine p_newL (vs := [.int 0]) (lim_c (by kernel_rfl)) fun za h2 K2 n2 e2 => ?_
  repeat wtm_at "mine st"
  refine p_addL (K2 _ _ e1) e2 (lim_of (by rw [List.length_map, List.length_singleton]; omega)) fun ua h3 K3 n3 e3 => ?_
  repeat wtm_at "mine st"
  refine p_slice e3 ⟨by decide, by decide, lim_of (by rw [List.length_append, List.length_map, List.length_singleton]; omega)⟩ fun ca h4 K4 n4 e4 => ?_
  have e4 : h4[ca]? = some (.list (((is ++ [0]).take 40).map .int)) := by rw [e4, List.map_take, List.map_append]; rfl
  have cne : (is ++ [0]).take 40 ≠ [] := fun z => by
    have := congrArg List.length z
    rw [List.length_take, List.length_append, List.length_singleton, List.length_nil] at this
    omega
  have clen : ((is ++ [0]).take 40).length ≤ 100 := by rw [List.length_take]; omega
  generalize (is ++ [0]).take 40 = cs at e4 cne clen
  repeat wtm_at "mine st"
  refine p_newL (lim_c (by kernel_rfl)) fun wa h5 K5 n5 e5 => ?_
  have X : Well h5 wa ca cs 0 := ⟨0, 0, e5, K5 _ _ e4, Ne.symm (ne_of_new e4 n5), cne, clen, by decide, by decide, by decide, by decide⟩
  repeat wtm_at "mine st"
  refine w_program X fun ra vs R h6 X6 e6 n6 n6' A6 wf hR hk => ?_
  have wf_len := wf.len
  have vlen : vs.length ≤ 30 := A6.1 ▸ wf_len
  refine s_ForList (by kernel_rfl) ?_
  repeat wtm_at "mine st"
  refine w_pull X6 (by decide) (by decide) (by decide) fun d h7 d1 d2 u7 X7 => ?_
  (revert X6; refine xe2 fun zz zz zq1 => ?_; revert zq1; refine ae2 fun e6w zz => ?_)
  have e7 : h7[ra]? = some (.list vs) := by rw [u7 _ n6]; exact e6
  have A7 := A6.updL u7 e6w
  repeat wtm_at "mine st"
  refine c_len (p_len_list e7 (lim_of (by omega)) ?_)
  repeat wtm_at "mine st"
  refine p_newL (lim_c (by kernel_rfl)) fun la2 h8 K8 n8 e8 => ?_
  refine forL_in (e8) (fun ys m h9 => (∀ y ∈ ys, ∃ c : Int, y = .int c ∧ 0 ≤ c) ∧ Keep h8 h9 ∧ Hs m "made" (.ref ra)) ⟨fun y hy => ?_, Keep.refl _, by wtm_at "mine nm"⟩ ?_ ?_
  · rcases List.mem_cons.mp hy with rfl | hy
    · exact ⟨0, rfl, by decide⟩
    rcases List.mem_cons.mp hy with rfl | hy
    · exact ⟨1 + d, rfl, by omega⟩
    rw [List.mem_singleton.mp hy]
    exact ⟨_, rfl, by omega⟩
  · intro y ys m h9 zq
    (revert zq; refine ae3 fun hy K9 m1 => ?_)
    (refine xe1 (fun c zq1 => ?_) (hy y List.mem_cons_self); revert zq1; refine ae2 fun zq2 hc => ?_; subst zq2)
    have K79 := K8.trans K9
    repeat wtm_at "mine st"
    refine w_good (K79 _ _ e7) (A7.keep K79) wf hk hc fun h10 K10 => ?_
    repeat wtm_at "mine st"
    refine ⟨fun z => (Bool.false_ne_true z).elim, fun zz => ?_⟩
    repeat wtm_at "mine st"
    exact ⟨(K9.trans K10) _ _ e8, fun y h => hy y (List.mem_cons_of_mem _ h), K9.trans K10, by wtm_at "mine nm"⟩
  · intro m h9 zq
    (revert zq; refine ae3 fun zz zz zz => ?_)
    repeat wtm_at "mine st"
    refine p_newT (lim_c (by kernel_rfl)) fun c1 g1 k1 i1 f1 => ?_
    repeat wtm_at "mine st"
    refine p_newT (lim_c (by kernel_rfl)) fun c2 g2 k2 i2 f2 => ?_
    repeat wtm_at "mine st"
    refine p_newT (lim_c (by kernel_rfl)) fun c3 g3 k3 i3 f3 => ?_
    repeat wtm_at "mine st"
    refine p_newT (lim_c (by kernel_rfl)) fun c4 g4 k4 i4 f4 => ?_
    repeat wtm_at "mine st"
    refine p_newT (lim_c (by kernel_rfl)) fun c5 g5 k5 i5 f5 => ?_
    repeat wtm_at "mine st"
    refine p_newT (lim_c (by kernel_rfl)) fun c6 g6 k6 i6 f6 => ?_
    have a0 : RowsAt h9 [] [] := ⟨rfl, fun k r e => (nomatch e)⟩
    have a1 := (a0.keep k1).app (r := (sIn, 3, 0, 0)) f1
    have a2 := (a1.keep k2).app (r := (sCopy, 8, 3, 0)) f2
    have a3 := (a2.keep k3).app (r := (sIn, 5, 1, 0)) f3
    have a4 := (a3.keep k4).app (r := (sCopy, 1, 8, 0)) f4
    have a5 := (a4.keep k5).app (r := (Str.ofString "add", 6, 1, 5)) f5
    have a6 := (a5.keep k6).app (r := (sOut, 0, 6, 0)) f6
    obtain ⟨wf2, kk⟩ := wf_fixed
    have hk2 : keys (lifeK fixedR fixedR.length) ≠ [] := by rw [kk]; exact List.cons_ne_nil _ _
    repeat wtm_at "mine st"
    refine p_newL (lim_c (by kernel_rfl)) fun fa g7 k7 i7 f7 => ?_
    have a7 : RowsAt g7 [.ref c1, .ref c2, .ref c3, .ref c4, .ref c5, .ref c6] fixedR := a6.keep k7
    repeat wtm_at "mine st"
    refine e_And2 ?_
    repeat wtm_at "mine st"
    refine w_good f7 a7 wf2 hk2 (by decide) fun g8 k8 => ⟨true, rfl, fun z => (Bool.false_ne_true z.symm).elim, fun zz => ?_⟩
    repeat wtm_at "mine st"
    refine w_good (k8 _ _ f7) (a7.keep k8) wf2 hk2 (by decide) fun g9 k9 => ?_
    repeat wtm_at "mine st"
    exact rfl
theorem holds : PySem.Challenge.rw_pq0792_01.Holds := law_of law_ok

end
end Mine
theorem PySem.Challenge.cw_pq0792_01_holds : PySem.Challenge.rw_pq0792_01.Holds := by
  exact Mine.holds
