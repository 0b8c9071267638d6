import PyProof.Rows.All
import Wide.All
import OpenK.AllK
import Wide.FinOn
import KE.KSortTup
import PyProof.FactsAll.tuple_2
import Lean
import PySem.Challenge.RW_rr0068_01
set_option Elab.async false
set_option tactic.hygienic false
set_option maxRecDepth 100000
set_option autoImplicit false
set_option linter.unusedVariables false
set_option linter.unusedSimpArgs false
set_option genSizeOfSpec false
set_option genInjectivity false
section
namespace Mine
theorem oA {m a n : Nat} (e : m + 1 + a = n) : a < n := by omega
theorem oB {m a n : Nat} (e : m + 1 + a = n) : m + (a + 1) = n := by omega
theorem oC (j : Nat) : ((j + 1 : Nat) : Int) - 1 = j := by omega
theorem oD {c m n : Nat} (e : c + (m + 1) < n) : c + 1 + m < n := by omega
theorem oE {a : Int} (h : a.natAbs < 2 ^ 40) : -2 ^ 62 ≤ a := by omega
theorem oF {a : Int} (h : a.natAbs < 2 ^ 40) : a < 2 ^ 62 := by omega
inductive Cl where
  | table | udata | pyclo | node | dead
  deriving DecidableEq
inductive Fd where
  | number | mark | size | mta | flags | weak | array | nodes | log_nodes | free | value | env | is_finalized | function | name | upvals | key | next | kind
  deriving DecidableEq
noncomputable def lay : Cl → List Fd
  | .table => [.number, .mark, .size, .mta, .flags, .weak, .array, .nodes, .log_nodes, .free]
  | .udata => [.number, .mark, .size, .value, .mta, .env, .is_finalized]
  | .pyclo => [.number, .mark, .size, .function, .name, .upvals, .env]
  | .node => [.key, .value, .next]
  | .dead => [.number]
inductive Ty where
  | int | bool | bytes | heap | table | udata | pyclo | dead | other
  deriving DecidableEq
inductive V where
  | none
  | bool (b : Bool)
  | int (i : Int)
  | str (s : List Nat)
  | bytes (b : List UInt8)
  | fn (k : Nat)
  | tup (vs : List V)
  | obj (i : Nat)
  
inductive MO where
  | inst (c : Cl) (fs : List V)
  | list (xs : List V)
  
noncomputable abbrev H := List MO
noncomputable abbrev Rho := List (Option V)
noncomputable abbrev Ex (β : Type) := Rho → H → Option (β × H)
noncomputable abbrev Fn := List V → H → Option (V × H)
inductive Fl where
  | next | brk | cont
  | ret (v : V)
  
noncomputable abbrev St := Rho → H → Option (Fl × Rho × H)
noncomputable abbrev As := V → Rho → H → Option (Rho × H)

noncomputable def pureE {β : Type} (b : β) : Ex β := fun _ σ => some (b, σ)
noncomputable def noE {β : Type} : Ex β := fun _ _ => .none
noncomputable def yD {α β : Type} (e : Ex α) (f : α → Ex β) : Ex β := fun ρ σ => match e ρ σ with | some (a, σ') => f a ρ σ' | .none => .none
noncomputable def jL {β : Type} (f : H → Option (β × H)) : Ex β := fun _ σ => f σ
noncomputable def readE {β : Type} (f : H → Option β) : Ex β := fun _ σ => match f σ with | some b => some (b, σ) | .none => .none
noncomputable def zC (i : Nat) : Ex V := fun ρ σ => match ρ[i]? with | some (some v) => some (v, σ) | _ => .none
noncomputable def cE (v : V) : Ex V := pureE v
noncomputable def seqE : List (Ex V) → Ex (List V)
  | [] => pureE []
  | e :: es => yD e fun v => yD (seqE es) fun vs => pureE (v :: vs)
noncomputable def wU (es : List (Ex V)) : Ex V := yD (seqE es) fun vs => pureE (.tup vs)
noncomputable def okLen (xs : List V) : Bool := decide (xs.length ≤ 100000)
noncomputable def newL (xs : List V) : H → Option (V × H) := fun σ => if okLen xs then some (.obj σ.length, σ ++ [.list xs]) else .none
noncomputable def xM (es : List (Ex V)) : Ex V := yD (seqE es) fun vs => jL (newL vs)

noncomputable def listAt (σ : H) (v : V) : Option (List V) := match v with
  | .obj i => match σ[i]? with | some (.list xs) => some xs | _ => .none
  | _ => .none
noncomputable def small (a : Int) : Bool := decide (a.natAbs < 2 ^ 40)
inductive Op where
  | add | sub | mul | mod | fdiv | shl | shr | band | bor | bxor
  deriving DecidableEq
noncomputable def intO (op : Op) (a b : Int) : Option Int := match op with
  | .add => some (a + b)
  | .sub => some (a - b)
  | .mul => if small a && small b then some (a * b) else .none
  | .mod => if b = 0 then .none else some (a.fmod b)
  | .fdiv => if b = 0 then .none else if small a && small b then some (a.fdiv b) else .none
  | .shl => if 0 ≤ a ∧ 0 ≤ b ∧ b ≤ 64 ∧ small a = true then some (a * 2 ^ b.toNat) else .none
  | .shr => if 0 ≤ a ∧ 0 ≤ b ∧ b ≤ 64 ∧ small a = true then some (a.fdiv (2 ^ b.toNat)) else .none
  | .band => if 0 ≤ a ∧ 0 ≤ b then some (Int.ofNat (a.toNat &&& b.toNat)) else .none
  | .bor => if 0 ≤ a ∧ 0 ≤ b then some (a + b - Int.ofNat (a.toNat &&& b.toNat)) else .none
  | .bxor => if 0 ≤ a ∧ 0 ≤ b then some (a + b - Int.ofNat (a.toNat &&& b.toNat) - Int.ofNat (a.toNat &&& b.toNat)) else .none
noncomputable def binO (op : Op) (a b : V) : H → Option (V × H) := fun σ => match a, b with
  | .int a, .int b => (intO op a b).map fun c => (.int c, σ)
  | .bytes a, .bytes b => if op = .add then (if decide (a.length + b.length ≤ 1000) then some (.bytes (a ++ b), σ) else .none) else .none
  | .obj i, .obj j => if op = .add then match listAt σ (.obj i), listAt σ (.obj j) with
      | some xs, some ys => newL (xs ++ ys) σ
      | _, _ => .none else .none
  | .obj i, .int n => if op = .mul then match listAt σ (.obj i) with
      | some [x] => if 0 ≤ n ∧ n ≤ 100 then newL (List.replicate n.toNat x) σ else .none
      | _ => .none else .none
  | _, _ => .none
noncomputable def yX (op : Op) (a b : Ex V) : Ex V := yD a fun x => yD b fun y => jL (binO op x y)
noncomputable def negE (a : Ex V) : Ex V := yD a fun x => match x with | .int i => pureE (.int (-i)) | _ => noE

mutual
noncomputable def jM : Nat → V → Bool
  | _, .none => true
  | _, .bool _ => true
  | _, .int _ => true
  | _, .str s => s.all (· < 1114112)
  | n + 1, .tup vs => xD n vs
  | _, _ => false
noncomputable def xD : Nat → List V → Bool
  | _, [] => true
  | n, v :: vs => jM n v && xD n vs
end
mutual
noncomputable def eqB : V → V → Bool
  | .none, .none => true
  | .bool a, .bool b => a == b
  | .bool a, .int j => (if a then 1 else 0) == j
  | .int i, .bool b => i == (if b then 1 else 0)
  | .int a, .int b => a == b
  | .str a, .str b => a == b
  | .tup a, .tup b => eqBs a b
  | _, _ => false
noncomputable def eqBs : List V → List V → Bool
  | [], [] => true
  | a :: as, b :: bs => eqB a b && eqBs as bs
  | _, _ => false
end
noncomputable def ltList : List Nat → List Nat → Bool
  | [], [] => false
  | [], _ :: _ => true
  | _ :: _, [] => false
  | a :: as, b :: bs => if a < b then true else if a = b then ltList as bs else false
mutual
noncomputable def ltV : V → V → Option Bool
  | .int a, .int b => some (decide (a < b))
  | .str a, .str b => some (ltList a b)
  | .tup a, .tup b => ltVs a b
  | _, _ => .none
noncomputable def ltVs : List V → List V → Option Bool
  | [], [] => some false
  | [], _ :: _ => some true
  | _ :: _, [] => some false
  | a :: as, b :: bs => if eqB a b then ltVs as bs else ltV a b
end
noncomputable def intsOf : List V → Option (List Int)
  | [] => some []
  | .int i :: r => (intsOf r).map (i :: ·)
  | _ => .none
inductive Cm where
  | eq | ne | lt | le | gt | ge | is | isnot | isin | notin
  deriving DecidableEq
noncomputable def modeB (b : List UInt8) : Bool := b == [] || b == [107] || b == [118] || b == [107, 118] || b == [118, 107] || b == [120]
noncomputable def modeS (b : List Nat) : Bool := b == [] || b == [107] || b == [118] || b == [107, 118]
noncomputable def inO (a b : V) (σ : H) : Option Bool := match a, b with
  | .bytes [c], .bytes b => if (c = 107 ∨ c = 118) ∧ modeB b = true then some (b.contains c) else .none
  | .int a, .bytes b => if (a = 107 ∨ a = 118) ∧ modeB b = true then some (b.any fun u => u.toNat == a.toNat) else .none
  | .str [c], .str b => if (c = 107 ∨ c = 118) ∧ modeS b = true then some (b.contains c) else .none
  | .int a, .tup vs => (intsOf vs).map fun ns => ns.any (· == a)
  | .tup us, .obj i => match listAt σ (.obj i) with | some vs => if jM 3 (.tup us) && xD 3 vs then some (vs.any fun y => eqB y (.tup us)) else .none | .none => .none
  | _, _ => .none
noncomputable def eqO (a b : V) (σ : H) : Option Bool := match a, b with
  | .obj i, .obj j => match listAt σ (.obj i), listAt σ (.obj j) with
    | some xs, some ys => if xD 3 xs && xD 3 ys then some (eqBs xs ys) else .none
    | _, _ => .none
  | .int a, .int b => some (a == b)
  | .bool a, .bool b => some (a == b)
  | .bytes a, .bytes b => some (a == b)
  | _, _ => .none
noncomputable def isN : V → Option Bool
  | .none => some true
  | .fn k => if k < 200 then some false else .none
  | _ => some false
noncomputable def cmpO (c : Cm) (a b : V) (σ : H) : Option Bool := match c with
  | .eq => eqO a b σ
  | .ne => (eqO a b σ).map (!·)
  | .lt => match a, b with | .int a, .int b => some (decide (a < b)) | _, _ => .none
  | .le => match a, b with | .int a, .int b => some (decide (a ≤ b)) | _, _ => .none
  | .gt => match a, b with | .int a, .int b => some (decide (b < a)) | _, _ => .none
  | .ge => match a, b with | .int a, .int b => some (decide (b ≤ a)) | _, _ => .none
  | .is => match b with | .none => isN a | _ => .none
  | .isnot => match b with | .none => (isN a).map (!·) | _ => .none
  | .isin => inO a b σ
  | .notin => (inO a b σ).map (!·)
noncomputable def chainT : V → List (Cm × Ex V) → Ex Bool
  | _, [] => pureE true
  | x, [(c, e)] => yD e fun y => readE (cmpO c x y)
  | x, (c, e) :: r => yD e fun y => yD (readE (cmpO c x y)) fun b => if b then chainT y r else pureE false
noncomputable def zX (a : Ex V) (r : List (Cm × Ex V)) : Ex Bool := yD a fun x => chainT x r
noncomputable def cmpE (a : Ex V) (r : List (Cm × Ex V)) : Ex V := yD (zX a r) fun b => pureE (.bool b)
noncomputable def truthV : V → Option Bool
  | .none => some false
  | .bool b => some b
  | _ => .none
noncomputable def xO (e : Ex V) : Ex Bool := yD e fun v => readE fun _ => truthV v
noncomputable def notT (t : Ex Bool) : Ex Bool := yD t fun b => pureE (!b)
noncomputable def andT (a b : Ex Bool) : Ex Bool := yD a fun x => if x then b else pureE false
noncomputable def orT (a b : Ex Bool) : Ex Bool := yD a fun x => if x then pureE true else b
noncomputable def iteE {β : Type} (t : Ex Bool) (a b : Ex β) : Ex β := yD t fun x => if x then a else b
noncomputable def andE (a b : Ex V) : Ex V := yD a fun x => match x with | .bool true => b | .bool false => pureE (.bool false) | _ => noE
noncomputable def orE (a b : Ex V) : Ex V := yD a fun x => match x with | .bool true => pureE (.bool true) | .bool false => b | _ => noE
noncomputable def notE (a : Ex V) : Ex V := yD a fun x => yD (readE fun _ => truthV x) fun b => pureE (.bool !b)

noncomputable def clsA : Cl → Fd → Option V
  | .table, .kind => some (.int 5)
  | .udata, .kind => some (.int 7)
  | .pyclo, .kind => some (.int 6)
  | _, _ => .none
noncomputable def fldAt : List Fd → List V → Fd → Option V
  | l :: ls, v :: vs, x => if l = x then some v else fldAt ls vs x
  | _, _, _ => .none
noncomputable def getF (v : V) (x : Fd) (σ : H) : Option V := match v with
  | .obj i => match σ[i]? with
    | some (.inst c fs) => if (lay c).contains x then fldAt (lay c) fs x else clsA c x
    | _ => .none
  | _ => .none
noncomputable def zL (o : Ex V) (x : Fd) : Ex V := yD o fun v => readE (getF v x)
noncomputable def putAt : List Fd → List V → Fd → V → Option (List V)
  | l :: ls, w :: vs, x, v => if l = x then some (v :: vs) else (putAt ls vs x v).map (w :: ·)
  | l :: _, [], x, v => if l = x then some [v] else .none
  | [], _, _, _ => .none
noncomputable def setF (o : V) (x : Fd) (v : V) (σ : H) : Option H := match o with
  | .obj i => match σ[i]? with
    | some (.inst c fs) => (putAt (lay c) fs x v).map fun fs' => σ.set i (.inst c fs')
    | _ => .none
  | _ => .none

noncomputable def place (n : Nat) (k : Int) : Option Nat := if 0 ≤ k then (if k < n ∧ k < 1000000 then some k.toNat else .none) else .none
noncomputable def itemO (o k : V) (σ : H) : Option V := match o, k with
  | .obj i, .int k => match listAt σ (.obj i) with | some xs => (place xs.length k).bind (xs[·]?) | _ => .none
  | .tup vs, .int k => (place vs.length k).bind (vs[·]?)
  | .bytes b, .int k => if decide (b.length ≤ 1000) then (place b.length k).bind fun j => some (.int (b.getD j 0).toNat) else .none
  | _, _ => .none
noncomputable def yB (o k : Ex V) : Ex V := yD o fun x => yD k fun y => readE (itemO x y)
noncomputable def setItemO (o k v : V) (σ : H) : Option H := match o, k with
  | .obj i, .int k => if i = 0 then .none else match listAt σ (.obj i) with
    | some xs => (place xs.length k).map fun j => σ.set i (.list (xs.set j v))
    | _ => .none
  | _, _ => .none
noncomputable def headO (o k : V) : H → Option (V × H) := fun σ => match o, k with
  | .obj i, .int k => if 0 ≤ k ∧ k < 2 ^ 62 then match listAt σ (.obj i) with | some xs => if okLen xs then newL (xs.take k.toNat) σ else .none | _ => .none else .none
  | _, _ => .none
noncomputable def tailO (o k : V) : H → Option (V × H) := fun σ => match o, k with
  | .obj i, .int k => if 0 ≤ k ∧ k < 2 ^ 62 then match listAt σ (.obj i) with | some xs => if okLen xs then newL (xs.drop k.toNat) σ else .none | _ => .none else .none
  | _, _ => .none
noncomputable def revO (o : V) : H → Option (V × H) := fun σ => match listAt σ o with | some xs => if okLen xs then newL xs.reverse σ else .none | _ => .none
noncomputable def headE (o k : Ex V) : Ex V := yD o fun x => yD k fun y => jL (headO x y)
noncomputable def tailE (o k : Ex V) : Ex V := yD o fun x => yD k fun y => jL (tailO x y)
noncomputable def revE (o : Ex V) : Ex V := yD o fun x => jL (revO x)

noncomputable def lenO (v : V) (σ : H) : Option V := match v with
  | .obj i => (listAt σ (.obj i)).bind fun xs => if okLen xs then some (.int xs.length) else .none
  | .bytes b => if decide (b.length ≤ 1000) then some (.int b.length) else .none
  | _ => .none
noncomputable def wB (a : Ex V) : Ex V := yD a fun x => readE (lenO x)
noncomputable def absE (a : Ex V) : Ex V := yD a fun x => match x with | .int i => pureE (.int i.natAbs) | _ => noE
noncomputable def sumE (a : Ex V) : Ex V := yD a fun x => readE fun σ => ((listAt σ x).bind intsOf).map fun ns => .int ns.sum
noncomputable def minE (a b : Ex V) : Ex V := yD a fun x => yD b fun y => match x, y with | .int i, .int j => pureE (.int (min i j)) | _, _ => noE
noncomputable def ordE (a : Ex V) : Ex V := yD a fun x => match x with | .str [c] => pureE (.int c) | _ => noE
noncomputable def isTy (v : V) (t : Ty) (σ : H) : Option Bool := match v with
  | .none => some false
  | .bool _ => some (t == .int || t == .bool)
  | .int _ => some (t == .int)
  | .str _ => some false
  | .bytes _ => some (t == .bytes)
  | .obj i => match σ[i]? with
    | some (.inst .table _) => some (t == .heap || t == .table)
    | some (.inst .udata _) => some (t == .heap || t == .udata)
    | some (.inst .pyclo _) => some (t == .heap || t == .pyclo)
    | some (.inst .dead _) => some (t == .dead)
    | some (.inst .node _) => some false
    | _ => .none
  | _ => .none
noncomputable def isTys (v : V) (ts : List Ty) (σ : H) : Option Bool := match ts with
  | [] => some false
  | t :: r => match isTy v t σ with | some true => some true | some false => isTys v r σ | .none => .none
noncomputable def jC (a : Ex V) (ts : List Ty) : Ex V := yD a fun x => readE fun σ => (isTys x ts σ).map .bool
noncomputable def reprO : V → Option (List Nat)
  | .int i => if i = 1 then some [49] else if i = 2 then some [50] else if i = 3 then some [51] else if i = 7 then some [55] else if i = 100 then some [49, 48, 48] else .none
  | .bool true => some [84, 114, 117, 101]
  | .bytes b => if b = [107] then some [98, 39, 107, 39] else if b = [116, 97, 105, 108] then some [98, 39, 116, 97, 105, 108, 39] else if b = [116, 101, 120, 116] then some [98, 39, 116, 101, 120, 116, 39] else .none
  | _ => .none
noncomputable def reprE (a : Ex V) : Ex V := yD a fun x => readE fun _ => (reprO x).map .str
noncomputable def insV (x : V) : List V → Option (List V)
  | [] => some [x]
  | y :: ys => match ltV x y with
    | some true => some (x :: y :: ys)
    | some false => (insV x ys).map (y :: ·)
    | .none => .none
noncomputable def sortV : List V → Option (List V)
  | [] => some []
  | x :: xs => (sortV xs).bind (insV x)
noncomputable def gv (xs : List V) (i : Nat) : V := xs.getD i .none
noncomputable def strictB (ys : List V) : Bool := (List.range ys.length).all fun i => (List.range ys.length).all fun j => ltV (gv ys i) (gv ys j) == some (decide (i < j))
noncomputable def tupB : V → Bool
  | .tup (.tup _ :: _) => true
  | _ => false
noncomputable def sortO (xs : List V) : Option (List V) :=
  if decide (xs.length < 64) then (sortV xs).bind fun ys => if (intsOf xs).isSome || (xs.all tupB && xD 3 xs && strictB ys) then some ys else .none else .none
noncomputable def sortedE (a : Ex V) : Ex V := yD a fun x => jL fun σ => ((listAt σ x).bind sortO).bind fun ys => newL ys σ

noncomputable def findE (o a : Ex V) : Ex V := yD o fun x => match x with
  | .bytes b => yD a fun y => match y with
    | .bytes [c] => if (c == 0) && modeB b then pureE (.int (-1)) else noE
    | _ => noE
  | _ => noE
noncomputable def encodeE (o : Ex V) : Ex V := yD o fun x => match x with | .str s => if modeS s then pureE (.bytes (s.map UInt8.ofNat)) else noE | _ => noE
noncomputable def strsOf : List V → Option (List (List Nat))
  | [] => some []
  | .str s :: r => (strsOf r).map (s :: ·)
  | _ => .none
noncomputable def joinE (a : Ex V) : Ex V := yD a fun x => readE fun σ => ((listAt σ x).bind strsOf).bind fun ss => if decide (ss.length ≤ 1000) && decide (ss.flatten.length ≤ 1000) then some (.str ss.flatten) else none
noncomputable def isL (x : V) : Ex Unit := readE fun σ => (listAt σ x).map fun _ => ()
noncomputable def xZ (o a : Ex V) : Ex V := yD o fun x => yD (isL x) fun _ => yD a fun y => jL fun σ => match x with
  | .obj i => if i = 0 then .none else match listAt σ x with
    | some xs => if okLen (xs ++ [y]) then some (.none, σ.set i (.list (xs ++ [y]))) else .none
    | _ => .none
  | _ => .none
noncomputable def extendE (o a : Ex V) : Ex V := yD o fun x => yD (isL x) fun _ => yD a fun y => jL fun σ => match x with
  | .obj i => if i = 0 then .none else match listAt σ x, listAt σ y with
    | some xs, some ys => if okLen (xs ++ ys) then some (.none, σ.set i (.list (xs ++ ys))) else .none
    | _, _ => .none
  | _ => .none

noncomputable def zR (F : Fn) (args : List (Ex V)) : Ex V := yD (seqE args) fun vs => jL (F vs)
noncomputable def isObj (c : Cl) (v : V) (σ : H) : Bool := match v with | .obj i => (match σ[i]? with | some (.inst c' _) => c' == c | _ => false) | _ => false
noncomputable def yT (c : Cl) (F : Fn) (o : Ex V) (args : List (Ex V)) : Ex V := yD o fun x => yD (readE fun σ => if isObj c x σ then some () else .none) fun _ => yD (seqE args) fun vs => jL (F (x :: vs))
noncomputable def newE (c : Cl) (F : Fn) (args : List (Ex V)) : Ex V := yD (seqE args) fun vs => jL fun σ => match F (.obj σ.length :: vs) (σ ++ [.inst c []]) with
  | some (.none, σ') => some (.obj σ.length, σ')
  | _ => .none

inductive It where
  | lst (i : Nat) | tup (vs : List V) | str (s : List Nat) | rng (a b : Int) | enm (i : Nat) | rev (i n : Nat)
noncomputable def It.nxt : It → Nat → H → Option (Option V)
  | .lst i, k, σ => (listAt σ (.obj i)).map fun xs => xs[k]?
  | .tup vs, k, _ => some vs[k]?
  | .str s, k, _ => some (s[k]?.map fun c => .str [c])
  | .rng a b, k, _ => some (if a + k < b then some (.int (a + k)) else .none)
  | .enm i, k, σ => (listAt σ (.obj i)).map fun xs => xs[k]?.map fun x => .tup [.int k, x]
  | .rev i n, k, σ => (listAt σ (.obj i)).bind fun xs => if xs.length = n then some (if k < n then xs[n - 1 - k]? else .none) else .none
noncomputable def xJ (e : Ex V) : Ex It := yD e fun v => readE fun σ => match v with
  | .obj i => (listAt σ v).map fun _ => .lst i
  | .tup vs => some (.tup vs)
  | .str s => if s.all (· < 128) then some (.str s) else .none
  | _ => .none
noncomputable def rngI (a b : Ex V) : Ex It := yD a fun x => yD b fun y => match x, y with | .int i, .int j => if small i && small j then pureE (.rng i j) else noE | _, _ => noE
noncomputable def enmI (e : Ex V) : Ex It := yD e fun v => readE fun σ => match v with | .obj i => (listAt σ v).map fun _ => .enm i | _ => .none
noncomputable def revI (e : Ex V) : Ex It := yD e fun v => readE fun σ => match v with | .obj i => (listAt σ v).map fun xs => .rev i xs.length | _ => .none

noncomputable def zG (i : Nat) : As := fun v ρ σ => some (ρ.set i (some v), σ)
noncomputable def yQ (o : Ex V) (x : Fd) : As := fun v ρ σ => match o ρ σ with | some (w, σ') => (setF w x v σ').map fun σ'' => (ρ, σ'') | .none => .none
noncomputable def itemA (o k : Ex V) : As := fun v ρ σ => match o ρ σ with
  | some (x, σ₁) => (match k ρ σ₁ with
    | some (y, σ₂) => (setItemO x y v σ₂).map fun σ₃ => (ρ, σ₃)
    | .none => .none)
  | .none => .none
noncomputable def eachA : List As → List V → Rho → H → Option (Rho × H)
  | [], [], ρ, σ => some (ρ, σ)
  | a :: as, v :: vs, ρ, σ => match a v ρ σ with | some (ρ', σ') => eachA as vs ρ' σ' | .none => .none
  | _, _, _, _ => .none
noncomputable def jB (as : List As) : As := fun v ρ σ => match v with | .tup vs => eachA as vs ρ σ | _ => .none

noncomputable def allT : List (Ex Bool) → Ex Bool
  | [] => pureE true
  | t :: ts => yD t fun b => if b then allT ts else pureE false
noncomputable def compL (it : It) (tg : As) (ifs : List (Ex Bool)) (elt : Ex V) : Nat → Nat → Rho → H → List V → Option (List V × H)
  | 0, _, _, _, _ => .none
  | f + 1, k, ρ, σ, acc => match it.nxt k σ with
    | .none => .none
    | some .none => some (acc, σ)
    | some (some v) => match tg v ρ σ with
      | .none => .none
      | some (ρ₁, σ₁) => match allT ifs ρ₁ σ₁ with
        | .none => .none
        | some (false, σ₂) => compL it tg ifs elt f (k + 1) ρ₁ σ₂ acc
        | some (true, σ₂) => match elt ρ₁ σ₂ with
          | .none => .none
          | some (x, σ₃) => compL it tg ifs elt f (k + 1) ρ₁ σ₃ (acc ++ [x])
noncomputable def innerRho (fv : List (Option Nat)) (ρ : Rho) : Rho := fv.map fun o => match o with | some j => (match ρ[j]? with | some v => v | .none => .none) | .none => .none
noncomputable def xR (it : Ex It) (fv : List (Option Nat)) (tg : As) (ifs : List (Ex Bool)) (elt : Ex V) : Ex V := fun ρ σ => match it ρ σ with
  | .none => .none
  | some (i, σ₁) => match compL i tg ifs elt 100 0 (innerRho fv ρ) σ₁ [] with
    | .none => .none
    | some (xs, σ₂) => newL xs σ₂

noncomputable def noS : St := fun _ _ => .none
noncomputable def zQ (a : As) (e : Ex V) : St := fun ρ σ => match e ρ σ with
  | some (v, σ₁) => (match a v ρ σ₁ with | some (ρ', σ₂) => some (.next, ρ', σ₂) | .none => .none)
  | .none => .none
noncomputable def augS (i : Nat) (op : Op) (e : Ex V) : St := fun ρ σ => match zC i ρ σ with
  | some (x, σ₁) => (match e ρ σ₁ with
    | some (y, σ₂) => (match x, y with
      | .int a, .int b => (intO op a b).map fun c => (.next, ρ.set i (some (.int c)), σ₂)
      | _, _ => .none)
    | .none => .none)
  | .none => .none
noncomputable def augF (o : Ex V) (x : Fd) (op : Op) (e : Ex V) : St := fun ρ σ => match o ρ σ with
  | some (w, σ₁) => (match getF w x σ₁ with
    | some (.int a) => (match e ρ σ₁ with
      | some (.int b, σ₂) => (intO op a b).bind fun c => (setF w x (.int c) σ₂).map fun σ₃ => (.next, ρ, σ₃)
      | _ => .none)
    | _ => .none)
  | .none => .none
noncomputable def yR (e : Ex V) : St := fun ρ σ => match e ρ σ with | some (.none, σ₁) => some (.next, ρ, σ₁) | _ => .none
noncomputable def yM (e : Ex V) : St := fun ρ σ => match e ρ σ with | some (v, σ₁) => some (.ret v, ρ, σ₁) | .none => .none
noncomputable def brkS : St := fun ρ σ => some (.brk, ρ, σ)
noncomputable def zI : List St → St
  | [] => fun ρ σ => some (.next, ρ, σ)
  | s :: r => fun ρ σ => match s ρ σ with
    | some (.next, ρ', σ') => zI r ρ' σ'
    | some (f, ρ', σ') => some (f, ρ', σ')
    | .none => .none
noncomputable def ifS (t : Ex Bool) (a b : St) : St := fun ρ σ => match t ρ σ with
  | some (x, σ₁) => if x then a ρ σ₁ else b ρ σ₁
  | .none => .none
noncomputable def whileL (t : Ex Bool) (b : St) : Nat → St
  | 0 => fun _ _ => .none
  | f + 1 => fun ρ σ => match t ρ σ with
    | some (true, σ₁) => (match b ρ σ₁ with
      | some (.next, ρ', σ') => whileL t b f ρ' σ'
      | some (.cont, ρ', σ') => whileL t b f ρ' σ'
      | some (.brk, ρ', σ') => some (.next, ρ', σ')
      | some (.ret v, ρ', σ') => some (.ret v, ρ', σ')
      | .none => .none)
    | some (false, σ₁) => some (.next, ρ, σ₁)
    | .none => .none
noncomputable def whileS (t : Ex Bool) (b : St) : St := whileL t b 100
noncomputable def forL (it : It) (tg : As) (b : St) : Nat → Nat → St
  | 0, _ => fun _ _ => .none
  | f + 1, k => fun ρ σ => match it.nxt k σ with
    | .none => .none
    | some .none => some (.next, ρ, σ)
    | some (some v) => match tg v ρ σ with
      | .none => .none
      | some (ρ₁, σ₁) => match b ρ₁ σ₁ with
        | some (.next, ρ', σ') => forL it tg b f (k + 1) ρ' σ'
        | some (.cont, ρ', σ') => forL it tg b f (k + 1) ρ' σ'
        | some (.brk, ρ', σ') => some (.next, ρ', σ')
        | some (.ret v, ρ', σ') => some (.ret v, ρ', σ')
        | .none => .none
noncomputable def forS (it : Ex It) (tg : As) (b : St) : St := fun ρ σ => match it ρ σ with
  | some (i, σ₁) => forL i tg b 100 0 ρ σ₁
  | .none => .none
theorem seqS_c (s : St) (r : List St) (ρ : Rho) (σ : H) : zI (s :: r) ρ σ = match s ρ σ with
    | some (.next, ρ', σ') => zI r ρ' σ'
    | some (f, ρ', σ') => some (f, ρ', σ')
    | .none => .none := rfl
theorem whileL_c (t : Ex Bool) (b : St) (f : Nat) (ρ : Rho) (σ : H) : whileL t b (f + 1) ρ σ = match t ρ σ with
    | some (true, σ₁) => (match b ρ σ₁ with
      | some (.next, ρ', σ') => whileL t b f ρ' σ'
      | some (.cont, ρ', σ') => whileL t b f ρ' σ'
      | some (.brk, ρ', σ') => some (.next, ρ', σ')
      | some (.ret v, ρ', σ') => some (.ret v, ρ', σ')
      | .none => .none)
    | some (false, σ₁) => some (.next, ρ, σ₁)
    | .none => .none := rfl
theorem forL_c (it : It) (tg : As) (b : St) (f k : Nat) (ρ : Rho) (σ : H) : forL it tg b (f + 1) k ρ σ = match it.nxt k σ with
    | .none => .none
    | some .none => some (.next, ρ, σ)
    | some (some v) => match tg v ρ σ with
      | .none => .none
      | some (ρ₁, σ₁) => match b ρ₁ σ₁ with
        | some (.next, ρ', σ') => forL it tg b f (k + 1) ρ' σ'
        | some (.cont, ρ', σ') => forL it tg b f (k + 1) ρ' σ'
        | some (.brk, ρ', σ') => some (.next, ρ', σ')
        | some (.ret v, ρ', σ') => some (.ret v, ρ', σ')
        | .none => .none := rfl
theorem compL_c (it : It) (tg : As) (ifs : List (Ex Bool)) (elt : Ex V) (f k : Nat) (ρ : Rho) (σ : H) (acc : List V) : compL it tg ifs elt (f + 1) k ρ σ acc = match it.nxt k σ with
    | .none => .none
    | some .none => some (acc, σ)
    | some (some v) => match tg v ρ σ with
      | .none => .none
      | some (ρ₁, σ₁) => match allT ifs ρ₁ σ₁ with
        | .none => .none
        | some (false, σ₂) => compL it tg ifs elt f (k + 1) ρ₁ σ₂ acc
        | some (true, σ₂) => match elt ρ₁ σ₂ with
          | .none => .none
          | some (x, σ₃) => compL it tg ifs elt f (k + 1) ρ₁ σ₃ (acc ++ [x]) := rfl
theorem isTys_c (v : V) (t : Ty) (r : List Ty) (σ : H) : isTys v (t :: r) σ = match isTy v t σ with | some true => some true | some false => isTys v r σ | .none => .none := rfl
theorem eachA_c (a : As) (as : List As) (v : V) (vs : List V) (ρ : Rho) (σ : H) : eachA (a :: as) (v :: vs) ρ σ = match a v ρ σ with | some (ρ', σ') => eachA as vs ρ' σ' | .none => .none := rfl
noncomputable def fnD (np ns : Nat) (ds : List V) (b : St) : Fn := fun vs σ =>
  if vs.length ≤ np ∧ np ≤ vs.length + ds.length then
    match b ((vs ++ ds.drop (ds.length - (np - vs.length))).map some ++ List.replicate (ns - np) .none) σ with
    | some (.next, _, σ') => some (.none, σ')
    | some (.ret v, _, σ') => some (v, σ')
    | _ => .none
  else .none
noncomputable def noF : Fn := fun _ _ => .none
end Mine


section
open PySem PySem.W PySem.Calls PyProof.Rows PySem.Spec
namespace Mine

noncomputable def wW : Fd → Str
  | .number => Str.ofString "number" | .mark => Str.ofString "mark" | .size => Str.ofString "size" | .mta => Str.ofString "meta" | .flags => Str.ofString "flags" | .weak => Str.ofString "weak" | .array => Str.ofString "array" | .nodes => Str.ofString "nodes" | .log_nodes => Str.ofString "log_nodes" | .free => Str.ofString "free" | .value => Str.ofString "value" | .env => Str.ofString "env" | .is_finalized => Str.ofString "is_finalized" | .function => Str.ofString "function" | .name => Str.ofString "name" | .upvals => Str.ofString "upvals" | .key => Str.ofString "key" | .next => Str.ofString "next" | .kind => Str.ofString "kind"

noncomputable abbrev Phi := List (Addr × Addr)
noncomputable abbrev listO (vs : List Value) (n : Nat) : Obj := { cls := .type "list", data := .seq vs.toArray n }
noncomputable abbrev tupO (vs : List Value) : Obj := { cls := .type "tuple", data := .seq vs.toArray }

noncomputable def InP (φ : Phi) (a : Addr) : Prop := ∃ p ∈ φ, a = p.1 ∨ a = p.2

mutual
inductive VR (fa : Nat → Addr) (φ : Phi) (h : Heap) : V → Value → Prop where
  | none : VR fa φ h .none .none
  | bool (b : Bool) : VR fa φ h (.bool b) (.bool b)
  | int (i : Int) (t : Tok) : VR fa φ h (.int i) (.int i t)
  | str (s : List Nat) (t : Tok) : VR fa φ h (.str s) (.str ⟨s.toArray⟩ t)
  | bytes (b : List UInt8) (t : Tok) : VR fa φ h (.bytes b) (.bytes b.toArray t)
  | fn (k : Nat) : VR fa φ h (.fn k) (.ref (fa k))
  | tup (vs : List V) (as : List Value) (a : Addr) : h.get? a = some (tupO as) → ¬ InP φ a → VRs fa φ h vs as → VR fa φ h (.tup vs) (.ref a)
  | obj (i : Nat) (p : Addr × Addr) : φ[i]? = some p → VR fa φ h (.obj i) (.ref p.1)
inductive VRs (fa : Nat → Addr) (φ : Phi) (h : Heap) : List V → List Value → Prop where
  | nil : VRs fa φ h [] []
  | cons {v : V} {a : Value} {vs : List V} {as : List Value} : VR fa φ h v a → VRs fa φ h vs as → VRs fa φ h (v :: vs) (a :: as)
end

noncomputable def Ext (φ φ' : Phi) : Prop := ∃ t, φ' = φ ++ t
theorem Ext.refl (φ : Phi) : Ext φ φ := ⟨[], (List.append_nil φ).symm⟩
theorem Ext.trans {φ φ' φ'' : Phi} (a : Ext φ φ') (b : Ext φ' φ'') : Ext φ φ'' := by
  obtain ⟨t, rfl⟩ := a; obtain ⟨u, rfl⟩ := b; exact ⟨t ++ u, List.append_assoc ..⟩
theorem Ext.get {φ φ' : Phi} (a : Ext φ φ') {i : Nat} {p : Addr × Addr} (h : φ[i]? = some p) : φ'[i]? = some p := by
  obtain ⟨t, rfl⟩ := a
  rw [List.getElem?_append_left (by
    rcases Nat.lt_or_ge i φ.length with h' | h'
    · exact h'
    · rw [List.getElem?_eq_none h'] at h; cases h)]
  exact h
theorem InP.mono {φ φ' : Phi} (e : Ext φ φ') {a : Addr} (h : InP φ a) : InP φ' a := by
  obtain ⟨t, rfl⟩ := e; obtain ⟨p, hp, h⟩ := h; exact ⟨p, List.mem_append_left _ hp, h⟩
theorem InP.at {φ : Phi} {i : Nat} {p : Addr × Addr} (e : φ[i]? = some p) : InP φ p.1 ∧ InP φ p.2 :=
  ⟨⟨p, List.mem_of_getElem? e, .inl rfl⟩, ⟨p, List.mem_of_getElem? e, .inr rfl⟩⟩

structure Step (φ : Phi) (h : Heap) (φ' : Phi) (h' : Heap) : Prop where
  ext : Ext φ φ'
  fresh : ∀ a, InP φ' a → InP φ a ∨ h.get? a = none
  keep : ∀ b o, h.get? b = some o → ¬ InP φ b → h'.get? b = some o
theorem Step.refl (φ : Phi) (h : Heap) : Step φ h φ h := ⟨.refl φ, fun _ h => .inl h, fun _ _ e _ => e⟩
theorem Step.keeps {φ : Phi} {h h' : Heap} (k : ∀ b o, h.get? b = some o → h'.get? b = some o) : Step φ h φ h' := ⟨.refl φ, fun _ h => .inl h, fun b o e _ => k b o e⟩
theorem Step.push (φ : Phi) (h : Heap) (o : Obj) : Step φ h φ (h.push o) := .keeps fun _ _ e => Heap.get?_push_of_some o e
theorem Step.trans {φ φ' φ'' : Phi} {h h' h'' : Heap} (a : Step φ h φ' h') (b : Step φ' h' φ'' h'') : Step φ h φ'' h'' where
  ext := a.ext.trans b.ext
  fresh := fun x hx => by
    rcases b.fresh x hx with h1 | h1
    · exact a.fresh x h1
    · by_cases hn : InP φ x
      · exact .inl hn
      · refine .inr ?_
        cases q : h.get? x with
        | none => rfl
        | some o => rw [a.keep x o q hn] at h1; cases h1
  keep := fun x o e hn => b.keep x o (a.keep x o e hn) fun hx => by
    rcases a.fresh x hx with h1 | h1
    · exact hn h1
    · rw [e] at h1; cases h1
theorem Step.off {φ φ' : Phi} {h h' : Heap} (a : Step φ h φ' h') {x : Addr} {o : Obj} (e : h.get? x = some o) (hn : ¬ InP φ x) : ¬ InP φ' x := fun hx => by
  rcases a.fresh x hx with h1 | h1
  · exact hn h1
  · rw [e] at h1; cases h1

structure StepX (X : Addr → Prop) (φ : Phi) (h : Heap) (φ' : Phi) (h' : Heap) : Prop where
  ext : Ext φ φ'
  fresh : ∀ a, InP φ' a → InP φ a ∨ h.get? a = none
  keep : ∀ b o, h.get? b = some o → ¬ InP φ b → ¬ X b → h'.get? b = some o
  alive : ∀ b, X b → h.get? b ≠ none → h'.get? b ≠ none
theorem Step.toX {X : Addr → Prop} {φ φ' : Phi} {h h' : Heap} (a : Step φ h φ' h') (hX : ∀ x, X x → ¬ InP φ x) : StepX X φ h φ' h' :=
  ⟨a.ext, a.fresh, fun b o e n _ => a.keep b o e n, fun b x n q => by
    cases e : h.get? b with
    | none => exact n e
    | some o => rw [a.keep b o e (hX b x)] at q; cases q⟩
theorem StepX.trans {X : Addr → Prop} {φ φ' φ'' : Phi} {h h' h'' : Heap} (a : StepX X φ h φ' h') (b : StepX X φ' h' φ'' h'') : StepX X φ h φ'' h'' where
  ext := a.ext.trans b.ext
  fresh := fun x hx => by
    rcases b.fresh x hx with h1 | h1
    · exact a.fresh x h1
    · by_cases hn : InP φ x
      · exact .inl hn
      · refine .inr ?_
        cases q : h.get? x with
        | none => rfl
        | some o =>
          by_cases hX : X x
          · exact absurd h1 (a.alive x hX (by rw [q]; exact fun z => by cases z))
          · rw [a.keep x o q hn hX] at h1; cases h1
  keep := fun x o e hn hX => b.keep x o (a.keep x o e hn hX) (fun hx => by
    rcases a.fresh x hx with h1 | h1
    · exact hn h1
    · rw [e] at h1; cases h1) hX
  alive := fun x hX n => b.alive x hX (a.alive x hX n)
theorem StepX.off {X : Addr → Prop} {φ φ' : Phi} {h h' : Heap} (a : StepX X φ h φ' h') {x : Addr} {o : Obj} (e : h.get? x = some o) (hn : ¬ InP φ x) : ¬ InP φ' x := fun hx => by
  rcases a.fresh x hx with h1 | h1
  · exact hn h1
  · rw [e] at h1; cases h1
theorem StepX.back {X : Addr → Prop} {φ φ' : Phi} {h₀ h h' : Heap} (k : ∀ b o, h₀.get? b = some o → h.get? b = some o) (hX : ∀ x, X x → h₀.get? x = none) (a : StepX X φ h φ' h') : Step φ h₀ φ' h' :=
  { ext := a.ext
    fresh := fun x hx => (a.fresh x hx).imp id fun e => by
      cases q : h₀.get? x with
      | none => rfl
      | some o => rw [k x o q] at e; cases e
    keep := fun b o e n => a.keep b o (k b o e) n fun x => by rw [hX b x] at e; cases e }

section
variable {fa : Nat → Addr}
mutual
theorem VR.mono {φ φ' : Phi} {h h' : Heap} (ex : Ext φ φ') (st : ∀ a us, h.get? a = some (tupO us) → ¬ InP φ a → h'.get? a = some (tupO us) ∧ ¬ InP φ' a) : ∀ {v : V} {x : Value}, VR fa φ h v x → VR fa φ' h' v x
  | _, _, .none => .none
  | _, _, .bool _ => .bool _
  | _, _, .int _ _ => .int _ _
  | _, _, .str _ _ => .str _ _
  | _, _, .bytes _ _ => .bytes _ _
  | _, _, .fn _ => .fn _
  | _, _, .tup vs as a e n r => .tup vs as a (st _ _ e n).1 (st _ _ e n).2 (VRs.mono ex st r)
  | _, _, .obj i p e => .obj i p (ex.get e)
theorem VRs.mono {φ φ' : Phi} {h h' : Heap} (ex : Ext φ φ') (st : ∀ a us, h.get? a = some (tupO us) → ¬ InP φ a → h'.get? a = some (tupO us) ∧ ¬ InP φ' a) : ∀ {v : List V} {x : List Value}, VRs fa φ h v x → VRs fa φ' h' v x
  | _, _, .nil => .nil
  | _, _, .cons a r => .cons (VR.mono ex st a) (VRs.mono ex st r)
end
theorem VR.step {φ φ' : Phi} {h h' : Heap} (st : Step φ h φ' h') {v : V} {x : Value} (r : VR fa φ h v x) : VR fa φ' h' v x := r.mono st.ext fun _ _ e n => ⟨st.keep _ _ e n, st.off e n⟩
theorem VRs.step {φ φ' : Phi} {h h' : Heap} (st : Step φ h φ' h') {v : List V} {x : List Value} (r : VRs fa φ h v x) : VRs fa φ' h' v x := r.mono st.ext fun _ _ e n => ⟨st.keep _ _ e n, st.off e n⟩
theorem VRs.length {φ : Phi} {h : Heap} : ∀ {vs : List V} {as : List Value}, VRs fa φ h vs as → vs.length = as.length
  | _, _, .nil => rfl
  | _, _, .cons _ r => by rw [List.length_cons, List.length_cons, r.length]
theorem VRs.get {φ : Phi} {h : Heap} : ∀ {vs : List V} {as : List Value}, VRs fa φ h vs as → ∀ {i : Nat} {v : V}, vs[i]? = some v → ∃ a, as[i]? = some a ∧ VR fa φ h v a
  | _, _, .nil, _, _, e => by cases e
  | _, _, .cons a r, 0, _, e => by cases e; exact ⟨_, rfl, a⟩
  | _, _, .cons a r, i + 1, v, e => r.get (i := i) e
theorem VRs.append {φ : Phi} {h : Heap} {us : List V} {bs : List Value} (r2 : VRs fa φ h us bs) : ∀ {vs : List V} {as : List Value}, VRs fa φ h vs as → VRs fa φ h (vs ++ us) (as ++ bs)
  | _, _, .nil => r2
  | _, _, .cons a r => .cons a (r2.append r)
theorem VRs.set {φ : Phi} {h : Heap} {u : V} {b : Value} (x : VR fa φ h u b) : ∀ {vs : List V} {as : List Value} (i : Nat), VRs fa φ h vs as → VRs fa φ h (vs.set i u) (as.set i b)
  | _, _, _, .nil => .nil
  | _, _, 0, .cons _ r => .cons x r
  | _, _, i + 1, .cons a r => .cons a (VRs.set x i r)
theorem VRs.take {φ : Phi} {h : Heap} : ∀ {vs : List V} {as : List Value} (i : Nat), VRs fa φ h vs as → VRs fa φ h (vs.take i) (as.take i)
  | _, _, 0, _ => .nil
  | _, _, _ + 1, .nil => .nil
  | _, _, i + 1, .cons a r => .cons a (r.take i)
theorem VRs.drop {φ : Phi} {h : Heap} : ∀ {vs : List V} {as : List Value} (i : Nat), VRs fa φ h vs as → VRs fa φ h (vs.drop i) (as.drop i)
  | _, _, 0, r => r
  | _, _, _ + 1, .nil => .nil
  | _, _, i + 1, .cons _ r => r.drop i
theorem VRs.reverse {φ : Phi} {h : Heap} : ∀ {vs : List V} {as : List Value}, VRs fa φ h vs as → VRs fa φ h vs.reverse as.reverse
  | _, _, .nil => .nil
  | _, _, .cons a r => by rw [List.reverse_cons, List.reverse_cons]; exact VRs.append (.cons a .nil) r.reverse
end

inductive FR (fa : Nat → Addr) (P : Params) (φ : Phi) (h : Heap) : List Fd → List V → List DictEntry → Prop where
  | nil {l : List Fd} : FR fa P φ h l [] []
  | cons {x : Fd} {l : List Fd} {v : V} {a : Value} {t : Tok} {fs : List V} {es : List DictEntry} : VR fa φ h v a → FR fa P φ h l fs es → FR fa P φ h (x :: l) (v :: fs) (⟨PyData.keyHash P (wW x), .str (wW x) t, a⟩ :: es)
theorem FR.mono {fa : Nat → Addr} {P : Params} {φ φ' : Phi} {h h' : Heap} (ex : Ext φ φ') (st : ∀ a us, h.get? a = some (tupO us) → ¬ InP φ a → h'.get? a = some (tupO us) ∧ ¬ InP φ' a) {l : List Fd} {fs : List V} {es : List DictEntry} (r : FR fa P φ h l fs es) : FR fa P φ' h' l fs es := by
  induction r with
  | nil => exact .nil
  | cons h _ ih => exact .cons (h.mono ex st) ih

structure Gd where
  prog : Program
  w : World
  K : Frag
  p : Program
  loose : List Str
  mg : Str → Option Value
  mb : Str → Option Value
  B : Heap
  X : K.In B
  T : TopRead p loose mg mb B
  ca : Cl → Addr
  fa : Nat → Addr

noncomputable def OR (G : Gd) (φ : Phi) (h : Heap) (m : MO) (p : Addr × Addr) : Prop := match m with
  | .inst c fs => h.get? p.1 = some (instObj (G.ca c) p.2) ∧ ∃ es n, h.get? p.2 = some (dictOf es n) ∧ FR G.fa G.w.params φ h (lay c) fs es
  | .list xs => p.2 = p.1 ∧ ∃ vs n, h.get? p.1 = some (listO vs n) ∧ VRs G.fa φ h xs vs

structure HR (G : Gd) (φ : Phi) (σ : H) (h : Heap) : Prop where
  len : φ.length = σ.length
  base : G.B.StaysIn h
  sep : ∀ (i : Nat) (p : Addr × Addr), φ[i]? = some p → i ≠ 0 → G.B.get? p.1 = none ∧ G.B.get? p.2 = none
  zero : ∃ xs, σ[0]? = some (.list xs)
  obj : ∀ (i : Nat) (m : MO) (p : Addr × Addr), σ[i]? = some m → φ[i]? = some p → OR G φ h m p
  inj : ∀ (i j : Nat) (p q : Addr × Addr), φ[i]? = some p → φ[j]? = some q → i ≠ j → p.1 ≠ q.1 ∧ p.1 ≠ q.2 ∧ p.2 ≠ q.1 ∧ p.2 ≠ q.2

noncomputable def VarAt (G : Gd) (env : Env) (φ : Phi) (h : Heap) (x : Str) (v : V) : Prop :=
  (env.kindOf x = some .local ∧ ∃ m a, h.Ns env.locals m ∧ m x = some a ∧ VR G.fa φ h v a) ∨
  ((env.kindOf x = some .cell ∨ env.kindOf x = some .free) ∧ ∃ c a, env.cells.lookup x = some c ∧ h.IsCell c (some a) ∧ VR G.fa φ h v a)

noncomputable def xU : List (Str × NameKind) → Str → Option (Nat × NameKind)
  | [], _ => none
  | (y, k) :: r, x => if x == y then some (0, k) else (xU r x).map fun p => (p.1 + 1, p.2)

noncomputable def Own (env : Env) (a : Addr) : Prop := a = env.locals ∨ ∃ x, env.cells.lookup x = some a

structure EnvR (G : Gd) (cx : Scope) (env : Env) (φ : Phi) (ρ : Rho) (h : Heap) : Prop where
  sc : env.scope = cx
  kd : cx.kind = .function
  gl : env.globals = mainGlobals
  bi : env.builtins = builtinsNs
  nb : ∀ a, Own env a → G.B.get? a = none
  nf : ∀ a, Own env a → ¬ InP φ a
  ns : ∃ m, h.Ns env.locals m
  cel : ∀ x c, env.cells.lookup x = some c → (∃ v, h.IsCell c v) ∧ c ≠ env.locals
  cinj : ∀ x y c, env.cells.lookup x = some c → env.cells.lookup y = some c → x = y
  has : ∀ x, (cx.names.lookup x = some .cell ∨ cx.names.lookup x = some .free) → ∃ c, env.cells.lookup x = some c
  vars : ∀ (i : Nat) (x : Str) (k : NameKind) (v : V), xU cx.names x = some (i, k) → ρ[i]? = some (some v) → VarAt G env φ h x v

structure Room (n : Nat) (A : Around) : Prop where
  hd : A.handled = none
  dp : A.depth + 10 * n < 900
  un : A.units + 100 * n < 9000
theorem Room.mono {n m : Nat} {A : Around} (r : Room n A) (h : m ≤ n) : Room m A := ⟨r.hd, Nat.lt_of_le_of_lt (Nat.add_le_add_left (Nat.mul_le_mul_left 10 h) _) r.dp, Nat.lt_of_le_of_lt (Nat.add_le_add_left (Nat.mul_le_mul_left 100 h) _) r.un⟩
theorem room_le {a b c n : Nat} (h : b ≤ c) : a + b + c * n ≤ a + c * (n + 1) := by
  rw [Nat.mul_succ, Nat.add_assoc, Nat.add_comm b]; exact Nat.add_le_add_left (Nat.add_le_add_left h _) _
theorem Room.deeper {n : Nat} {A : Around} (r : Room (n + 1) A) (env : Env) : Room n (A.deeper env) := ⟨r.hd, Nat.lt_of_le_of_lt (room_le (a := A.depth) (b := 1) (by decide)) r.dp, Nat.lt_of_le_of_lt (room_le (a := A.units) (b := 3) (by decide)) r.un⟩
theorem Room.depth {n : Nat} {A : Around} (r : Room n A) : A.depth < recursionLimit := Nat.lt_of_le_of_lt (Nat.le_add_right _ _) (Nat.lt_trans r.dp (show 900 < 1000 by decide))
theorem Room.units {n : Nat} {A : Around} (r : Room n A) : A.units + 500 < cLine := Nat.lt_of_lt_of_le (Nat.add_lt_add_right (Nat.lt_of_le_of_lt (Nat.le_add_right _ _) r.un) 500) (show 9000 + 500 ≤ 9900 by decide)

theorem isCell_keep {h h' : Heap} {c : Addr} {v : Option Value} (x : h.IsCell c v) (k : ∀ o, h.get? c = some o → h'.get? c = some o) : h'.IsCell c v := by
  obtain ⟨o, a, b⟩ := x; exact ⟨o, k _ a, b⟩
theorem VarAt.step {G : Gd} {env : Env} {φ φ' : Phi} {h h' : Heap} {x : Str} {v : V} (nf : ∀ a, Own env a → ¬ InP φ a) (a : Step φ h φ' h') (H : VarAt G env φ h x v) : VarAt G env φ' h' x v := by
  rcases H with ⟨hk, m, b, hm, e, r⟩ | ⟨hk, c, b, hc, hv, r⟩
  · exact .inl ⟨hk, m, b, hm.at' (fun o e => a.keep _ o e (nf _ (.inl rfl))), e, r.step a⟩
  · exact .inr ⟨hk, c, b, hc, isCell_keep hv fun o e => a.keep _ o e (nf _ (.inr ⟨x, hc⟩)), r.step a⟩
theorem EnvR.step {G : Gd} {cx : Scope} {env : Env} {φ φ' : Phi} {ρ : Rho} {h h' : Heap} (H : EnvR G cx env φ ρ h) (a : Step φ h φ' h') : EnvR G cx env φ' ρ h' where
  sc := H.sc
  kd := H.kd
  gl := H.gl
  bi := H.bi
  nb := H.nb
  nf := fun x hx => by
    rcases hx with rfl | ⟨y, hy⟩
    · obtain ⟨m, o, es, ep, ho, _⟩ := H.ns; exact a.off ho (H.nf _ (.inl rfl))
    · obtain ⟨⟨v, o, ho, _⟩, _⟩ := H.cel y x hy; exact a.off ho (H.nf _ (.inr ⟨y, hy⟩))
  ns := by obtain ⟨m, hm⟩ := H.ns; exact ⟨m, hm.at' fun o e => a.keep _ o e (H.nf _ (.inl rfl))⟩
  cel := fun x c hc => by
    obtain ⟨⟨v, hv⟩, hn⟩ := H.cel x c hc
    exact ⟨⟨v, isCell_keep hv fun o e => a.keep _ o e (H.nf _ (.inr ⟨x, hc⟩))⟩, hn⟩
  cinj := H.cinj
  has := H.has
  vars := fun i x k v h1 h2 => (H.vars i x k v h1 h2).step H.nf a

noncomputable def yE {α β : Type} (G : Gd) (cx : Scope) (n : Nat) (t : Env → Sem α) (e : Ex β) (R : Phi → Heap → β → α → Prop) : Prop :=
  ∀ (A : Around) (env : Env) (φ : Phi) (ρ : Rho) (σ : H) (s : Shared) (Q : α → Shared → Prop) (E : Value → Shared → Prop) (b : β) (σ' : H),
    Room n A → EnvR G cx env φ ρ s.heap → HR G φ σ s.heap → e ρ σ = some (b, σ') →
    (∀ a φ' h' tk, Step φ s.heap φ' h' → HR G φ' σ' h' → R φ' h' b a → Q a { s with heap := h', toks := tk }) →
    wpAny (model G.prog G.w) A (t env) Q E s

noncomputable def SimH {α β : Type} (G : Gd) (n : Nat) (φ : Phi) (h : Heap) (t : Sem α) (e : H → Option (β × H)) (R : Phi → Heap → β → α → Prop) : Prop :=
  ∀ (A : Around) (σ : H) (s : Shared) (Q : α → Shared → Prop) (E : Value → Shared → Prop) (b : β) (σ' : H), s.heap = h →
    Room n A → HR G φ σ s.heap → e σ = some (b, σ') →
    (∀ a φ' h' tk, Step φ s.heap φ' h' → HR G φ' σ' h' → R φ' h' b a → Q a { s with heap := h', toks := tk }) →
    wpAny (model G.prog G.w) A t Q E s

noncomputable def yU (G : Gd) (n : Nat) (f : Value) (F : Fn) : Prop :=
  ∀ (φ : Phi) (vs : List V) (as : List Value) (A : Around) (σ : H) (s : Shared) (R : Result → Shared → Prop) (b : V) (σ' : H), VRs G.fa φ s.heap vs as →
    Room n A → HR G φ σ s.heap → F vs σ = some (b, σ') →
    (∀ a φ' h' tk, Step φ s.heap φ' h' → HR G φ' σ' h' → VR G.fa φ' h' b a → R (.ok (.ret a)) { s with heap := h', toks := tk }) →
    codeAny (model G.prog G.w) A (.call f ⟨as, []⟩) R s

noncomputable abbrev VRG (G : Gd) := VR G.fa

inductive FlR (fa : Nat → Addr) (φ : Phi) (h : Heap) : Fl → Flow → Prop where
  | next : FlR fa φ h .next .next
  | brk : FlR fa φ h .brk .brk
  | cont : FlR fa φ h .cont .cont
  | ret {v : V} {a : Value} : VR fa φ h v a → FlR fa φ h (.ret v) (.ret a)
noncomputable def SimS (G : Gd) (cx : Scope) (n : Nat) (t : Env → Sem Flow) (e : St) : Prop :=
  ∀ (A : Around) (env : Env) (φ : Phi) (ρ : Rho) (σ : H) (s : Shared) (Q : Flow → Shared → Prop) (E : Value → Shared → Prop) (f : Fl) (ρ' : Rho) (σ' : H),
    Room n A → EnvR G cx env φ ρ s.heap → HR G φ σ s.heap → e ρ σ = some (f, ρ', σ') →
    (∀ a φ' h' tk, StepX (Own env) φ s.heap φ' h' → EnvR G cx env φ' ρ' h' → HR G φ' σ' h' → FlR G.fa φ' h' f a → Q a { s with heap := h', toks := tk }) →
    wpAny (model G.prog G.w) A (t env) Q E s
noncomputable def SimA (G : Gd) (cx : Scope) (n : Nat) (t : Env → Value → Sem Unit) (e : As) : Prop :=
  ∀ (A : Around) (env : Env) (φ : Phi) (ρ : Rho) (σ : H) (s : Shared) (Q : Unit → Shared → Prop) (E : Value → Shared → Prop) (v : V) (x : Value) (ρ' : Rho) (σ' : H),
    Room n A → EnvR G cx env φ ρ s.heap → HR G φ σ s.heap → VR G.fa φ s.heap v x → e v ρ σ = some (ρ', σ') →
    (∀ φ' h' tk, StepX (Own env) φ s.heap φ' h' → EnvR G cx env φ' ρ' h' → HR G φ' σ' h' → Q () { s with heap := h', toks := tk }) →
    wpAny (model G.prog G.w) A (t env x) Q E s
end Mine


section
open PySem PySem.W PySem.Calls PyProof.Rows PySem.Spec
namespace Mine
section
variable {G : Gd} {cx : Scope} {n : Nat}

theorem slot_kind : ∀ {l : List (Str × NameKind)} {x : Str} {i : Nat} {k : NameKind}, xU l x = some (i, k) → l.lookup x = some k
  | [], _, _, _, h => by cases h
  | (y, k') :: r, x, i, k, h => by
    unfold xU at h
    rw [List.lookup_cons]
    cases q : x == y with
    | true => simp only [q, if_true, Option.some.injEq, Prod.mk.injEq] at h; rw [h.2]
    | false =>
      simp only [q, Bool.false_eq_true, if_false] at h
      obtain ⟨p, hp, e⟩ := Option.map_eq_some_iff.mp h
      cases e
      exact slot_kind (l := r) (i := p.1) hp
theorem slot_inj : ∀ {l : List (Str × NameKind)} {x y : Str} {i : Nat} {k k' : NameKind}, xU l x = some (i, k) → xU l y = some (i, k') → x = y
  | [], _, _, _, _, _, h, _ => by cases h
  | (z, _) :: r, x, y, i, k, k', h1, h2 => by
    unfold xU at h1 h2
    split at h1
    · rename_i q1; cases h1
      split at h2
      · rename_i q2; rw [beq_iff_eq.mp q1, beq_iff_eq.mp q2]
      · obtain ⟨p, _, e⟩ := Option.map_eq_some_iff.mp h2; cases e
    · obtain ⟨p, hp, e⟩ := Option.map_eq_some_iff.mp h1
      cases e
      split at h2
      · cases h2
      · obtain ⟨p', hp', e'⟩ := Option.map_eq_some_iff.mp h2
        obtain ⟨a, b⟩ := p; obtain ⟨a', b'⟩ := p'
        simp only [Prod.mk.injEq, Nat.add_right_cancel_iff] at e'
        obtain ⟨rfl, rfl⟩ := e'
        exact slot_inj hp hp'
theorem EnvR.kind {env : Env} {φ : Phi} {ρ : Rho} {h : Heap} (H : EnvR G cx env φ ρ h) {x : Str} {i : Nat} {k : NameKind} (e : xU cx.names x = some (i, k)) : env.kindOf x = some k := by
  show env.scope.names.lookup x = some k
  rw [H.sc]; exact slot_kind e
theorem EnvR.fn {env : Env} {φ : Phi} {ρ : Rho} {h : Heap} (H : EnvR G cx env φ ρ h) : env.scope.kind = .function := by rw [H.sc]; exact H.kd

theorem HR.topG {φ : Phi} {σ : H} {h : Heap} (R : HR G φ σ h) : h.Ns mainGlobals G.mg := G.T.g.keeps R.base
theorem HR.topB {φ : Phi} {σ : H} {h : Heap} (R : HR G φ σ h) : h.Ns builtinsNs G.mb := G.T.b.keeps R.base
theorem HR.inK {φ : Phi} {σ : H} {h : Heap} (R : HR G φ σ h) : G.K.In h := G.X.keeps R.base
theorem HR.nolimit {φ : Phi} {σ : H} {h : Heap} (R : HR G φ σ h) : h.NoLimit := G.T.nolimit.keeps R.base
theorem OR.mono {φ φ' : Phi} {h h' : Heap} (ex : Ext φ φ') (st : ∀ a us, h.get? a = some (tupO us) → ¬ InP φ a → h'.get? a = some (tupO us) ∧ ¬ InP φ' a) {m : MO} {p : Addr × Addr} (k1 : ∀ o, h.get? p.1 = some o → h'.get? p.1 = some o) (k2 : ∀ o, h.get? p.2 = some o → h'.get? p.2 = some o) (o : OR G φ h m p) : OR G φ' h' m p := by
  cases m with
  | inst c fs => obtain ⟨a, es, n, b, f⟩ := o; exact ⟨k1 _ a, es, n, k2 _ b, f.mono ex st⟩
  | list xs => obtain ⟨e, vs, n, b, f⟩ := o; exact ⟨e, vs, n, k1 _ b, f.mono ex st⟩
theorem OR.live {φ : Phi} {h : Heap} {m : MO} {p : Addr × Addr} (o : OR G φ h m p) : (∃ o, h.get? p.1 = some o) ∧ ∃ o, h.get? p.2 = some o := by
  cases m with
  | inst c fs => obtain ⟨a, es, n, b, f⟩ := o; exact ⟨⟨_, a⟩, _, b⟩
  | list xs => obtain ⟨e, vs, n, b, f⟩ := o; exact ⟨⟨_, b⟩, _, e ▸ b⟩
theorem HR.at {φ : Phi} {σ : H} {h : Heap} (R : HR G φ σ h) {i : Nat} {p : Addr × Addr} (e : φ[i]? = some p) : ∃ m, σ[i]? = some m ∧ OR G φ h m p := by
  have hi : i < σ.length := by
    rw [← R.len]
    rcases Nat.lt_or_ge i φ.length with h' | h'
    · exact h'
    · rw [List.getElem?_eq_none h'] at e; cases e
  exact ⟨σ[i], List.getElem?_eq_getElem hi, R.obj i _ p (List.getElem?_eq_getElem hi) e⟩
theorem HR.liveP {φ : Phi} {σ : H} {h : Heap} (R : HR G φ σ h) {a : Addr} (e : InP φ a) : ∃ o, h.get? a = some o := by
  obtain ⟨p, hp, ha⟩ := e
  obtain ⟨i, hi⟩ := List.mem_iff_getElem?.mp hp
  obtain ⟨m, _, o⟩ := R.at hi
  rcases ha with rfl | rfl
  · exact o.live.1
  · exact o.live.2
theorem HR.keeps {φ : Phi} {σ : H} {h h' : Heap} (R : HR G φ σ h) (k : ∀ b o, h.get? b = some o → h'.get? b = some o) : HR G φ σ h' where
  len := R.len
  base := fun b o e => k b o (R.base b o e)
  sep := R.sep
  zero := R.zero
  obj := fun i m p e1 e2 => (R.obj i m p e1 e2).mono (.refl _) (fun _ _ e n => ⟨k _ _ e, n⟩) (k _) (k _)
  inj := R.inj
theorem HR.keepsX {X : Addr → Prop} {φ : Phi} {σ : H} {h h' : Heap} (R : HR G φ σ h) (hb : ∀ a, X a → G.B.get? a = none) (hp : ∀ a, X a → ¬ InP φ a) (ht : ∀ a us, X a → h.get? a ≠ some (tupO us)) (k : ∀ b o, ¬ X b → h.get? b = some o → h'.get? b = some o) : HR G φ σ h' where
  len := R.len
  base := fun b o e => k b o (fun x => by rw [hb b x] at e; cases e) (R.base b o e)
  sep := R.sep
  zero := R.zero
  obj := fun i m p e1 e2 => (R.obj i m p e1 e2).mono (.refl _) (fun a us e n => ⟨k _ _ (fun x => ht a us x e) e, n⟩) (fun o e => k _ _ (fun x => hp _ x (InP.at e2).1) e) (fun o e => k _ _ (fun x => hp _ x (InP.at e2).2) e)
  inj := R.inj
theorem HR.put {φ : Phi} {σ : H} {h h' : Heap} (R : HR G φ σ h) {i : Nat} {p : Addr × Addr} {m : MO} {q : Addr} (hi : i ≠ 0) (hp : φ[i]? = some p) (hq : q = p.1 ∨ q = p.2) (hs : Heap.SameBut q h h') (ho : OR G φ h' m p) :
    HR G φ (σ.set i m) h' ∧ Step φ h φ h' := by
  have iq : InP φ q := by rcases hq with rfl | rfl; exact (InP.at hp).1; exact (InP.at hp).2
  have st : ∀ b o, h.get? b = some o → ¬ InP φ b → h'.get? b = some o := fun b o e nb => (hs.2 b fun z => nb (z ▸ iq)).trans e
  refine ⟨⟨by rw [List.length_set]; exact R.len, fun b o e => (hs.2 b fun z => ?_).trans (R.base b o e), R.sep, ?_, fun j m' p' e1 e2 => ?_, R.inj⟩, .refl _, fun _ x => .inl x, st⟩
  · subst z
    rcases hq with rfl | rfl
    · rw [(R.sep i p hp hi).1] at e; cases e
    · rw [(R.sep i p hp hi).2] at e; cases e
  · rw [List.getElem?_set_ne hi]; exact R.zero
  · by_cases hij : i = j
    · subst hij
      rw [hp] at e2; cases e2
      obtain ⟨m₀, hm₀, _⟩ := R.at hp
      rw [List.getElem?_set_self (by
        rcases Nat.lt_or_ge i σ.length with h' | h'
        · exact h'
        · rw [List.getElem?_eq_none h'] at hm₀; cases hm₀)] at e1
      cases e1; exact ho
    · rw [List.getElem?_set_ne hij] at e1
      have d := R.inj i j p p' hp e2 hij
      refine (R.obj j m' p' e1 e2).mono (.refl _) (fun a us e nn => ⟨st _ _ e nn, nn⟩) (fun o e => (hs.2 _ fun z => ?_).trans e) (fun o e => (hs.2 _ fun z => ?_).trans e)
      · rcases hq with rfl | rfl
        · exact d.1 z.symm
        · exact d.2.2.1 z.symm
      · rcases hq with rfl | rfl
        · exact d.2.1 z.symm
        · exact d.2.2.2 z.symm
theorem HR.make {φ : Phi} {σ : H} {h h' : Heap} (R : HR G φ σ h) {p : Addr × Addr} {m : MO} (k : ∀ b o, h.get? b = some o → h'.get? b = some o) (n1 : h.get? p.1 = none) (n2 : h.get? p.2 = none) (ho : OR G (φ ++ [p]) h' m p) :
    HR G (φ ++ [p]) (σ ++ [m]) h' ∧ Step φ h (φ ++ [p]) h' := by
  have ip : ∀ a, InP (φ ++ [p]) a → InP φ a ∨ h.get? a = none := fun a ⟨q, hq, ha⟩ => by
    rcases List.mem_append.mp hq with hq | hq
    · exact .inl ⟨q, hq, ha⟩
    · cases List.mem_singleton.mp hq
      rcases ha with rfl | rfl
      · exact .inr n1
      · exact .inr n2
  have cas : ∀ {j : Nat} {q : Addr × Addr}, (φ ++ [p])[j]? = some q → φ[j]? = some q ∨ (j = φ.length ∧ q = p) := fun {j q} e => by
    rcases Nat.lt_or_ge j φ.length with h1 | h1
    · rw [List.getElem?_append_left h1] at e; exact .inl e
    · rw [List.getElem?_append_right h1] at e
      cases z : j - φ.length with
      | zero => rw [z] at e; cases e; exact .inr ⟨by omega, rfl⟩
      | succ k => rw [z] at e; cases e
  have far : ∀ {j : Nat} {q : Addr × Addr}, φ[j]? = some q → q.1 ≠ p.1 ∧ q.1 ≠ p.2 ∧ q.2 ≠ p.1 ∧ q.2 ≠ p.2 := fun {j q} e => by
    obtain ⟨⟨o1, l1⟩, o2, l2⟩ := (R.at e).choose_spec.2.live
    refine ⟨fun z => ?_, fun z => ?_, fun z => ?_, fun z => ?_⟩
    · rw [z, n1] at l1; cases l1
    · rw [z, n2] at l1; cases l1
    · rw [z, n1] at l2; cases l2
    · rw [z, n2] at l2; cases l2
  refine ⟨⟨by rw [List.length_append, List.length_append, R.len]; rfl, fun b o e => k b o (R.base b o e), fun j q e hj => ?_, ?_, fun j m' q e1 e2 => ?_, fun i j q r e1 e2 hij => ?_⟩, ⟨[p], rfl⟩, ip, fun b o e _ => k b o e⟩
  · rcases cas e with e | ⟨rfl, rfl⟩
    · exact R.sep j q e hj
    · have f : ∀ a, h.get? a = none → G.B.get? a = none := fun a h1 => by
        cases z : G.B.get? a with
        | none => rfl
        | some o => rw [R.base a o z] at h1; cases h1
      exact ⟨f _ n1, f _ n2⟩
  · obtain ⟨xs, e⟩ := R.zero
    exact ⟨xs, by rw [List.getElem?_append_left (List.getElem?_eq_some_iff.mp e).1]; exact e⟩
  · rcases cas e2 with e2 | ⟨rfl, rfl⟩
    · have : j < σ.length := by
        rw [← R.len]
        rcases Nat.lt_or_ge j φ.length with h' | h'
        · exact h'
        · rw [List.getElem?_eq_none h'] at e2; cases e2
      rw [List.getElem?_append_left this] at e1
      refine (R.obj j m' q e1 e2).mono ⟨[p], rfl⟩ (fun a us e nn => ⟨k _ _ e, fun z => ?_⟩) (k _) (k _)
      rcases ip a z with z | z
      · exact nn z
      · rw [e] at z; cases z
    · rw [R.len, List.getElem?_append_right (Nat.le_refl _), Nat.sub_self] at e1
      cases e1; exact ho
  · rcases cas e1 with f1 | ⟨z1, z2⟩
    · rcases cas e2 with f2 | ⟨z3, z4⟩
      · exact R.inj i j q r f1 f2 hij
      · rw [z4]; exact far f1
    · rcases cas e2 with f2 | ⟨z3, z4⟩
      · rw [z2]; have := far f2; exact ⟨this.1.symm, this.2.2.1.symm, this.2.1.symm, this.2.2.2.symm⟩
      · exact absurd (z1.trans z3.symm) hij
set_option tactic.hygienic true in
theorem HR.listAt {φ : Phi} {σ : H} {h : Heap} (R : HR G φ σ h) {v : V} {x : Value} {xs : List V} (r : VR G.fa φ h v x) (e : listAt σ v = some xs) : ∃ i p vs n, v = .obj i ∧ σ[i]? = some (.list xs) ∧ φ[i]? = some p ∧ x = .ref p.1 ∧ p.2 = p.1 ∧ h.get? p.1 = some (listO vs n) ∧ VRs G.fa φ h xs vs := by
  unfold Mine.listAt at e
  split at e
  · rename_i i
    split at e
    · rename_i ys hy
      cases e
      cases r with
      | obj _ p hp =>
        obtain ⟨p2, vs, n, a, b⟩ := R.obj i _ p hy hp
        exact ⟨i, p, vs, n, rfl, hy, hp, rfl, p2, a, b⟩
    · cases e
  · cases e
theorem xP {h : Heap} {a : Addr} {vs : List Value} {n : Nat} (e : h.get? a = some (listO vs n)) : h.IsList a vs.toArray := ⟨_, e, rfl, n, rfl⟩
theorem HR.inst {φ : Phi} {σ : H} {h : Heap} (R : HR G φ σ h) {i : Nat} {x : Value} {c : Cl} {fs : List V} (r : VR G.fa φ h (.obj i) x) (e : σ[i]? = some (.inst c fs)) : ∃ p es n, φ[i]? = some p ∧ x = .ref p.1 ∧ h.get? p.1 = some (instObj (G.ca c) p.2) ∧ h.get? p.2 = some (dictOf es n) ∧ FR G.fa G.w.params φ h (lay c) fs es ∧ InstAt h p.1 (instObj (G.ca c) p.2) (G.ca c) (some (dictOf es n)) := by
  cases r with
  | obj _ p hp =>
    obtain ⟨a, es, n, b, f⟩ := R.obj i _ p e hp
    exact ⟨p, es, n, hp, rfl, a, b, f, a, rfl, rfl, b⟩
end
end Mine


section
open PySem PySem.W PySem.Calls PyProof.Rows PySem.Spec
namespace Mine
section
variable {G : Gd} {cx : Scope} {n : Nat}

theorem xY {α β : Type} {e : Ex α} {f : α → Ex β} {ρ : Rho} {σ σ' : H} {b : β} (h : yD e f ρ σ = some (b, σ')) : ∃ a σ₁, e ρ σ = some (a, σ₁) ∧ f a ρ σ₁ = some (b, σ') := by
  unfold yD at h
  cases q : e ρ σ with
  | none => rw [q] at h; cases h
  | some p => rw [q] at h; exact ⟨p.1, p.2, rfl, h⟩
theorem xH {β : Type} {f : H → Option β} {ρ : Rho} {σ σ' : H} {b : β} (h : readE f ρ σ = some (b, σ')) : f σ = some b ∧ σ' = σ := by
  unfold readE at h
  split at h
  · rename_i q; cases h; exact ⟨q, rfl⟩
  · cases h

theorem yO {α β γ : Type} {t : Env → Sem α} {e : Ex β} {R : Phi → Heap → β → α → Prop} (hs : yE G cx n t e R) {f : β → Ex γ} {A : Around} {env : Env} {φ : Phi} {ρ : Rho} {σ σ' : H} {c : γ} {s : Shared} {Q : α → Shared → Prop} {E : Value → Shared → Prop}
    (rm : Room n A) (er : EnvR G cx env φ ρ s.heap) (hr : HR G φ σ s.heap) (hm : yD e f ρ σ = some (c, σ'))
    (k : ∀ a b φ' σ₁ h' tk, Step φ s.heap φ' h' → EnvR G cx env φ' ρ h' → HR G φ' σ₁ h' → R φ' h' b a → f b ρ σ₁ = some (c, σ') → Q a { s with heap := h', toks := tk }) :
    wpAny (model G.prog G.w) A (t env) Q E s := by
  obtain ⟨b, σ₁, h1, h2⟩ := xY hm
  exact hs A env φ ρ σ s Q E b σ₁ rm er hr h1 fun a φ' h' tk st hr' r => k a b φ' σ₁ h' tk st (er.step st) hr' r h2
theorem sim_no {α β : Type} {t : Env → Sem α} {R : Phi → Heap → β → α → Prop} : yE G cx n t noE R := fun _ _ _ _ _ _ _ _ _ _ _ _ _ hm => nomatch hm

theorem zK {i : Int} {k pos} : yE G cx n (eval (.Constant (.int i) k pos)) (cE (.int i)) (VRG G) := by
  intro A env φ ρ σ s Q E b σ' rm er hr hm q
  cases hm
  exact wpAny_Constant_int (q _ φ s.heap _ (.refl ..) hr (.int _ _))
theorem yA {k pos} : yE G cx n (eval (.Constant .none k pos)) (cE .none) (VRG G) := by
  intro A env φ ρ σ s Q E b σ' rm er hr hm q
  cases hm
  exact Constant_none (q _ φ s.heap s.toks (.refl ..) hr .none)
theorem xQ {c : Bool} {k pos} : yE G cx n (eval (.Constant (.bool c) k pos)) (cE (.bool c)) (VRG G) := by
  intro A env φ ρ σ s Q E b σ' rm er hr hm q
  cases hm
  exact Constant_bool (q _ φ s.heap s.toks (.refl ..) hr (.bool _))
theorem sim_str {x : Str} {l : List Nat} {k pos} (hx : x.cps.toList = l := by decide +kernel) : yE G cx n (eval (.Constant (.str x) k pos)) (cE (.str l)) (VRG G) := by
  intro A env φ ρ σ s Q E b σ' rm er hr hm q
  cases hm
  subst hx
  exact Constant_str (q _ φ s.heap _ (.refl ..) hr (.str x.cps.toList _))
theorem xA {x : List UInt8} {k pos} : yE G cx n (eval (.Constant (.bytes x) k pos)) (cE (.bytes x)) (VRG G) := by
  intro A env φ ρ σ s Q E b σ' rm er hr hm q
  cases hm
  exact fun _ _ _ => q _ φ s.heap _ (.refl ..) hr (.bytes _ _)

set_option tactic.hygienic true in
theorem zA {x : Str} {pos : Pos} {i : Nat} {k : NameKind} (hx : xU cx.names x = some (i, k)) (hd : (x == ("__debug__" : Str)) = false) (hcd : (x == ("__classdict__" : Str)) = false) : yE G cx n (eval (.Name x pos)) (zC i) (VRG G) := by
  intro A env φ ρ σ s Q E b σ' rm er hr hm q
  unfold zC at hm
  split at hm
  · rename_i v hv
    cases hm
    rcases er.vars i x _ b hx hv with ⟨hk, m, a, hn, ha, r⟩ | ⟨hk, c, a, hc, hv', r⟩
    · exact wpAny_Name (wpAny_loadName_local er.fn hk hn ha (q a φ s.heap s.toks (.refl ..) hr r)) hd
    · rcases hk with hk | hk
      · exact wpAny_Name (wpAny_loadName_cell er.fn hk hc hv' (q a φ s.heap s.toks (.refl ..) hr r)) hd
      · exact wpAny_Name (wpAny_loadName_free er.fn hk hc hv' (q a φ s.heap s.toks (.refl ..) hr r) hcd) hd
  · cases hm
theorem sim_glob {x : Str} {pos : Pos} {i : Nat} {v : V} {a : Value} (hx : xU cx.names x = some (i, .globalImplicit)) (he : nsIn G.K mainGlobals x = some (some a)) (hv : ∀ φ h, VR G.fa φ h v a) (hd : (x == ("__debug__" : Str)) = false) :
    yE G cx n (eval (.Name x pos)) (cE v) (VRG G) := by
  intro A env φ ρ σ s Q E b σ' rm er hr hm q
  cases hm
  refine Name_function_global er.fn (er.kind hx) (loadGlobal_global (by rw [er.gl]; exact hr.topG) (mg_of G.X G.T.g he) ?_) hd
  exact q a φ s.heap s.toks (.refl ..) hr (hv _ _)
theorem name_glob {x : Str} {pos : Pos} {i : Nat} {a : Value} {A : Around} {env : Env} {φ : Phi} {ρ : Rho} {σ : H} {s : Shared} {Q : Value → Shared → Prop} {E : Value → Shared → Prop} (er : EnvR G cx env φ ρ s.heap) (hr : HR G φ σ s.heap)
    (hx : xU cx.names x = some (i, .globalImplicit)) (he : nsIn G.K mainGlobals x = some (some a)) (hd : (x == ("__debug__" : Str)) = false) (q : Q a s) : wpAny (model G.prog G.w) A (eval (.Name x pos) env) Q E s :=
  Name_function_global er.fn (er.kind hx) (loadGlobal_global (by rw [er.gl]; exact hr.topG) (mg_of G.X G.T.g he) q) hd
theorem name_bui {x : Str} {pos : Pos} {i : Nat} {a : Value} {A : Around} {env : Env} {φ : Phi} {ρ : Rho} {σ : H} {s : Shared} {Q : Value → Shared → Prop} {E : Value → Shared → Prop} (er : EnvR G cx env φ ρ s.heap) (hr : HR G φ σ s.heap)
    (hx : xU cx.names x = some (i, .globalImplicit)) (he : nsIn G.K mainGlobals x = some none) (hb : bootBuiltins x = some a) (hn : x ≠ "__name__") (hd : (x == ("__debug__" : Str)) = false) (q : Q a s) : wpAny (model G.prog G.w) A (eval (.Name x pos) env) Q E s :=
  Name_function_global er.fn (er.kind hx) (loadGlobal_builtin (by rw [er.gl]; exact hr.topG) (mg_none_of G.X G.T.g he) (by rw [er.bi]; exact hr.topB) ((G.T.builtins x hn).trans hb) q) hd

theorem siml_nil {pos : Pos} : yE G cx n (fun env => spliced (backTo pos (starEach [] env))) (seqE []) (VRs G.fa) := by
  intro A env φ ρ σ s Q E b σ' rm er hr hm q
  cases hm
  exact spliced_nil (q _ φ s.heap s.toks (.refl ..) hr .nil)
theorem siml_cons {e : PySem.Expr} {es : List PySem.Expr} {c : Ex V} {cs : List (Ex V)} {pos : Pos} (h1 : yE G cx n (eval e) c (VRG G)) (h2 : yE G cx n (fun env => spliced (backTo pos (starEach es env))) (seqE cs) (VRs G.fa))
    (hs : ∀ env, starEach (e :: es) env = (false, eval e env) :: starEach es env) : yE G cx n (fun env => spliced (backTo pos (starEach (e :: es) env))) (seqE (c :: cs)) (VRs G.fa) := by
  intro A env φ ρ σ s Q E b σ' rm er hr hm q
  show wpAny _ _ (spliced (backTo pos (starEach (e :: es) env))) _ _ _
  rw [hs env]
  show wpAny _ _ (spliced ((false, eval e env) :: backTo pos (starEach es env))) _ _ _
  refine spliced_cons (yO h1 rm er hr hm fun a v φ₁ σ₁ h₁ tk₁ st₁ er₁ hr₁ r₁ hm₁ => ?_)
  refine yO h2 rm er₁ hr₁ hm₁ fun as vs φ₂ σ₂ h₂ tk₂ st₂ er₂ hr₂ r₂ hm₂ => ?_
  cases hm₂
  exact q _ φ₂ h₂ tk₂ (st₁.trans st₂) hr₂ (.cons (r₁.step st₂) r₂)
theorem wO {k : Nat} (h : k ≤ 100000) : k ≤ sizeLine := Nat.le_trans h (by decide +kernel)
theorem seqE_len : ∀ {es : List (Ex V)} {ρ : Rho} {σ σ' : H} {vs : List V}, seqE es ρ σ = some (vs, σ') → vs.length = es.length
  | [], _, _, _, _, h => by cases h; rfl
  | e :: es, _, _, _, _, h => by
    obtain ⟨v, σ₁, _, h⟩ := xY h
    obtain ⟨vs, σ₂, h2, h⟩ := xY h
    cases h
    rw [List.length_cons, List.length_cons, seqE_len h2]
theorem xX {es : List PySem.Expr} {cs : List (Ex V)} {k : Nat} {pos : Pos} (h : yE G cx n (fun env => spliced (backTo pos (starEach es env))) (seqE cs) (VRs G.fa)) (hl : cs.length ≤ 1000) : yE G cx n (eval (.Tuple es k pos)) (wU cs) (VRG G) := by
  intro A env φ ρ σ s Q E b σ' rm er hr hm q
  obtain ⟨vs, σ₁, h1, h2⟩ := xY hm
  have hlen := seqE_len h1
  refine Tuple_ (yO h rm er hr hm fun as vs' φ₁ σ₁' h₁ tk₁ st₁ er₁ hr₁ r₁ hm₁ => ?_)
  obtain ⟨hl', hv'⟩ : vs'.length = cs.length ∧ True := by
    obtain ⟨vs'', σ₂, h3, h4⟩ := xY hm
    cases h4; cases hm₁
    rw [h1] at h3; cases h3
    exact ⟨hlen, trivial⟩
  cases hm₁
  have hn : h₁.get? h₁.objs.size = none := by
    cases z : h₁.get? h₁.objs.size with
    | none => rfl
    | some o => exact absurd (Heap.lt_size z) (Nat.lt_irrefl _)
  have hk : ∀ b o, h₁.get? b = some o → (h₁.push (tupO as)).get? b = some o := fun _ _ e => Heap.get?_push_of_some _ e
  have st₂ : Step φ₁ h₁ φ₁ (h₁.push (tupO as)) := .keeps hk
  refine wpAny_newTuple (q _ φ₁ _ tk₁ (st₁.trans st₂) (hr₁.keeps hk) (.tup _ as _ (Heap.get?_push_size h₁ rfl) (fun z => ?_) (r₁.step st₂))) (wO (by rw [← r₁.length, hl']; exact Nat.le_trans ‹_› (by decide)))
  obtain ⟨o, ho⟩ := hr₁.liveP z
  rw [hn] at ho; cases ho
theorem wN (h : Heap) : h.get? h.objs.size = none := by
  cases z : h.get? h.objs.size with
  | none => rfl
  | some o => exact absurd (Heap.lt_size z) (Nat.lt_irrefl _)
theorem HR.newList {φ : Phi} {σ : H} {h : Heap} (hr : HR G φ σ h) {xs : List V} {as : List Value} (r : VRs G.fa φ h xs as) : HR G (φ ++ [(h.objs.size, h.objs.size)]) (σ ++ [.list xs]) (h.push (listO as 0)) ∧ Step φ h (φ ++ [(h.objs.size, h.objs.size)]) (h.push (listO as 0)) ∧ VR G.fa (φ ++ [(h.objs.size, h.objs.size)]) (h.push (listO as 0)) (.obj σ.length) (.ref h.objs.size) := by
  have hk : ∀ b o, h.get? b = some o → (h.push (listO as 0)).get? b = some o := fun _ _ e => Heap.get?_push_of_some _ e
  have st : Step φ h (φ ++ [(h.objs.size, h.objs.size)]) (h.push (listO as 0)) := by
    refine ⟨⟨_, rfl⟩, fun a ⟨p, hp, ha⟩ => ?_, fun b o e _ => hk b o e⟩
    rcases List.mem_append.mp hp with hp | hp
    · exact .inl ⟨p, hp, ha⟩
    · cases List.mem_singleton.mp hp
      rcases ha with rfl | rfl <;> exact .inr (wN _)
  obtain ⟨hr', st'⟩ := hr.make (p := (h.objs.size, h.objs.size)) (m := .list xs) hk (wN _) (wN _) ⟨rfl, as, 0, Heap.get?_push_size h rfl, r.step st⟩
  exact ⟨hr', st', VR.obj _ (h.objs.size, h.objs.size) (by rw [← hr.len, List.getElem?_append_right (Nat.le_refl _), Nat.sub_self]; rfl)⟩
theorem newL_some {xs : List V} {σ σ' : H} {v : V} (h : newL xs σ = some (v, σ')) : okLen xs = true ∧ v = .obj σ.length ∧ σ' = σ ++ [.list xs] := by
  unfold newL at h
  split at h
  · rename_i hok; cases h; exact ⟨hok, rfl, rfl⟩
  · cases h
theorem okLen_size {xs : List V} {as : List Value} {φ : Phi} {h : Heap} (e : okLen xs = true) (r : VRs G.fa φ h xs as) : as.length ≤ sizeLine := wO (by rw [← r.length]; exact of_decide_eq_true e)
theorem simh_newList {φ : Phi} {h : Heap} {xs : List V} {as : List Value} (r : VRs G.fa φ h xs as) : SimH G n φ h (newList as) (newL xs) (VRG G) := by
  intro A σ s Q E b σ' eh rm hr hm q
  subst eh
  obtain ⟨hok, rfl, rfl⟩ := newL_some hm
  obtain ⟨hr', st', r'⟩ := hr.newList r
  exact wpAny_newList (q _ _ _ s.toks st' hr' r') (okLen_size hok r)
theorem xE {es : List PySem.Expr} {cs : List (Ex V)} {pos : Pos} (h : yE G cx n (fun env => spliced (backTo pos (starEach es env))) (seqE cs) (VRs G.fa)) : yE G cx n (eval (.List es pos)) (xM cs) (VRG G) := by
  intro A env φ ρ σ s Q E b σ' rm er hr hm q
  refine List_ (yO h rm er hr hm fun as vs φ₁ σ₁ h₁ tk₁ st₁ er₁ hr₁ r₁ hm₁ => ?_)
  exact simh_newList r₁ A σ₁ { s with heap := h₁, toks := tk₁ } Q E b σ' rfl rm hr₁ hm₁ fun a φ' h' tk st hr' r => q a φ' h' tk (st₁.trans st) hr' r
end
end Mine


section
open PySem PySem.W PySem.Calls PyProof.Rows PySem.Spec
namespace Mine
section
variable {G : Gd} {cx : Scope} {n : Nat}

noncomputable def opOf : Operator → Option Op
  | .Add => some .add | .Sub => some .sub | .Mult => some .mul | .Mod => some .mod | .FloorDiv => some .fdiv | .LShift => some .shl | .RShift => some .shr | .BitAnd => some .band | .BitOr => some .bor | .BitXor => some .bxor
  | _ => none
theorem small_lt {a : Int} (h : small a = true) : a.natAbs < 2 ^ 40 := of_decide_eq_true h
theorem bits_small {a : Int} (h : small a = true) : Builtin.Int.intBits a ≤ 64 := Nat.le_trans (PyProof.Rows.intBits_le (small_lt h)) (by decide)
section
variable {op : Op} {a b c : Int} {t u : Tok} {prog : Program} {w : World} {A : Around} {s : Shared} {Q : Value → Shared → Prop} {E : Value → Shared → Prop}
theorem int_op {o : Operator} (ho : opOf o = some op) (h : intO op a b = some c)
    (q : Q (.int c s.toks) { s with toks := s.toks + 1 }) : wpAny (model prog w) A (binaryOp o (.int a t) (.int b u)) Q E s := by
  cases o <;> first | (cases ho; done) | skip
  all_goals (cases ho; unfold intO at h; dsimp only at h)
  case Add => cases h; exact PyProof.Rows.add_int q
  case Sub => cases h; exact PyProof.Rows.sub_int q
  case Mult =>
    split at h
    · rename_i hs; cases h; rw [Bool.and_eq_true] at hs; exact PyProof.Rows.mul_int q (IntMulOk.of_left (bits_small hs.1))
    · cases h
  case Mod =>
    split at h
    · cases h
    · rename_i hb; cases h; exact PyProof.Rows.mod_int hb q
  case LShift =>
    split at h
    · rename_i hs; cases h
      exact PyProof.Rows.lshift_int_small hs.2.1 (by omega) (Nat.lt_trans (small_lt hs.2.2.2) (by decide)) q
    · cases h
  case RShift =>
    split at h
    · rename_i hs; cases h
      exact PyProof.Rows.rshift_int hs.2.1 q
    · cases h
  case BitOr =>
    split at h
    · rename_i hs; cases h
      refine PyProof.Rows.or_int ?_
      rw [PyProof.Rows.bitOr_and, PyProof.Rows.bitAnd_pp hs.1 hs.2]; exact q
    · cases h
  case BitXor =>
    split at h
    · rename_i hs; cases h
      refine PyProof.Rows.xor_int ?_
      unfold Builtin.bitXor
      rw [PyProof.Rows.bitOr_and, PyProof.Rows.bitAnd_pp hs.1 hs.2]; exact q
    · cases h
  case BitAnd =>
    split at h
    · rename_i hs; cases h
      refine PyProof.Rows.and_int ?_
      rw [PyProof.Rows.bitAnd_pp hs.1 hs.2]; exact q
    · cases h
  case FloorDiv =>
    split at h
    · cases h
    · rename_i hb
      split at h
      · rename_i hs; cases h
        rw [Bool.and_eq_true] at hs
        refine PyProof.Rows.floordiv_int hb q (Or.inl (PyProof.noPylong_of_log2 ?_))
        have := small_lt hs.2
        by_cases z : b.natAbs = 0
        · rw [z]; decide
        · have := (Nat.log2_lt z).mpr this; exact Nat.lt_of_lt_of_le ‹_› (by decide)
      · cases h
end
theorem VRs.replicate {fa : Nat → Addr} {φ : Phi} {h : Heap} {x : V} {a : Value} (r : VR fa φ h x a) : ∀ k, VRs fa φ h (List.replicate k x) (List.replicate k a)
  | 0 => .nil
  | k + 1 => .cons r (VRs.replicate r k)
theorem foldl_app (a : Value) : ∀ (k : Nat) (l : Array Value), List.foldl (fun x1 x2 => x1 ++ x2) l (List.replicate k [a].toArray) = l ++ (List.replicate k a).toArray
  | 0, l => by simp
  | k + 1, l => by
    rw [List.replicate_succ, List.foldl_cons, foldl_app a k, List.replicate_succ, show (a :: List.replicate k a) = [a] ++ List.replicate k a from rfl, ← List.append_toArray, Array.append_assoc]
theorem foldl_one (a : Value) (k : Int) : List.foldl (fun x1 x2 => x1 ++ x2) #[] (List.replicate (if [a].toArray.isEmpty = true then 0 else k.toNat) [a].toArray) = (List.replicate k.toNat a).toArray := by
  rw [show (if [a].toArray.isEmpty = true then 0 else k.toNat) = k.toNat from rfl, foldl_app]; simp
theorem opOf_add {o : Operator} (h : opOf o = some .add) : o = .Add := by cases o <;> first | rfl | cases h
theorem opOf_mul {o : Operator} (h : opOf o = some .mul) : o = .Mult := by cases o <;> first | rfl | cases h
set_option tactic.hygienic true in
theorem simh_bin {o : Operator} {op : Op} {x y : V} {a b : Value} {φ : Phi} {h : Heap} (ho : opOf o = some op) (rx : VR G.fa φ h x a) (ry : VR G.fa φ h y b) : SimH G n φ h (binaryOp o a b) (binO op x y) (VRG G) := by
  intro A σ s Q E v σ' eh rm hr hm q
  subst eh
  unfold binO at hm
  split at hm
  · cases rx; cases ry
    obtain ⟨c, hc, e⟩ := Option.map_eq_some_iff.mp hm
    cases e
    exact int_op ho hc (q _ φ s.heap _ (.refl ..) hr (.int _ _))
  · rename_i a' b'
    cases rx; cases ry
    split at hm
    · rename_i hop
      split at hm
      · rename_i hl
        cases hm
        cases hop; cases opOf_add ho
        refine KBy.add_bytes ?_ fun t' k => ?_
        · simp only [List.size_toArray]; have := of_decide_eq_true hl; exact Nat.le_trans ‹_› (by decide)
        · rw [List.append_toArray]; exact q _ φ s.heap _ (.refl ..) hr (.bytes _ _)
      · cases hm
    · cases hm
  · rename_i i j
    split at hm
    · rename_i hop
      split at hm
      · rename_i xs ys e1 e2
        obtain ⟨i1, p1, vs1, n1, -, -, hp1, rfl, -, ho1, r1⟩ := hr.listAt rx e1
        obtain ⟨i2, p2, vs2, n2, -, -, hp2, rfl, -, ho2, r2⟩ := hr.listAt ry e2
        cases hop; cases opOf_add ho
        obtain ⟨hok, rfl, rfl⟩ := newL_some hm
        have hle := of_decide_eq_true hok
        obtain ⟨hr', st', r'⟩ := hr.newList (VRs.append r2 r1)
        refine concat_meets ⟨_, ho1, rfl⟩ ⟨_, ho2, rfl⟩ noFill_list_add seq_list_add PySem.F.slot_list_add PySem.F.entry_list_add (PySem.F.args_list_add_2 _ _) (list_addW p1.1 p2.1 vs1.toArray vs2.toArray n1 n2 none none #[] #[] ?_) ⟨ho1, ho2, ?_⟩
        · have l1 := r1.length; have l2 := r2.length
          rw [List.length_append] at hle
          simp only [List.size_toArray]; exact wO (by omega)
        · rw [List.append_toArray]
          exact q _ _ _ s.toks st' hr' r'
      · cases hm
    · cases hm
  · rename_i i k
    cases ry
    split at hm
    · rename_i hop
      split at hm
      · rename_i x e1
        obtain ⟨i1, p1, vs1, n1, -, -, hp1, rfl, -, ho1, r1⟩ := hr.listAt rx e1
        split at hm
        · rename_i hk
          cases hop; cases opOf_mul ho
          obtain ⟨hok, rfl, rfl⟩ := newL_some hm
          cases r1 with
          | cons rx1 r0 =>
          cases r0
          rename_i a1
          obtain ⟨hr', st', r'⟩ := hr.newList (xs := List.replicate k.toNat x) (as := List.replicate k.toNat a1) (VRs.replicate rx1 _)
          have hk2 : k < 2 ^ 63 := by omega
          have hk3 : k.toNat ≤ 100 := by omega
          refine wpAny_binaryOp_repeat_ref (T := "list") (U := "int") (by decide) ⟨_, ho1, rfl⟩ (fun s' => typeIs_int s' k _) noFill_list_mul F.fills_int_mul F.slot_int_rmul repeat_list F.slot_int_index.lookup
            (call_meets F.slot_int_rmul (typeIs_int s k _) F.entry_int_rmul (F.args_int_rmul_2 _ _) (int___rmul___int_list k _ p1.1 [a1].toArray n1)
              ⟨ho1, rfl, ⟨_, ho1, rfl⟩, call_meets F.slot_list_mul ⟨_, ho1, rfl⟩ F.entry_list_mul (F.args_list_mul_2 _ _)
                (AutoListH.list___mul___list_int_3 p1.1 [a1].toArray n1 k _ (by simp [Builtin.List.listFitsIndex]; omega) (by simp only [List.size_toArray, List.length_singleton]; omega) (by simp only [List.size_toArray, List.length_singleton]; simp [Builtin.List.listTooLong, sizeLine]; omega))
                ⟨ho1, ?_⟩⟩)
          rw [foldl_one]
          exact q _ _ _ s.toks st' hr' r'
        · cases hm
      · cases hm
    · cases hm
  · cases hm

theorem zU {o : Operator} {op : Op} {l r : PySem.Expr} {a b : Ex V} {pos : Pos} (h1 : yE G cx n (eval l) a (VRG G)) (h2 : yE G cx n (eval r) b (VRG G)) (ho : opOf o = some op) : yE G cx n (eval (.BinOp l o r pos)) (yX op a b) (VRG G) := by
  intro A env φ ρ σ s Q E v σ' rm er hr hm q
  refine wpAny_BinOp (yO h1 rm er hr hm fun x x' φ₁ σ₁ h₁ tk₁ st₁ er₁ hr₁ r₁ hm₁ => ?_)
  refine yO h2 rm er₁ hr₁ hm₁ fun y y' φ₂ σ₂ h₂ tk₂ st₂ er₂ hr₂ r₂ hm₂ => ?_
  exact simh_bin (n := n) ho (r₁.step st₂) r₂ A σ₂ { s with heap := h₂, toks := tk₂ } Q E v σ' rfl rm hr₂ hm₂ fun a φ' h' tk st hr' r => q a φ' h' tk ((st₁.trans st₂).trans st) hr' r
theorem sim_neg {e : PySem.Expr} {a : Ex V} {pos : Pos} (h1 : yE G cx n (eval e) a (VRG G)) : yE G cx n (eval (.UnaryOp .USub e pos)) (negE a) (VRG G) := by
  intro A env φ ρ σ s Q E v σ' rm er hr hm q
  refine wpAny_UnaryOp (yO h1 rm er hr hm fun x x' φ₁ σ₁ h₁ tk₁ st₁ er₁ hr₁ r₁ hm₁ => ?_)
  split at hm₁
  · cases r₁; cases hm₁
    exact PyProof.Rows.neg_int (q _ φ₁ h₁ _ st₁ hr₁ (.int _ _))
  · cases hm₁
end
end Mine


section
open PySem PySem.W PySem.Calls PyProof.Rows PySem.Spec
namespace Mine
section
variable {G : Gd} {cx : Scope} {n : Nat}

noncomputable def cmOf : CmpOp → Cm
  | .Eq => .eq | .NotEq => .ne | .Lt => .lt | .LtE => .le | .Gt => .gt | .GtE => .ge | .Is => .is | .IsNot => .isnot | .In => .isin | .NotIn => .notin
noncomputable abbrev BR : Phi → Heap → Bool → Value → Prop := fun _ _ b v => v = .bool b
noncomputable def CmpOK (G : Gd) (n : Nat) (o : CmpOp) : Prop := ∀ (φ : Phi) (h : Heap) (x y : V) (a b : Value), VR G.fa φ h x a → VR G.fa φ h y b → SimH G n φ h (compareOp o a b) (fun σ => (cmpO (cmOf o) x y σ).map fun c => (c, σ)) BR

theorem cmp_lt : CmpOK G n .Lt := by
  intro φ h x y a b rx ry A σ s Q E v σ' eh rm hr hm q
  subst eh
  obtain ⟨c, hc, e⟩ := Option.map_eq_some_iff.mp hm
  cases e
  dsimp only [cmOf, cmpO] at hc
  split at hc
  · cases rx; cases ry
    cases hc
    exact PyProof.Rows.lt_int (q _ φ s.heap s.toks (.refl ..) hr rfl)
  · cases hc
theorem cmp_le : CmpOK G n .LtE := by
  intro φ h x y a b rx ry A σ s Q E v σ' eh rm hr hm q
  subst eh
  obtain ⟨c, hc, e⟩ := Option.map_eq_some_iff.mp hm
  cases e
  dsimp only [cmOf, cmpO] at hc
  split at hc
  · cases rx; cases ry
    cases hc
    exact PyProof.Rows.le_int (q _ φ s.heap s.toks (.refl ..) hr rfl)
  · cases hc
theorem cmp_gt : CmpOK G n .Gt := by
  intro φ h x y a b rx ry A σ s Q E v σ' eh rm hr hm q
  subst eh
  obtain ⟨c, hc, e⟩ := Option.map_eq_some_iff.mp hm
  cases e
  dsimp only [cmOf, cmpO] at hc
  split at hc
  · cases rx; cases ry
    cases hc
    exact PyProof.Rows.gt_int (q _ φ s.heap s.toks (.refl ..) hr rfl)
  · cases hc
theorem cmp_ge : CmpOK G n .GtE := by
  intro φ h x y a b rx ry A σ s Q E v σ' eh rm hr hm q
  subst eh
  obtain ⟨c, hc, e⟩ := Option.map_eq_some_iff.mp hm
  cases e
  dsimp only [cmOf, cmpO] at hc
  split at hc
  · cases rx; cases ry
    cases hc
    exact PyProof.Rows.ge_int (q _ φ s.heap s.toks (.refl ..) hr rfl)
  · cases hc
theorem isN_cases {fa : Nat → Addr} {φ : Phi} {h : Heap} {v : V} {a : Value} {b : Bool} (r : VR fa φ h v a) (e : isN v = some b) : (b = true ∧ a = .none) ∨ (b = false ∧ a ≠ .none ∧ PySem.plainIs a .none = true) := by
  cases v with
  | none => cases r; cases e; exact .inl ⟨rfl, rfl⟩
  | fn k =>
    cases r
    have e' : (if k < 200 then some false else Option.none) = some b := e
    by_cases hk : k < 200
    · rw [if_pos hk] at e'; cases e'; exact .inr ⟨rfl, (by intro z; cases z), rfl⟩
    · rw [if_neg hk] at e'; cases e'
  | _ => cases r; cases e; exact .inr ⟨rfl, (by intro z; cases z), rfl⟩
theorem cmp_is : CmpOK G n .Is := by
  intro φ h x y a b rx ry A σ s Q E v σ' eh rm hr hm q
  subst eh
  obtain ⟨c, hc, e⟩ := Option.map_eq_some_iff.mp hm
  cases e
  dsimp only [cmOf, cmpO] at hc
  split at hc
  · cases ry
    rcases isN_cases rx hc with ⟨rfl, rfl⟩ | ⟨rfl, ha, hp⟩
    · exact wpAny_is_self rfl (q _ φ s.heap s.toks (.refl ..) hr rfl)
    · exact wpAny_is_other hp ha (q _ φ s.heap s.toks (.refl ..) hr rfl)
  · cases hc
theorem jA : CmpOK G n .IsNot := by
  intro φ h x y a b rx ry A σ s Q E v σ' eh rm hr hm q
  subst eh
  obtain ⟨c, hc, e⟩ := Option.map_eq_some_iff.mp hm
  cases e
  dsimp only [cmOf, cmpO] at hc
  split at hc
  · obtain ⟨d, hd, e⟩ := Option.map_eq_some_iff.mp hc
    subst e
    cases ry
    rcases isN_cases rx hd with ⟨rfl, rfl⟩ | ⟨rfl, ha, hp⟩
    · exact wpAny_isNot_self rfl (q _ φ s.heap s.toks (.refl ..) hr rfl)
    · exact wpAny_isNot_other hp ha (q _ φ s.heap s.toks (.refl ..) hr rfl)
  · cases hc

theorem xV {M : Model} {A : Around} {E : Value → Shared → Prop} {s : Shared} {b : Bool} {Q : Bool → Shared → Prop} (h : Q b s) : wpAny M A (truthy (.bool b)) Q E s := wpAny_truthy_bool h
theorem simt_one {l r : PySem.Expr} {o : CmpOp} {a b : Ex V} {pos : Pos} {whole : Env → Sem Value} (h1 : yE G cx n (eval l) a (VRG G)) (h2 : yE G cx n (eval r) b (VRG G)) (hc : CmpOK G n o) (hm : behindInMarks o r = false := by with_unfolding_all rfl) :
    yE G cx n (fun env => isTrue (.Compare l [o] [r] pos) env (whole env)) (zX a [(cmOf o, b)]) (fun _ _ x y => y = x) := by
  intro A env φ ρ σ s Q E v σ' rm er hr hm' q
  refine wpAny_isTrue_Compare1 (yO h1 rm er hr hm' fun x x' φ₁ σ₁ h₁ tk₁ st₁ er₁ hr₁ r₁ hm₁ => ?_) hm
  refine yO h2 rm er₁ hr₁ hm₁ fun y y' φ₂ σ₂ h₂ tk₂ st₂ er₂ hr₂ r₂ hm₂ => ?_
  obtain ⟨e1, rfl⟩ := xH hm₂
  refine hc φ₂ h₂ x' y' x y (r₁.step st₂) r₂ A σ' { s with heap := h₂, toks := tk₂ } _ E v σ' rfl rm hr₂ (by show Option.map _ (cmpO _ _ _ _) = _; rw [e1]; rfl) fun c φ' h' tk st hr' r => ?_
  subst r
  exact xV (q _ φ' h' tk ((st₁.trans st₂).trans st) hr' rfl)
theorem simt_two {l r₁ r₂ : PySem.Expr} {o₁ o₂ : CmpOp} {a b c : Ex V} {pos : Pos} {whole : Env → Sem Value} (h1 : yE G cx n (eval l) a (VRG G)) (h2 : yE G cx n (eval r₁) b (VRG G)) (h3 : yE G cx n (eval r₂) c (VRG G)) (hc : CmpOK G n o₁) (hc' : CmpOK G n o₂)
    (hm : lastMarks [o₁, o₂] [r₁, r₂] = false := by with_unfolding_all rfl) :
    yE G cx n (fun env => isTrue (.Compare l [o₁, o₂] [r₁, r₂] pos) env (whole env)) (zX a [(cmOf o₁, b), (cmOf o₂, c)]) (fun _ _ x y => y = x) := by
  intro A env φ ρ σ s Q E v σ' rm er hr hm' q
  refine isTrue_chain (yO h1 rm er hr hm' fun x x' φ₁ σ₁ h₁ tk₁ st₁ er₁ hr₁ r₁ hm₁ => ?_) hm
  refine test_link (yO h2 rm er₁ hr₁ hm₁ fun y y' φ₂ σ₂ h₂ tk₂ st₂ er₂ hr₂ r₂ hm₂ => ?_)
  obtain ⟨b1, σ₃, e1, hm₃⟩ := xY hm₂
  obtain ⟨e1, rfl⟩ := xH e1
  refine hc φ₂ h₂ x' y' x y (r₁.step st₂) r₂ A σ₃ { s with heap := h₂, toks := tk₂ } _ E b1 σ₃ rfl rm hr₂ (by show Option.map _ (cmpO _ _ _ _) = _; rw [e1]; rfl) fun d φ₃ h₃ tk₃ st₃ hr₃ r => ?_
  subst r
  refine xV ?_
  cases b1 with
  | false => cases hm₃; exact q _ φ₃ h₃ tk₃ ((st₁.trans st₂).trans st₃) hr₃ rfl
  | true =>
    refine test_last (yO h3 rm (er₂.step st₃) hr₃ hm₃ fun z z' φ₄ σ₄ h₄ tk₄ st₄ er₄ hr₄ r₄ hm₄ => ?_)
    obtain ⟨e2, rfl⟩ := xH hm₄
    refine hc' φ₄ h₄ y' z' y z ((r₂.step st₃).step st₄) r₄ A σ' { s with heap := h₄, toks := tk₄ } _ E v σ' rfl rm hr₄ (by show Option.map _ (cmpO _ _ _ _) = _; rw [e2]; rfl) fun d φ' h' tk st hr' r => ?_
    subst r
    exact xV (q _ φ' h' tk ((((st₁.trans st₂).trans st₃).trans st₄).trans st) hr' rfl)
theorem sim_cmp {l r : PySem.Expr} {o : CmpOp} {a b : Ex V} {pos : Pos} (h1 : yE G cx n (eval l) a (VRG G)) (h2 : yE G cx n (eval r) b (VRG G)) (hc : CmpOK G n o) (hm : behindInMarks o r = false := by with_unfolding_all rfl) :
    yE G cx n (eval (.Compare l [o] [r] pos)) (cmpE a [(cmOf o, b)]) (VRG G) := by
  intro A env φ ρ σ s Q E v σ' rm er hr hm' q
  obtain ⟨bb, σ₀, hb, hf⟩ := xY hm'
  cases hf
  refine wpAny_Compare1 (yO h1 rm er hr hb fun x x' φ₁ σ₁ h₁ tk₁ st₁ er₁ hr₁ r₁ hm₁ => ?_) hm
  refine yO h2 rm er₁ hr₁ hm₁ fun y y' φ₂ σ₂ h₂ tk₂ st₂ er₂ hr₂ r₂ hm₂ => ?_
  obtain ⟨e1, rfl⟩ := xH hm₂
  refine hc φ₂ h₂ x' y' x y (r₁.step st₂) r₂ A σ' { s with heap := h₂, toks := tk₂ } _ E bb σ' rfl rm hr₂ (by show Option.map _ (cmpO _ _ _ _) = _; rw [e1]; rfl) fun c φ' h' tk st hr' r => ?_
  subst r
  exact q _ φ' h' tk ((st₁.trans st₂).trans st) hr' (.bool _)

noncomputable abbrev TR : Phi → Heap → Bool → Bool → Prop := fun _ _ x y => y = x
noncomputable abbrev SimT (G : Gd) (cx : Scope) (n : Nat) (e : PySem.Expr) (t : Ex Bool) : Prop := ∀ whole : Env → Sem Value, whole = eval e → yE G cx n (fun env => isTrue e env (whole env)) t TR
theorem truth_of {φ : Phi} {h : Heap} {v : V} {x : Value} {b : Bool} {M : Model} {A : Around} {E : Value → Shared → Prop} {s : Shared} {Q : Bool → Shared → Prop} (r : VR G.fa φ h v x) (e : truthV v = some b) (q : Q b s) : wpAny M A (truthy x) Q E s := by
  cases r <;> first | (cases e; done) | skip
  · cases e; exact truthy_none q
  · cases e; exact xV q
theorem yS {e : PySem.Expr} {a : Ex V} (h : yE G cx n (eval e) a (VRG G)) (he : ∀ env whole, isTrue e env whole = (do let v ← whole; standAt e.pos; holding [v] (truthy v)) := by intro _ _; rfl) : SimT G cx n e (xO a) := by
  intro whole hw A env φ ρ σ s Q E v σ' rm er hr hm q
  subst hw
  refine isTrue_plain (yO h rm er hr hm fun x x' φ₁ σ₁ h₁ tk₁ st₁ er₁ hr₁ r₁ hm₁ => ?_) (he _ _)
  obtain ⟨e1, rfl⟩ := xH hm₁
  exact truth_of r₁ e1 (q _ φ₁ h₁ tk₁ st₁ hr₁ rfl)
theorem zO {l r : PySem.Expr} {o : CmpOp} {a b : Ex V} {pos : Pos} (h1 : yE G cx n (eval l) a (VRG G)) (h2 : yE G cx n (eval r) b (VRG G)) (hc : CmpOK G n o) (hm : behindInMarks o r = false := by with_unfolding_all rfl) : SimT G cx n (.Compare l [o] [r] pos) (zX a [(cmOf o, b)]) :=
  fun _ _ => simt_one h1 h2 hc hm
theorem simt_cmp2 {l r₁ r₂ : PySem.Expr} {o₁ o₂ : CmpOp} {a b c : Ex V} {pos : Pos} (h1 : yE G cx n (eval l) a (VRG G)) (h2 : yE G cx n (eval r₁) b (VRG G)) (h3 : yE G cx n (eval r₂) c (VRG G)) (hc : CmpOK G n o₁) (hc' : CmpOK G n o₂)
    (hm : lastMarks [o₁, o₂] [r₁, r₂] = false := by with_unfolding_all rfl) : SimT G cx n (.Compare l [o₁, o₂] [r₁, r₂] pos) (zX a [(cmOf o₁, b), (cmOf o₂, c)]) := fun _ _ => simt_two h1 h2 h3 hc hc' hm
theorem simt_not {e : PySem.Expr} {t : Ex Bool} {pos : Pos} (h : SimT G cx n e t) : SimT G cx n (.UnaryOp .Not e pos) (notT t) := by
  intro whole hw A env φ ρ σ s Q E v σ' rm er hr hm q
  refine isTrue_not (yO (h _ rfl) rm er hr hm fun x x' φ₁ σ₁ h₁ tk₁ st₁ er₁ hr₁ r₁ hm₁ => ?_)
  cases hm₁; subst r₁
  exact q _ φ₁ h₁ tk₁ st₁ hr₁ rfl
theorem simt_and {x y : PySem.Expr} {a b : Ex Bool} {pos : Pos} (h1 : SimT G cx n x a) (h2 : SimT G cx n y b) : SimT G cx n (.BoolOp .And [x, y] pos) (andT a b) := by
  intro whole hw A env φ ρ σ s Q E v σ' rm er hr hm q
  refine isTrue_and (yO (h1 _ rfl) rm er hr hm fun x x' φ₁ σ₁ h₁ tk₁ st₁ er₁ hr₁ r₁ hm₁ => ?_)
  subst r₁
  cases x with
  | false => cases hm₁; exact q _ φ₁ h₁ tk₁ st₁ hr₁ rfl
  | true =>
    refine isTrue_and (h2 _ rfl A env φ₁ ρ σ₁ { s with heap := h₁, toks := tk₁ } _ E v σ' rm er₁ hr₁ hm₁ fun y φ₂ h₂ tk₂ st₂ hr₂ r₂ => ?_)
    subst r₂
    cases y with
    | false => exact q _ φ₂ h₂ tk₂ (st₁.trans st₂) hr₂ rfl
    | true => exact isTrue_and_nil (q _ φ₂ h₂ tk₂ (st₁.trans st₂) hr₂ rfl)
theorem simt_or {x y : PySem.Expr} {a b : Ex Bool} {pos : Pos} (h1 : SimT G cx n x a) (h2 : SimT G cx n y b) : SimT G cx n (.BoolOp .Or [x, y] pos) (orT a b) := by
  intro whole hw A env φ ρ σ s Q E v σ' rm er hr hm q
  refine isTrue_or (yO (h1 _ rfl) rm er hr hm fun x x' φ₁ σ₁ h₁ tk₁ st₁ er₁ hr₁ r₁ hm₁ => ?_)
  subst r₁
  cases x with
  | true => cases hm₁; exact q _ φ₁ h₁ tk₁ st₁ hr₁ rfl
  | false =>
    refine isTrue_or (h2 _ rfl A env φ₁ ρ σ₁ { s with heap := h₁, toks := tk₁ } _ E v σ' rm er₁ hr₁ hm₁ fun y φ₂ h₂ tk₂ st₂ hr₂ r₂ => ?_)
    subst r₂
    cases y with
    | true => exact q _ φ₂ h₂ tk₂ (st₁.trans st₂) hr₂ rfl
    | false => exact isTrue_or_nil (q _ φ₂ h₂ tk₂ (st₁.trans st₂) hr₂ rfl)
theorem simt_and3 {x y z : PySem.Expr} {a b c : Ex Bool} {pos : Pos} (h1 : SimT G cx n x a) (h2 : SimT G cx n (.BoolOp .And [y, z] pos) (andT b c)) : SimT G cx n (.BoolOp .And [x, y, z] pos) (andT a (andT b c)) := by
  intro whole hw A env φ ρ σ s Q E v σ' rm er hr hm q
  refine isTrue_and (yO (h1 _ rfl) rm er hr hm fun x x' φ₁ σ₁ h₁ tk₁ st₁ er₁ hr₁ r₁ hm₁ => ?_)
  subst r₁
  cases x with
  | false => cases hm₁; exact q _ φ₁ h₁ tk₁ st₁ hr₁ rfl
  | true => exact h2 _ rfl A env φ₁ ρ σ₁ { s with heap := h₁, toks := tk₁ } Q E v σ' rm er₁ hr₁ hm₁ fun y φ₂ h₂ tk₂ st₂ hr₂ r₂ => q _ φ₂ h₂ tk₂ (st₁.trans st₂) hr₂ r₂
theorem sim_ite {t x y : PySem.Expr} {c : Ex Bool} {a b : Ex V} {pos : Pos} (h0 : SimT G cx n t c) (h1 : yE G cx n (eval x) a (VRG G)) (h2 : yE G cx n (eval y) b (VRG G)) : yE G cx n (eval (.IfExp t x y pos)) (iteE c a b) (VRG G) := by
  intro A env φ ρ σ s Q E v σ' rm er hr hm q
  refine IfExp_ (yO (h0 _ rfl) rm er hr hm fun x x' φ₁ σ₁ h₁ tk₁ st₁ er₁ hr₁ r₁ hm₁ => ?_)
  subst r₁
  cases x with
  | true => exact h1 A env φ₁ ρ σ₁ { s with heap := h₁, toks := tk₁ } Q E v σ' rm er₁ hr₁ hm₁ fun y φ₂ h₂ tk₂ st₂ hr₂ r₂ => q _ φ₂ h₂ tk₂ (st₁.trans st₂) hr₂ r₂
  | false => exact h2 A env φ₁ ρ σ₁ { s with heap := h₁, toks := tk₁ } Q E v σ' rm er₁ hr₁ hm₁ fun y φ₂ h₂ tk₂ st₂ hr₂ r₂ => q _ φ₂ h₂ tk₂ (st₁.trans st₂) hr₂ r₂
theorem sim_not {e : PySem.Expr} {a : Ex V} {pos : Pos} (h : yE G cx n (eval e) a (VRG G)) : yE G cx n (eval (.UnaryOp .Not e pos)) (notE a) (VRG G) := by
  intro A env φ ρ σ s Q E v σ' rm er hr hm q
  refine wpAny_UnaryOp (yO h rm er hr hm fun x x' φ₁ σ₁ h₁ tk₁ st₁ er₁ hr₁ r₁ hm₁ => ?_)
  obtain ⟨b, σ₂, e1, hm₂⟩ := xY hm₁
  obtain ⟨e2, e3⟩ := xH e1
  subst e3
  cases hm₂
  exact not_of (truth_of r₁ e2 (q _ φ₁ h₁ tk₁ st₁ hr₁ (.bool _)))
theorem sim_and {x y : PySem.Expr} {a b : Ex V} {pos : Pos} (h1 : yE G cx n (eval x) a (VRG G)) (h2 : yE G cx n (eval y) b (VRG G)) : yE G cx n (eval (.BoolOp .And [x, y] pos)) (andE a b) (VRG G) := by
  intro A env φ ρ σ s Q E v σ' rm er hr hm q
  refine BoolOp_and (yO h1 rm er hr hm fun x x' φ₁ σ₁ h₁ tk₁ st₁ er₁ hr₁ r₁ hm₁ => ?_)
  split at hm₁
  · cases r₁
    exact xV (BoolOp_one (h2 A env φ₁ ρ σ₁ { s with heap := h₁, toks := tk₁ } Q E v σ' rm er₁ hr₁ hm₁ fun y φ₂ h₂ tk₂ st₂ hr₂ r₂ => q _ φ₂ h₂ tk₂ (st₁.trans st₂) hr₂ r₂))
  · cases r₁; cases hm₁
    exact xV (q _ φ₁ h₁ tk₁ st₁ hr₁ (.bool _))
  · cases hm₁
theorem sim_or {x y : PySem.Expr} {a b : Ex V} {pos : Pos} (h1 : yE G cx n (eval x) a (VRG G)) (h2 : yE G cx n (eval y) b (VRG G)) : yE G cx n (eval (.BoolOp .Or [x, y] pos)) (orE a b) (VRG G) := by
  intro A env φ ρ σ s Q E v σ' rm er hr hm q
  refine BoolOp_or (yO h1 rm er hr hm fun x x' φ₁ σ₁ h₁ tk₁ st₁ er₁ hr₁ r₁ hm₁ => ?_)
  split at hm₁
  · cases r₁; cases hm₁
    exact xV (q _ φ₁ h₁ tk₁ st₁ hr₁ (.bool _))
  · cases r₁
    exact xV (BoolOp_one (h2 A env φ₁ ρ σ₁ { s with heap := h₁, toks := tk₁ } Q E v σ' rm er₁ hr₁ hm₁ fun y φ₂ h₂ tk₂ st₂ hr₂ r₂ => q _ φ₂ h₂ tk₂ (st₁.trans st₂) hr₂ r₂))
  · cases hm₁
end
end Mine


section
open PySem PySem.W PySem.Calls PyProof.Rows PySem.Spec PySem.Builtin PySem.Builtin.ObjectAttr
namespace Mine
section
variable {G : Gd} {cx : Scope} {n : Nat}

noncomputable def allFd : List Fd := [.number, .mark, .size, .mta, .flags, .weak, .array, .nodes, .log_nodes, .free, .value, .env, .is_finalized, .function, .name, .upvals, .key, .next, .kind]
theorem fname_all : (allFd.all fun x => allFd.all fun y => !(wW x == wW y) || decide (x = y)) = true := by kernel_rfl
theorem fd_mem (x : Fd) : allFd.contains x = true := by cases x <;> rfl
theorem fname_inj {x y : Fd} (h : wW x = wW y) : x = y := by
  have h1 := List.all_eq_true.mp (List.all_eq_true.mp fname_all x (List.contains_iff_mem.mp (fd_mem x))) y (List.contains_iff_mem.mp (fd_mem y))
  rw [h, beq_self_eq_true] at h1
  exact of_decide_eq_true h1
theorem isStr_fname (x y : Fd) (t : Tok) : (Value.str (wW y) t).isStr (wW x) = decide (y = x) := by
  show (wW y == wW x) = _
  by_cases h : y = x
  · subst h; simp
  · rw [decide_eq_false h]; exact beq_eq_false_iff_ne.mpr fun e => h (fname_inj e)

section
variable {fa : Nat → Addr} {P : Params} {φ : Phi} {h : Heap}
theorem FR.noRef {l : List Fd} {fs : List V} {es : List DictEntry} (r : FR fa P φ h l fs es) : es.any (·.refKey) = false := by
  induction r with
  | nil => rfl
  | cons _ _ ih => rw [List.any_cons, ih]; rfl
theorem FR.len {l : List Fd} {fs : List V} {es : List DictEntry} (r : FR fa P φ h l fs es) : es.length = fs.length ∧ fs.length ≤ l.length := by
  induction r with
  | nil => exact ⟨rfl, Nat.zero_le _⟩
  | cons _ _ ih => exact ⟨congrArg (· + 1) ih.1, Nat.succ_le_succ ih.2⟩
theorem FR.find {l : List Fd} {fs : List V} {es : List DictEntry} (r : FR fa P φ h l fs es) {x : Fd} {v : V} (e : fldAt l fs x = some v) : ∃ d, es.find? (·.key.isStr (wW x)) = some d ∧ VR fa φ h v d.val := by
  induction r with
  | nil => unfold fldAt at e; split at e <;> simp_all
  | @cons y l v' a t fs es hv hr ih =>
    unfold fldAt at e
    rw [List.find?_cons]
    dsimp only
    rw [isStr_fname]
    split at e
    · rename_i q; cases e; rw [decide_eq_true q]; exact ⟨_, rfl, hv⟩
    · rename_i q; rw [decide_eq_false q]; exact ih e
theorem FR.get {l : List Fd} {fs : List V} {es : List DictEntry} (r : FR fa P φ h l fs es) {x : Fd} {v : V} (e : fldAt l fs x = some v) : ∃ a, getL (wW x) es = some (some a) ∧ VR fa φ h v a := by
  obtain ⟨d, hd, hv⟩ := r.find e
  refine ⟨d.val, ?_, hv⟩
  unfold getL; rw [hd]
theorem FR.miss {l : List Fd} {fs : List V} {es : List DictEntry} (r : FR fa P φ h l fs es) {nm : Str} (hn : ∀ y ∈ l, wW y ≠ nm) : getL nm es = some none := by
  have : es.find? (·.key.isStr nm) = none := by
    induction r with
    | nil => rfl
    | @cons y l v' a t fs es hv hr ih =>
      rw [List.find?_cons]
      dsimp only
      rw [show (Value.str (wW y) t).isStr nm = false from beq_eq_false_iff_ne.mpr (hn y (.head _))]
      exact ih fun z hz => hn z (.tail _ hz)
  unfold getL
  rw [this, r.noRef]; rfl
theorem FR.put {x : Fd} {v : V} {a : Value} {t : Tok} (hv : VR fa φ h v a) : ∀ {l : List Fd} {fs fs' : List V} {es : List DictEntry}, FR fa P φ h l fs es → putAt l fs x v = some fs' → FR fa P φ h l fs' (putL (wW x) (PyData.keyHash P (wW x)) (.str (wW x) t) a es)
  | [], _, _, _, .nil, e => by cases e
  | y :: l, _, _, _, .nil, e => by
    unfold putAt at e
    split at e
    · rename_i q; cases e; subst q; exact .cons hv .nil
    · cases e
  | _, _, _, _, .cons (x := y) (l := l) (t := t') hv' hr, e => by
    unfold putAt at e
    unfold putL
    dsimp only
    rw [isStr_fname]
    split at e
    · rename_i q; cases e; subst q; rw [decide_eq_true rfl, if_pos rfl]; exact .cons hv hr
    · rename_i q
      obtain ⟨w, hw, e⟩ := Option.map_eq_some_iff.mp e
      cases e
      rw [decide_eq_false q, if_neg (by decide)]
      exact .cons hv' (FR.put hv hr hw)
end

structure ClsOK (G : Gd) (c : Cl) : Prop where
  ga : findIn G.K (.ref (G.ca c)) "__getattribute__" = some (some (.builtin "object.__getattribute__"))
  sa : findIn G.K (.ref (G.ca c)) "__setattr__" = some (some (.builtin "object.__setattr__"))
  gt : findIn G.K (.ref (G.ca c)) "__getattr__" = some none
  po : plainOver G.K (G.ca c) = true
  hd : hasDictIn G.K (G.ca c) = true
  fld : ∀ x ∈ lay c, ∃ attr, findIn G.K (.ref (G.ca c)) (wW x) = some attr ∧ noGet G.K attr = true
  tk : ∀ x ∈ lay c, takerIn G.K (G.ca c) (wW x) = some none
  cl : ∀ x v, x ∉ lay c → clsA c x = some v → ∃ a, (∀ φ h, VR G.fa φ h v a) ∧ findIn G.K (.ref (G.ca c)) (wW x) = some (some a) ∧ specialIn G.K a "__get__" = some none ∧ handedIn a = true ∧ copiedNames.contains (wW x) = false

theorem VR.handed {fa : Nat → Addr} {φ : Phi} {h : Heap} {v : V} {a : Value} (r : VR fa φ h v a) : handedIn a = true := by cases r <;> rfl
theorem fldAt_mem : ∀ {l : List Fd} {fs : List V} {x : Fd} {v : V}, fldAt l fs x = some v → x ∈ l
  | l :: ls, v' :: vs, x, v, e => by
    unfold fldAt at e
    split at e
    · rename_i q; subst q; exact .head _
    · exact .tail _ (fldAt_mem e)
  | [], _, _, _, e => by cases e
  | _ :: _, [], _, _, e => by cases e
theorem putAt_mem : ∀ {l : List Fd} {fs fs' : List V} {x : Fd} {v : V}, putAt l fs x v = some fs' → x ∈ l
  | l :: ls, v' :: vs, _, x, v, e => by
    unfold putAt at e
    split at e
    · rename_i q; subst q; exact .head _
    · obtain ⟨_, e, _⟩ := Option.map_eq_some_iff.mp e; exact .tail _ (putAt_mem e)
  | [], [], _, _, _, e => by cases e
  | [], _ :: _, _, _, _, e => by cases e
  | l :: _, [], _, x, _, e => by
    unfold putAt at e
    split at e
    · rename_i q; subst q; exact .head _
    · cases e
set_option tactic.hygienic true in
theorem simh_getF {x : Fd} {v : V} {a : Value} {φ : Phi} {h : Heap} {ex : Bool} (hC : ∀ c, ClsOK G c) (r : VR G.fa φ h v a) : SimH G n φ h (getAttr a (wW x) ex) (fun σ => (getF v x σ).map fun y => (y, σ)) (VRG G) := by
  intro A σ s Q E b σ' eh rm hr hm q
  subst eh
  obtain ⟨y, hy, e⟩ := Option.map_eq_some_iff.mp hm
  cases e
  unfold getF at hy
  split at hy
  · rename_i i
    split at hy
    · rename_i c fs hi
      obtain ⟨p, es, k, hp, rfl, ho, hd, f, I⟩ := hr.inst r hi
      split at hy
      · obtain ⟨z, hz, rz⟩ := f.get hy
        obtain ⟨attr, h1, h2⟩ := (hC c).fld x (fldAt_mem hy)
        exact get_value hr.inK I (hC c).ga (findObj_own (hC c).hd h1 h2 hz) rz.handed (q _ φ s.heap _ (.refl ..) hr rz)
      · rename_i hx
        have hx : x ∉ lay c := fun z => hx (List.contains_iff_mem.mpr z)
        obtain ⟨z, rz, h1, h2, h3, h4⟩ := (hC c).cl x _ hx hy
        exact get_value hr.inK I (hC c).ga (findObj_cls (hC c).hd h1 h2 h3 h4 (f.miss fun w hw e => hx (fname_inj e ▸ hw))) h3 (q _ φ s.heap _ (.refl ..) hr (rz _ _))
    · cases hy
  · cases hy
theorem readE_use {β : Type} {f : H → Option β} {ρ : Rho} {σ σ' : H} {b : β} (h : readE f ρ σ = some (b, σ')) : (f σ).map (fun y => (y, σ)) = some (b, σ') := by
  obtain ⟨e, rfl⟩ := xH h; rw [e]; rfl
theorem zJ {o : PySem.Expr} {a : Ex V} {x : Fd} {nm : Str} {pos : Pos} (h1 : yE G cx n (eval o) a (VRG G)) (hC : ∀ c, ClsOK G c) (hn : nm = wW x)
    (he : ∀ env, eval (.Attribute o nm pos) env = (do
      let v ← eval o env
      standAt pos.atName
      let r ← holding [v] (getAttr v nm true)
      letTemporaryGo o v r
      pure r) := by intro _; with_unfolding_all rfl) : yE G cx n (eval (.Attribute o nm pos)) (zL a x) (VRG G) := by
  subst hn
  intro A env φ ρ σ s Q E v σ' rm er hr hm q
  refine Attribute_any_ (yO h1 rm er hr hm fun y y' φ₁ σ₁ h₁ tk₁ st₁ er₁ hr₁ r₁ hm₁ => ?_) (he env)
  exact simh_getF (n := n) hC r₁ A σ₁ { s with heap := h₁, toks := tk₁ } Q E v σ' rfl rm hr₁ (readE_use hm₁) fun a φ' h' tk st hr' r => q a φ' h' tk (st₁.trans st) hr' r

theorem set_raw {x C dx : Addr} {ox : Obj} {es : List DictEntry} {k : Nat} {name : Str} {v : Value} {A : Around} {s : Shared} {Q : Unit → Shared → Prop} {E : Value → Shared → Prop} (X : G.K.In s.heap) (I : InstAt s.heap x ox C (some (dictOf es k))) (hd : ox.dict = some dx)
    (hs : findIn G.K (.ref C) "__setattr__" = some (some (.builtin "object.__setattr__"))) (hp : plainOver G.K C = true) (ht : takerIn G.K C name = some none) (hh : hasDictIn G.K C = true) (hl : es.any (·.refKey) = false)
    (hz : (putL name (PyData.keyHash G.w.params name) (.str name (s.toks + 1)) v es).length ≤ 1000)
    (h : ∀ h', Heap.SameBut dx s.heap h' → h'.get? dx = some (dictOf (putL name (PyData.keyHash G.w.params name) (.str name (s.toks + 1)) v es) (putN name es k)) → Q () { s with heap := h', toks := s.toks + 2 }) :
    wpAny (model G.prog G.w) A (setAttr (.ref x) name v) Q E s := by
  refine set_plain X I hs (osa_open (s := { s with toks := s.toks + 1 }) X I hp ht fun b => ?_)
  obtain ⟨cd, hc, hd'⟩ := any_some hh
  obtain ⟨hx, hcl, hn, hdd⟩ := I
  obtain ⟨oc, odi, oda, osl⟩ := ox
  dsimp only at hcl hd hdd
  subst hcl hd
  dsimp only at hdd
  have U := Heap.SameBut.update s.heap dx (Obj.putName name (PyData.keyHash G.w.params name) (.str name (s.toks + 1)) v)
  have D : (s.heap.update dx (Obj.putName name (PyData.keyHash G.w.params name) (.str name (s.toks + 1)) v)).get? dx = _ := Heap.get?_update_self _ hdd (by rw [putName_dict]; rfl)
  rw [putName_dict] at D
  show wpAny _ _ (storeInOwnDict _ _ _ _ _ _) _ _ _
  unfold storeInOwnDict
  refine wpAny_bind (wpAny_pure (wpAny_bind ?_))
  show wpAny _ _ (instanceDict x true) _ _ _
  unfold instanceDict
  refine wpAny_bind (wpAny_loadPart hx (wpAny_bind (Looks.here (s := { s with toks := s.toks + 1 }) (looks_clsIn X hc) ?_)))
  rw [hd']
  refine wpAny_pure (a := some dx) ?_
  show wpAny _ _ (storeInDict dx _ _ _) _ _ _
  unfold storeInDict nsSet
  refine wpAny_bind (wpAny_pure (wpAny_bind ?_))
  refine wpAny_bind (wpAny_bind (wpAny_askSetting (wpAny_pure (wpAny_bind (wpAny_mkText (wpAny_bind (wpAny_loadPart hdd ?_)))))))
  dsimp only
  have hg : aRefKeyMayBeTheName name es.toArray = false := by
    rw [aRefKeyMayBeTheName_at, ← Array.any_toList, ← Array.any_toList, hl, Bool.and_false]
  rw [hg, if_neg (by decide)]
  refine wpAny_updatePart hdd ?_
  refine wpAny_bind (wpAny_lookBehind D (pastItsLine_dict (by rw [List.size_toArray, sizeLine_eq]; exact Nat.le_trans ‹_› (by decide))) ?_)
  exact wpAny_pure (h _ U D)
theorem VR.sameBut {fa : Nat → Addr} {φ : Phi} {h h' : Heap} {q : Addr} (hs : Heap.SameBut q h h') (iq : InP φ q) {v : V} {x : Value} (r : VR fa φ h v x) : VR fa φ h' v x :=
  r.mono (.refl _) fun a us e n => ⟨(hs.2 a fun z => n (z ▸ iq)).trans e, n⟩
theorem VRs.sameBut {fa : Nat → Addr} {φ : Phi} {h h' : Heap} {q : Addr} (hs : Heap.SameBut q h h') (iq : InP φ q) {v : List V} {x : List Value} (r : VRs fa φ h v x) : VRs fa φ h' v x :=
  r.mono (.refl _) fun a us e n => ⟨(hs.2 a fun z => n (z ▸ iq)).trans e, n⟩
theorem FR.sameBut {fa : Nat → Addr} {P : Params} {φ : Phi} {h h' : Heap} {q : Addr} (hs : Heap.SameBut q h h') (iq : InP φ q) {l : List Fd} {fs : List V} {es : List DictEntry} (r : FR fa P φ h l fs es) : FR fa P φ h' l fs es :=
  r.mono (.refl _) fun a us e n => ⟨(hs.2 a fun z => n (z ▸ iq)).trans e, n⟩
theorem putL_len {nm : Str} {hsh : Int} {key v : Value} : ∀ es : List DictEntry, (putL nm hsh key v es).length ≤ es.length + 1
  | [] => Nat.le_refl _
  | e :: r => by
    unfold putL
    split
    · simp
    · have := putL_len (nm := nm) (hsh := hsh) (key := key) (v := v) r
      simp only [List.length_cons]; exact Nat.lt_succ_of_le ‹_›
theorem lay_len (c : Cl) : (lay c).length ≤ 10 := by cases c <;> decide
set_option tactic.hygienic true in
theorem simh_setF {x : Fd} {u v : V} {a b : Value} {φ : Phi} {h : Heap} (hC : ∀ c, ClsOK G c) (r : VR G.fa φ h u a) (rv : VR G.fa φ h v b) : SimH G n φ h (setAttr a (wW x) b) (fun σ => (setF u x v σ).map fun σ' => ((), σ')) (fun _ _ _ _ => True) := by
  intro A σ s Q E _ σ' eh rm hr hm q
  subst eh
  obtain ⟨σ₁, hy, e⟩ := Option.map_eq_some_iff.mp hm
  cases e
  unfold setF at hy
  split at hy
  · rename_i i
    split at hy
    · rename_i c fs hi
      obtain ⟨fs', hf, e⟩ := Option.map_eq_some_iff.mp hy
      cases e
      obtain ⟨p, es, k, hp, rfl, ho, hd, f, I⟩ := hr.inst r hi
      have hx := putAt_mem hf
      have fl := f.len
      have ll := lay_len c
      refine set_raw hr.inK I rfl (hC c).sa (hC c).po ((hC c).tk x hx) (hC c).hd f.noRef (by have := putL_len (nm := wW x) (hsh := PyData.keyHash G.w.params (wW x)) (key := .str (wW x) (s.toks + 1)) (v := b) es; omega) fun h' hs hd' => ?_
      have iq : InP φ p.2 := (InP.at hp).2
      have hne : p.1 ≠ p.2 := fun z => by
        rw [z, hd] at ho; cases ho
      obtain ⟨hr', st'⟩ := hr.put (m := .inst c fs') (fun z => by subst z; obtain ⟨xs, e⟩ := hr.zero; rw [e] at hi; cases hi) hp (.inr rfl) hs ⟨(hs.2 _ hne).trans ho, _, _, hd', (FR.put rv f hf).sameBut hs iq⟩
      exact q () φ h' _ st' hr' trivial
    · cases hy
  · cases hy
end
end Mine


section
open PySem PySem.W PySem.Calls PyProof.Rows PySem.Spec
namespace Mine
section
variable {G : Gd} {cx : Scope} {n : Nat}

theorem place_some {m : Nat} {k : Int} {j : Nat} (h : place m k = some j) : 0 ≤ k ∧ k < m ∧ k < 1000000 ∧ j = k.toNat := by
  unfold place at h
  split at h
  · split at h
    · rename_i a b; cases h; exact ⟨a, b.1, b.2, rfl⟩
    · cases h
  · cases h
set_option tactic.hygienic true in
theorem simh_item {value slice : PySem.Expr} {x y : V} {a b : Value} {φ : Phi} {h : Heap} (rx : VR G.fa φ h x a) (ry : VR G.fa φ h y b)
    (hs : ∀ o i, subscripted slice false o i = operate [o, i] (getItem o i)) : SimH G n φ h (subscriptTail value slice a b) (fun σ => (itemO x y σ).map fun z => (z, σ)) (VRG G) := by
  intro A σ s Q E v σ' eh rm hr hm q
  subst eh
  obtain ⟨z, hz, e⟩ := Option.map_eq_some_iff.mp hm
  cases e
  unfold itemO at hz
  split at hz
  · rename_i i k
    cases ry
    split at hz
    · rename_i xs e1
      obtain ⟨i1, p1, vs1, n1, -, -, hp1, rfl, -, ho1, r1⟩ := hr.listAt rx e1
      obtain ⟨j, hj, hx⟩ := Option.bind_eq_some_iff.mp hz
      obtain ⟨h0, h1, h9, rfl⟩ := place_some hj
      have hfit : k < 2 ^ 63 := by exact Int.lt_trans ‹_› (by decide)
      obtain ⟨w, hw, rw'⟩ := r1.get hx
      · exact tail_any (xP ho1).typeIs slot_list_getitem.lookup (wpAny_getItem_list (xP ho1) h0 hfit (by simpa using hw) (q _ φ s.heap s.toks (.refl ..) hr rw')) (hs _ _)
    · cases hz
  · rename_i vs k
    cases ry
    cases rx with
    | tup _ as t ht hn r1 =>
    obtain ⟨j, hj, hx⟩ := Option.bind_eq_some_iff.mp hz
    obtain ⟨h0, h1, h9, rfl⟩ := place_some hj
    have hfit : k < 2 ^ 63 := by exact Int.lt_trans ‹_› (by decide)
    obtain ⟨w, hw, rw'⟩ := r1.get hx
    have hl := r1.length
    · refine tail_any (T := "tuple") ⟨_, ht, rfl⟩ slot_tuple_getitem.lookup (getItem_tuple (items := as.toArray) (j := k.toNat) ⟨_, ht, rfl, 0, rfl⟩ (by omega) hfit ?_ (by simpa using hw) (q _ φ s.heap s.toks (.refl ..) hr rw')) (hs _ _)
      have hn : ¬ k < 0 := by exact Int.not_lt.mpr ‹_›
      have h2 : k < as.length := by omega
      simp [seqIndex?, hn, h0, h2]
  · rename_i l k
    cases ry
    cases rx
    split at hz
    · rename_i hl
      obtain ⟨j, hj, hx⟩ := Option.bind_eq_some_iff.mp hz
      obtain ⟨h0, h1, h9, rfl⟩ := place_some hj
      cases hx
      have hl := of_decide_eq_true hl
      refine tail_any (typeIs_bytes s _ _) FB.slot_bytes_getitem.lookup (getItem_bytes (Nat.le_trans ‹_› (by decide)) h0 h1 (q _ φ s.heap _ (.refl ..) hr (.int _ _))) (hs _ _)
    · cases hz
  · cases hz
theorem yI {o k : PySem.Expr} {a b : Ex V} {pos : Pos} (h1 : yE G cx n (eval o) a (VRG G)) (h2 : yE G cx n (eval k) b (VRG G)) (hs : ∀ o i, subscripted k false o i = operate [o, i] (getItem o i) := by intro _ _; with_unfolding_all rfl) :
    yE G cx n (eval (.Subscript o k pos)) (yB a b) (VRG G) := by
  intro A env φ ρ σ s Q E v σ' rm er hr hm q
  refine Subscript_ (yO h1 rm er hr hm fun x x' φ₁ σ₁ h₁ tk₁ st₁ er₁ hr₁ r₁ hm₁ => ?_)
  refine yO h2 rm er₁ hr₁ hm₁ fun y y' φ₂ σ₂ h₂ tk₂ st₂ er₂ hr₂ r₂ hm₂ => ?_
  exact simh_item (n := n) (r₁.step st₂) r₂ hs A σ₂ { s with heap := h₂, toks := tk₂ } Q E v σ' rfl rm hr₂ (readE_use hm₂) fun a φ' h' tk st hr' r => q a φ' h' tk ((st₁.trans st₂).trans st) hr' r
set_option tactic.hygienic true in
theorem simh_setItem {x y v : V} {a b c : Value} {φ : Phi} {h : Heap} (rx : VR G.fa φ h x a) (ry : VR G.fa φ h y b) (rv : VR G.fa φ h v c) : SimH G n φ h (setItem a b c) (fun σ => (setItemO x y v σ).map fun σ' => ((), σ')) (fun _ _ _ _ => True) := by
  intro A σ s Q E _ σ' eh rm hr hm q
  subst eh
  obtain ⟨σ₁, hz, e⟩ := Option.map_eq_some_iff.mp hm
  cases e
  unfold setItemO at hz
  split at hz
  · rename_i i k
    cases ry
    split at hz
    · cases hz
    rename_i hi0
    split at hz
    · rename_i xs e1
      obtain ⟨i1, p1, vs1, n1, ei, hs1, hp1, rfl, hpp, ho1, r1⟩ := hr.listAt rx e1
      cases ei
      obtain ⟨j, hj, e⟩ := Option.map_eq_some_iff.mp hz
      cases e
      obtain ⟨h0, h1, h9, rfl⟩ := place_some hj
      have hl := r1.length
      have e2 : Obj.mapSeq (·.setIfInBounds k.toNat c) (listO vs1 n1) = listO (vs1.set k.toNat c) n1 := by
        show (⟨_, _, Data.seq _ (if (vs1.toArray.setIfInBounds k.toNat c).size == vs1.toArray.size then n1 else n1 + 1), _⟩ : Obj) = _
        have : vs1.toArray.setIfInBounds k.toNat c = (vs1.set k.toNat c).toArray := by apply Array.toList_inj.mp; simp
        rw [this]; simp
      have D := Heap.get?_update_self (Obj.mapSeq (·.setIfInBounds k.toNat c)) ho1 (by rw [e2]; rfl)
      rw [e2] at D
      obtain ⟨hr', st'⟩ := hr.put (m := .list (xs.set k.toNat v)) hi0 hp1 (.inl rfl) (Heap.SameBut.update ..) ⟨hpp, _, _, D, (r1.set rv k.toNat).sameBut (Heap.SameBut.update ..) (InP.at hp1).1⟩
      exact ki_setAt ho1 h0 (by exact Int.lt_trans ‹_› (by decide)) (by simp only [List.size_toArray]; omega) (q () φ _ _ st' hr' trivial)
    · cases hz
  · cases hz
theorem simh_len {x : V} {a : Value} {φ : Phi} {h : Heap} (rx : VR G.fa φ h x a) : SimH G n φ h (call (.builtin "len") [a]) (fun σ => (lenO x σ).map fun z => (z, σ)) (VRG G) := by
  intro A σ s Q E v σ' eh rm hr hm q
  subst eh
  obtain ⟨z, hz, e⟩ := Option.map_eq_some_iff.mp hm
  cases e
  unfold lenO at hz
  split at hz
  · obtain ⟨xs, e1, e2⟩ := Option.bind_eq_some_iff.mp hz
    obtain ⟨i1, p1, vs1, n1, -, -, hp1, rfl, -, ho1, r1⟩ := hr.listAt rx e1
    split at e2
    · rename_i hok
      cases e2
      have := of_decide_eq_true hok
      have hl := r1.length
      refine PyProof.Rows.len_list (xP ho1) (by simp only [List.size_toArray]; omega) ?_
      have := q (.int (vs1.toArray.size : Nat) (s.toks + 1)) φ s.heap (s.toks + 1 + 1) (.refl ..) hr (by simp only [List.size_toArray, ← hl]; exact .int _ _)
      exact this
    · cases e2
  · cases rx
    split at hz
    · rename_i hok
      cases hz
      have := of_decide_eq_true hok
      refine len_bytes (by simp only [List.size_toArray]; exact Nat.le_trans ‹_› (by decide)) ?_
      have := q (.int ((List.toArray _).size : Nat) (s.toks + 1)) φ s.heap (s.toks + 1 + 1) (.refl ..) hr (by simp only [List.size_toArray]; exact .int _ _)
      exact this
    · cases hz
  · cases hz
end
end Mine


section
open PySem PySem.W PySem.Calls PyProof.Rows PySem.Spec
namespace Mine
section
variable {G : Gd} {cx : Scope} {n : Nat}
set_option tactic.hygienic true in
theorem sim_head {o k : PySem.Expr} {a b : Ex V} {p pos : Pos} (h1 : yE G cx n (eval o) a (VRG G)) (h2 : yE G cx n (eval k) b (VRG G)) (hs : ∀ o i, subscripted (.Slice none (some k) none p) false o i = operate [i, o] (getItem o i) := by intro _ _; with_unfolding_all rfl) :
    yE G cx n (eval (.Subscript o (.Slice none (some k) none p) pos)) (headE a b) (VRG G) := by
  intro A env φ ρ σ s Q E v σ' rm er hr hm q
  refine Subscript_ (yO h1 rm er hr hm fun x x' φ₁ σ₁ h₁ tk₁ st₁ er₁ hr₁ r₁ hm₁ => ?_)
  refine wpAny_Slice (wpAny_pure ?_)
  refine yO h2 rm er₁ hr₁ hm₁ fun y y' φ₂ σ₂ h₂ tk₂ st₂ er₂ hr₂ r₂ hm₂ => wpAny_pure ?_
  dsimp only [jL, headO] at hm₂
  split at hm₂
  · rename_i i k'
    obtain ⟨t, rfl⟩ : ∃ t, y = .int k' t := by cases r₂; exact ⟨_, rfl⟩
    split at hm₂
    · rename_i hk
      split at hm₂
      · rename_i xs e1
        obtain ⟨i1, p1, vs1, n1, -, -, hp1, rfl, -, ho1, rr⟩ := hr₂.listAt (r₁.step st₂) e1
        split at hm₂
        · rename_i hok
          obtain ⟨hok', rfl, rfl⟩ := newL_some hm₂
          have st₃ := Step.push φ₂ h₂ { cls := .type "slice", data := .fields #[.none, .int k' t, .none] }
          obtain ⟨hr', st', r'⟩ := (hr₂.keeps fun _ _ e => Heap.get?_push_of_some _ e).newList (h := h₂.push { cls := .type "slice", data := .fields #[.none, .int k' t, .none] }) ((rr.take k'.toNat).step st₃)
          have hl := xP ho1
          refine tail_any (Heap.IsList.typeIs (s := { s with heap := h₂.push _, toks := tk₂ }) (hl.push _)) slot_list_getitem.lookup (wpAny_getItem_list_slice (hl.push _) (Heap.IsSliceOf.new ..) .none (.int k' t) .none (by simp) ?_ ?_) (hs _ _)
          · have e : slicePick vs1.toArray none (some k') none = (vs1.take k'.toNat).toArray := by
              obtain ⟨m, rfl⟩ := Int.eq_ofNat_of_zero_le hk.1
              exact slicePick_upto' _ _
            rw [e]
            exact q _ _ _ tk₂ (((st₁.trans st₂).trans st₃).trans st') hr' r'
          · simp only [List.size_toArray]; exact okLen_size hok rr
        · cases hm₂
      · cases hm₂
    · cases hm₂
  · cases hm₂
set_option tactic.hygienic true in
theorem sim_tail {o k : PySem.Expr} {a b : Ex V} {p pos : Pos} (h1 : yE G cx n (eval o) a (VRG G)) (h2 : yE G cx n (eval k) b (VRG G)) (hs : ∀ o i, subscripted (.Slice (some k) none none p) false o i = operate [i, o] (getItem o i) := by intro _ _; with_unfolding_all rfl) :
    yE G cx n (eval (.Subscript o (.Slice (some k) none none p) pos)) (tailE a b) (VRG G) := by
  intro A env φ ρ σ s Q E v σ' rm er hr hm q
  refine Subscript_ (yO h1 rm er hr hm fun x x' φ₁ σ₁ h₁ tk₁ st₁ er₁ hr₁ r₁ hm₁ => ?_)
  refine wpAny_Slice ?_
  refine yO h2 rm er₁ hr₁ hm₁ fun y y' φ₂ σ₂ h₂ tk₂ st₂ er₂ hr₂ r₂ hm₂ => wpAny_pure (wpAny_pure ?_)
  dsimp only [jL, tailO] at hm₂
  split at hm₂
  · rename_i i k'
    obtain ⟨t, rfl⟩ : ∃ t, y = .int k' t := by cases r₂; exact ⟨_, rfl⟩
    split at hm₂
    · rename_i hk
      split at hm₂
      · rename_i xs e1
        obtain ⟨i1, p1, vs1, n1, -, -, hp1, rfl, -, ho1, rr⟩ := hr₂.listAt (r₁.step st₂) e1
        split at hm₂
        · rename_i hok
          obtain ⟨hok', rfl, rfl⟩ := newL_some hm₂
          have st₃ := Step.push φ₂ h₂ { cls := .type "slice", data := .fields #[.int k' t, .none, .none] }
          obtain ⟨hr', st', r'⟩ := (hr₂.keeps fun _ _ e => Heap.get?_push_of_some _ e).newList (h := h₂.push { cls := .type "slice", data := .fields #[.int k' t, .none, .none] }) ((rr.drop k'.toNat).step st₃)
          have hl := xP ho1
          refine tail_any (Heap.IsList.typeIs (s := { s with heap := h₂.push _, toks := tk₂ }) (hl.push _)) slot_list_getitem.lookup (wpAny_getItem_list_slice (hl.push _) (Heap.IsSliceOf.new ..) (.int k' t) .none .none (by simp) ?_ ?_) (hs _ _)
          · have e : slicePick vs1.toArray (some k') none none = (vs1.drop k'.toNat).toArray := by
              obtain ⟨m, rfl⟩ := Int.eq_ofNat_of_zero_le hk.1
              exact slicePick_from' _ _
            rw [e]
            exact q _ _ _ tk₂ (((st₁.trans st₂).trans st₃).trans st') hr' r'
          · simp only [List.size_toArray]; exact okLen_size hok rr
        · cases hm₂
      · cases hm₂
    · cases hm₂
  · cases hm₂
set_option tactic.hygienic true in
theorem sim_rev {o k : PySem.Expr} {a : Ex V} {p pos : Pos} (h1 : yE G cx n (eval o) a (VRG G)) (h2 : ∀ cx n, yE G cx n (eval k) (cE (.int (-1))) (VRG G)) (hs : ∀ o i, subscripted (.Slice none none (some k) p) false o i = operate [o, i] (getItem o i) := by intro _ _; with_unfolding_all rfl) :
    yE G cx n (eval (.Subscript o (.Slice none none (some k) p) pos)) (revE a) (VRG G) := by
  intro A env φ ρ σ s Q E v σ' rm er hr hm q
  refine Subscript_ (yO h1 rm er hr hm fun x x' φ₁ σ₁ h₁ tk₁ st₁ er₁ hr₁ r₁ hm₁ => ?_)
  refine wpAny_Slice (wpAny_pure (wpAny_pure ?_))
  refine h2 cx n A env φ₁ ρ σ₁ { s with heap := h₁, toks := tk₁ } _ E (.int (-1)) σ₁ rm er₁ hr₁ rfl fun y φ₂ h₂ tk₂ st₂ hr₂ r₂ => ?_
  obtain ⟨t, rfl⟩ : ∃ t, y = .int (-1) t := by cases r₂; exact ⟨_, rfl⟩
  dsimp only [jL, revO] at hm₁
  split at hm₁
  · rename_i xs e1
    obtain ⟨i1, p1, vs1, n1, -, -, hp1, rfl, -, ho1, rr⟩ := hr₂.listAt (r₁.step st₂) e1
    split at hm₁
    · rename_i hok
      obtain ⟨hok', rfl, rfl⟩ := newL_some hm₁
      have st₃ := Step.push φ₂ h₂ { cls := .type "slice", data := .fields #[.none, .none, .int (-1) t] }
      obtain ⟨hr', st', r'⟩ := (hr₂.keeps fun _ _ e => Heap.get?_push_of_some _ e).newList (h := h₂.push { cls := .type "slice", data := .fields #[.none, .none, .int (-1) t] }) (rr.reverse.step st₃)
      have hl := xP ho1
      refine tail_any (Heap.IsList.typeIs (s := { s with heap := h₂.push _, toks := tk₂ }) (hl.push _)) slot_list_getitem.lookup (wpAny_getItem_list_slice (hl.push _) (Heap.IsSliceOf.new ..) .none .none (.int (-1) t) (by simp) ?_ ?_) (hs _ _)
      · rw [krv_pick]
        exact q _ _ _ tk₂ (((st₁.trans st₂).trans st₃).trans st') hr' r'
      · simp only [List.size_toArray]; exact okLen_size hok rr
    · cases hm₁
  · cases hm₁
end
end Mine


section
open PySem PySem.W PySem.Calls PyProof.Rows PySem.Spec
namespace Mine
section
variable {G : Gd} {cx : Scope} {n : Nat}
theorem yU.mono {m : Nat} {f : Value} {F : Fn} (h : yU G m f F) (hm : m ≤ n) : yU G n f F :=
  fun φ vs as A σ s R b σ' r rm hr hm' q => h φ vs as A σ s R b σ' r (rm.mono hm) hr hm' q
inductive Args (G : Gd) (cx : Scope) (n : Nat) : List PySem.Expr → List (Ex V) → Prop where
  | nil : Args G cx n [] []
  | cons {e : PySem.Expr} {es : List PySem.Expr} {c : Ex V} {cs : List (Ex V)} : yE G cx n (eval e) c (VRG G) → (∀ env, starEach (e :: es) env = (false, eval e env) :: starEach es env) → Args G cx n es cs → Args G cx n (e :: es) (c :: cs)
theorem Args.sim {es : List PySem.Expr} {cs : List (Ex V)} {pos : Pos} (a : Args G cx n es cs) : yE G cx n (fun env => spliced (backTo pos (starEach es env))) (seqE cs) (VRs G.fa) := by
  induction a with
  | nil => exact siml_nil
  | cons h hs _ ih => exact siml_cons h ih hs
theorem Args.plain {es : List PySem.Expr} {cs : List (Ex V)} (a : Args G cx n es cs) (pos : Pos) (env : Env) : (backTo pos (starEach es env)).any (·.1) = false := by
  induction a with
  | nil => rfl
  | @cons e es c cs h hs r ih =>
    rw [hs env]
    show (false || (backTo pos (starEach es env)).any (·.1)) = false
    rw [ih]; rfl
theorem Args.eval {es : List PySem.Expr} {cs : List (Ex V)} (a : Args G cx n es cs) {pos : Pos} {env : Env} {f : Value} {M : Model} {A : Around} {s : Shared} {E : Value → Shared → Prop} {Q : PySem.Args → Shared → Prop}
    (h : wpAny M A (spliced (backTo pos (starEach es env))) (fun vs s' => Q ⟨vs, []⟩ s') E s) : wpAny M A (evalArgs f true (backTo pos (starEach es env)) []) Q E s := by
  cases a with
  | nil => exact fun Γ p hΓ => h Γ p hΓ
  | cons h1 hs r =>
    rw [hs env] at h ⊢
    exact evalArgs_plain h

theorem sim_calls {f : Value} {first : List Value} {us : List V} {F : Fn} {es : List PySem.Expr} {cs : List (Ex V)} {pos : Pos} {A : Around} {env : Env} {φ : Phi} {ρ : Rho} {σ σ' : H} {s : Shared} {Q : Value → Shared → Prop} {E : Value → Shared → Prop} {v : V}
    (hk : keepIn G.K f = true) (ha : Args G cx n es cs) (hF : yU G n f F) (rm : Room n A) (er : EnvR G cx env φ ρ s.heap) (hr : HR G φ σ s.heap) (ru : VRs G.fa φ s.heap us first) (hm : yD (seqE cs) (fun vs => jL (F (us ++ vs))) ρ σ = some (v, σ'))
    (q : ∀ a φ' h' tk, Step φ s.heap φ' h' → HR G φ' σ' h' → VR G.fa φ' h' v a → Q a { s with heap := h', toks := tk }) :
    wpAny (model G.prog G.w) A (callWith pos f first (backTo pos (starEach es env)) []) Q E s := by
  refine callWith_of (by rw [ha.plain pos env]; rfl) (keeps_K hk) (ha.eval (yO ha.sim rm er hr hm fun as vs φ₁ σ₁ h₁ tk₁ st₁ er₁ hr₁ r₁ hm₁ => ⟨hr₁.inK, ?_⟩))
  exact wpAny_call (hF φ₁ (us ++ vs) (first ++ as) A σ₁ { s with heap := h₁, toks := tk₁ } _ v σ' (VRs.append r₁ (ru.step st₁)) rm hr₁ hm₁ fun a φ' h' tk st hr' r => q a φ' h' tk (st₁.trans st) hr' r)
theorem zS {x : Str} {p pos : Pos} {i : Nat} {f : Value} {F : Fn} {es : List PySem.Expr} {cs : List (Ex V)} (ha : Args G cx n es cs) (hF : yU G n f F) (hx : xU cx.names x = some (i, .globalImplicit)) (he : nsIn G.K mainGlobals x = some (some f)) (hk : keepIn G.K f = true) (hd : (x == ("__debug__" : Str)) = false) :
    yE G cx n (eval (.Call (.Name x p) es [] pos)) (zR F cs) (VRG G) := by
  intro A env φ ρ σ s Q E v σ' rm er hr hm q
  rw [arm_eval_Call_Name']
  refine wpAny_bind (name_glob er hr hx he hd ?_)
  exact sim_calls (us := []) (first := []) hk ha hF rm er hr .nil hm q
set_option tactic.hygienic true in
theorem yN {o : PySem.Expr} {nm : Str} {apos pos : Pos} {c : Cl} {a : Ex V} {f : Addr} {F : Fn} {es : List PySem.Expr} {cs : List (Ex V)} (h1 : yE G cx n (eval o) a (VRG G)) (ha : Args G cx n es cs) (hF : yU G n (.ref f) F) (hC : ClsOK G c)
    (hf : findIn G.K (.ref (G.ca c)) nm = some (some (.ref f))) (ht : typeIn G.K (.ref f) = some (.type "function")) (hk : keepIn G.K (.ref f) = true) (hn : ∀ y ∈ lay c, wW y ≠ nm) {pl : Env → Sem Bool}
    (heq : ∀ env, eval (.Call (.Attribute o nm apos) es [] pos) env = (do
      let ov ← eval o env
      standAt apos.atName
      let (f, first) ← holding [ov] (getMethod ov nm (pl env))
      callWith pos f first (backTo pos (starEach es env)) (backToKw pos (keywordEach [] env)))) :
    yE G cx n (eval (.Call (.Attribute o nm apos) es [] pos)) (yT c F a cs) (VRG G) := by
  intro A env φ ρ σ s Q E v σ' rm er hr hm q
  refine methodCall_KW (pl := pl env) (yO h1 rm er hr hm fun x x' φ₁ σ₁ h₁ tk₁ st₁ er₁ hr₁ r₁ hm₁ => ?_) (heq env)
  obtain ⟨_, σ₂, e1, hm₂⟩ := xY hm₁
  obtain ⟨e1, e2⟩ := xH e1
  subst e2
  split at e1
  · rename_i ho
    unfold isObj at ho
    split at ho
    · rename_i i
      split at ho
      · rename_i c' fs hi
        have hc : c' = c := beq_iff_eq.mp ho
        subst hc
        obtain ⟨p, es', k, hp, rfl, ho', hd, fr, I⟩ := hr₁.inst r₁ hi
        refine method_fn hr₁.inK I hC.ga hC.gt hf ht (by show (lookIn nm (dictOf es' k)).map _ = _; rw [lookIn_dict, fr.miss hn]; rfl) ?_
        exact sim_calls (us := [.obj i]) (first := [.ref p.1]) (s := { s with heap := h₁, toks := tk₁ }) hk ha hF rm er₁ hr₁ (.cons r₁ .nil) hm₂ fun a φ' h' tk st hr' r => q a φ' h' tk (st₁.trans st) hr' r
      · cases ho
    · cases ho
  · cases e1
theorem Room.under {A : Around} {c : Code} (r : Room (n + 1) A) (h1 : c.weight ≤ 10) (h2 : c.cUnits ≤ 100) : Room n (A.under c) := by
  exact ⟨r.hd, Nat.lt_of_le_of_lt (room_le (a := A.depth) h1) r.dp, Nat.lt_of_le_of_lt (room_le (a := A.units) h2) r.un⟩
theorem tc_weight (a : Addr) (as : List Value) : (Code.builtin "type.__call__" ⟨.ref a :: as, []⟩).weight ≤ 10 := by
  have : (Code.builtin "type.__call__" ⟨.ref a :: as, []⟩).weight = 1 := by kernel_rfl
  exact Nat.le_trans (Nat.le_of_eq ‹_›) (by decide)
theorem tc_units (a : Addr) (as : List Value) : (Code.builtin "type.__call__" ⟨.ref a :: as, []⟩).cUnits ≤ 100 := by
  have : (Code.builtin "type.__call__" ⟨.ref a :: as, []⟩).cUnits = 1 := by kernel_rfl
  exact Nat.le_trans (Nat.le_of_eq ‹_›) (by decide)
set_option tactic.hygienic true in
theorem simf_new {c : Cl} {fI : Addr} {F : Fn} (hM : makesIn G.K (G.ca c) = true) (hi : findIn G.K (.ref (G.ca c)) "__init__" = some (some (.ref fI))) (hf : typeIn G.K (.ref fI) = some (.type "function")) (hF : yU G n (.ref fI) F) :
    yU G (n + 1) (.ref (G.ca c)) (fun vs σ => match F (.obj σ.length :: vs) (σ ++ [.inst c []]) with | some (.none, σ') => some (.obj σ.length, σ') | _ => none) := by
  intro φ vs as A σ s R v σ' rr rm hr hm q
  dsimp only at hm
  split at hm
  · rename_i σ₁ hF1
    cases hm
    obtain ⟨h, g, d, t, os⟩ := s
    dsimp only at hr rr q
    refine make_core (makes_of hr.inK hM) (looks_findIn hr.inK hi) (fun self => bind_fn hr.inK self hf) (.inl rfl) ?_
    have k1 : ∀ b o, h.get? b = some o → ((h.push emptyDict).push (instObj (G.ca c) h.objs.size)).get? b = some o := fun _ _ e => Heap.get?_push_of_some _ (Heap.get?_push_of_some _ e)
    have n2 : h.get? (h.objs.size + 1) = none := by
      cases z : h.get? (h.objs.size + 1) with
      | none => rfl
      | some o => exact absurd (Heap.lt_size z) (Nat.not_lt.mpr (Nat.le_succ _))
    have g1 : ((h.push emptyDict).push (instObj (G.ca c) h.objs.size)).get? (h.objs.size + 1) = some (instObj (G.ca c) h.objs.size) := by
      have := Heap.get?_push_size (h.push emptyDict) (o := instObj (G.ca c) h.objs.size) rfl
      rwa [Heap.size_push] at this
    have g2 : ((h.push emptyDict).push (instObj (G.ca c) h.objs.size)).get? h.objs.size = some (dictOf [] 0) := Heap.get?_push_of_some _ (Heap.get?_push_size h rfl)
    obtain ⟨hr', st'⟩ := hr.make (p := (h.objs.size + 1, h.objs.size)) (m := .inst c []) k1 n2 (wN _) ⟨g1, [], 0, g2, .nil⟩
    have ro : VR G.fa (φ ++ [(h.objs.size + 1, h.objs.size)]) ((h.push emptyDict).push (instObj (G.ca c) h.objs.size)) (.obj σ.length) (.ref (h.objs.size + 1)) := VR.obj _ (h.objs.size + 1, h.objs.size) (by rw [← hr.len, List.getElem?_append_right (Nat.le_refl _), Nat.sub_self]; rfl)
    exact hF _ (.obj σ.length :: vs) (.ref (h.objs.size + 1) :: as) (A.under (.builtin "type.__call__" ⟨.ref (G.ca c) :: as, []⟩)) _ ⟨_, g, d, t, os⟩
      (InitBack (h.objs.size + 1) R) .none σ' (.cons ro (rr.step st'))
      (rm.under (tc_weight _ _) (tc_units _ _)) hr' hF1 fun a φ' h' tk st hr'' r => by
        cases r
        exact ⟨rfl, q _ φ' h' tk (st'.trans st) hr'' (ro.step st)⟩
  · cases hm
theorem sim_new {x : Str} {p pos : Pos} {i : Nat} {c : Cl} {fI : Addr} {F : Fn} {es : List PySem.Expr} {cs : List (Ex V)} (ha : Args G cx (n + 1) es cs) (hF : yU G n (.ref fI) F) (hx : xU cx.names x = some (i, .globalImplicit)) (he : nsIn G.K mainGlobals x = some (some (.ref (G.ca c)))) (hk : keepIn G.K (.ref (G.ca c)) = true) (hd : (x == ("__debug__" : Str)) = false)
    (hM : makesIn G.K (G.ca c) = true) (hi : findIn G.K (.ref (G.ca c)) "__init__" = some (some (.ref fI))) (hf : typeIn G.K (.ref fI) = some (.type "function")) :
    yE G cx (n + 1) (eval (.Call (.Name x p) es [] pos)) (newE c F cs) (VRG G) :=
  zS (F := fun vs σ => match F (.obj σ.length :: vs) (σ ++ [.inst c []]) with | some (.none, σ') => some (.obj σ.length, σ') | _ => none) ha (simf_new hM hi hf hF) hx he hk hd
end
end Mine


section
open PySem PySem.W PySem.Calls PyProof.Rows PySem.Spec
namespace Mine
section
variable {G : Gd} {cx : Scope} {n : Nat}

theorem Ns.one {h : Heap} {a : Addr} {m m' : Str → Option Value} (x : h.Ns a m) (y : h.Ns a m') : m = m' := by
  obtain ⟨o, es, ep, ho, hd, _, hf⟩ := x
  obtain ⟨o', es', ep', ho', hd', _, hf'⟩ := y
  rw [ho] at ho'; cases ho'
  rw [hd] at hd'; cases hd'
  funext nm; rw [← hf, ← hf']
theorem EnvR.noTup {env : Env} {φ : Phi} {ρ : Rho} {h : Heap} (er : EnvR G cx env φ ρ h) {a : Addr} (o : Own env a) (us : List Value) : h.get? a ≠ some (tupO us) := by
  intro e
  rcases o with rfl | ⟨x, hx⟩
  · obtain ⟨m, o, es, ep, ho, hd, _⟩ := er.ns
    rw [e] at ho; cases ho; cases hd
  · obtain ⟨⟨v, o, ho, hd⟩, _⟩ := er.cel x a hx
    rw [e] at ho; cases ho; cases hd
theorem EnvR.live {env : Env} {φ : Phi} {ρ : Rho} {h : Heap} (er : EnvR G cx env φ ρ h) {a : Addr} (o : Own env a) : h.get? a ≠ none := by
  rcases o with rfl | ⟨x, hx⟩
  · obtain ⟨m, o, es, ep, ho, hd, _⟩ := er.ns
    rw [ho]; exact fun z => by cases z
  · obtain ⟨⟨v, o, ho, hd⟩, _⟩ := er.cel x a hx
    rw [ho]; exact fun z => by cases z
theorem EnvR.kept {env : Env} {φ : Phi} {ρ : Rho} {σ : H} {h h' : Heap} (er : EnvR G cx env φ ρ h) (hr : HR G φ σ h) {q : Addr} (hq : Own env q) (hs : Heap.SameBut q h h') (hl : h'.get? q ≠ none) :
    HR G φ σ h' ∧ StepX (Own env) φ h φ h' ∧ (∀ v x, VR G.fa φ h v x → VR G.fa φ h' v x) := by
  have k : ∀ b o, ¬ Own env b → h.get? b = some o → h'.get? b = some o := fun b o n e => (hs.2 b fun z => n (z ▸ hq)).trans e
  refine ⟨hr.keepsX er.nb er.nf (fun a us o => er.noTup o us) k, ⟨.refl _, fun _ x => .inl x, fun b o e _ n => k b o n e, fun b o ne => ?_⟩, fun v x r => r.mono (.refl _) fun a us e n => ⟨k _ _ (fun o => er.noTup o us e) e, n⟩⟩
  by_cases z : b = q
  · subst z; exact hl
  · rw [hs.2 b z]; exact ne
theorem StepX.refl (X : Addr → Prop) (φ : Phi) (h : Heap) : StepX X φ h φ h := ⟨.refl _, fun _ x => .inl x, fun _ _ e _ _ => e, fun _ _ n => n⟩
theorem set_get {ρ : Rho} {i j : Nat} {v w : V} (h : (ρ.set i (some v))[j]? = some (some w)) : (i = j ∧ w = v) ∨ (i ≠ j ∧ ρ[j]? = some (some w)) := by
  by_cases e : i = j
  · subst e
    rw [List.getElem?_set] at h
    split at h
    · split at h
      · cases h; exact .inl ⟨rfl, rfl⟩
      · cases h
    · rename_i q; exact absurd rfl q
  · rw [List.getElem?_set_ne e] at h; exact .inr ⟨e, h⟩
theorem store_name {x : Str} {i : Nat} {k : NameKind} (hx : xU cx.names x = some (i, k)) (hk : k = .local ∨ k = .cell) {A : Around} {env : Env} {φ : Phi} {ρ : Rho} {σ' : H} {s : Shared} {Q : Unit → Shared → Prop} {E : Value → Shared → Prop} {v : V} {a : Value}
    (er : EnvR G cx env φ ρ s.heap) (hr : HR G φ σ' s.heap) (rv : VR G.fa φ s.heap v a) (q : ∀ φ' h' tk, StepX (Own env) φ s.heap φ' h' → EnvR G cx env φ' (ρ.set i (some v)) h' → HR G φ' σ' h' → Q () { s with heap := h', toks := tk }) :
    wpAny (model G.prog G.w) A (storeName env x a) Q E s := by
  have hki := er.kind hx
  rcases hk with rfl | rfl
  · obtain ⟨m, hns⟩ := er.ns
    refine wpAny_storeName_local hki hns (fun h' hn hs => ?_) (by rw [er.sc, er.kd]; rfl)
    obtain ⟨hr', st, kv⟩ := er.kept hr (.inl rfl) hs (by obtain ⟨o, _, _, ho, _⟩ := hn; rw [ho]; exact fun z => by cases z)
    refine q φ h' _ st ⟨er.sc, er.kd, er.gl, er.bi, er.nb, er.nf, ⟨_, hn⟩, fun y c hc => ?_, er.cinj, er.has, fun j y k w h1 h2 => ?_⟩ hr'
    · obtain ⟨⟨v, hv⟩, hne⟩ := er.cel y c hc
      exact ⟨⟨v, hv.sameBut hs hne⟩, hne⟩
    · rcases set_get h2 with ⟨rfl, rfl⟩ | ⟨hne, h2⟩
      · have e := slot_inj hx h1
        subst e
        exact .inl ⟨hki, _, a, hn, if_pos rfl, kv _ _ rv⟩
      · have hxy : y ≠ x := fun e => by subst e; rw [hx] at h1; cases h1; exact hne rfl
        rcases er.vars j y k w h1 h2 with ⟨hk, m', b, hm', e, r⟩ | ⟨hk, c, b, hc, hv, r⟩
        · have := Ns.one hns hm'; subst this
          exact .inl ⟨hk, _, b, hn, by show (if y = x then _ else _) = _; rw [if_neg hxy]; exact e, kv _ _ r⟩
        · exact .inr ⟨hk, c, b, hc, hv.sameBut hs (er.cel y c hc).2, kv _ _ r⟩
  · obtain ⟨c, hc⟩ := er.has x (.inl (slot_kind hx))
    obtain ⟨⟨v₀, hv₀⟩, hcl⟩ := er.cel x c hc
    refine wpAny_storeName_cell er.fn hki hc hv₀ fun h' hn hs => ?_
    obtain ⟨hr', st, kv⟩ := er.kept hr (.inr ⟨x, hc⟩) hs (by obtain ⟨o, ho, _⟩ := hn; rw [ho]; exact fun z => by cases z)
    have nsk : ∀ m, s.heap.Ns env.locals m → h'.Ns env.locals m := fun m hm => hm.at' fun o e => (hs.2 _ (Ne.symm hcl)).trans e
    refine q φ h' _ st ⟨er.sc, er.kd, er.gl, er.bi, er.nb, er.nf, ?_, fun y c' hc' => ?_, er.cinj, er.has, fun j y k w h1 h2 => ?_⟩ hr'
    · obtain ⟨m, hm⟩ := er.ns; exact ⟨m, nsk m hm⟩
    · by_cases z : c' = c
      · subst z; exact ⟨⟨_, hn⟩, hcl⟩
      · obtain ⟨⟨v, hv⟩, hne⟩ := er.cel y c' hc'
        exact ⟨⟨v, hv.sameBut hs z⟩, hne⟩
    · rcases set_get h2 with ⟨rfl, rfl⟩ | ⟨hne, h2⟩
      · have e := slot_inj hx h1
        subst e
        exact .inr ⟨.inl hki, c, a, hc, hn, kv _ _ rv⟩
      · have hxy : y ≠ x := fun e => by subst e; rw [hx] at h1; cases h1; exact hne rfl
        rcases er.vars j y k w h1 h2 with ⟨hk, m', b, hm', e, r⟩ | ⟨hk, c', b, hc', hv, r⟩
        · exact .inl ⟨hk, m', b, nsk _ hm', e, kv _ _ r⟩
        · refine .inr ⟨hk, c', b, hc', hv.sameBut hs fun z => hxy ?_, kv _ _ r⟩
          subst z; exact er.cinj _ _ _ hc' hc
theorem zH {x : Str} {pos : Pos} {i : Nat} {k : NameKind} (hx : xU cx.names x = some (i, k)) (hk : k = .local ∨ k = .cell) : SimA G cx n (assign (.Name x pos)) (zG i) := by
  intro A env φ ρ σ s Q E v a ρ' σ' rm er hr rv hm q
  cases hm
  exact assign_Name (store_name hx hk er hr rv q)
theorem EnvR.toX {env : Env} {φ φ' : Phi} {ρ : Rho} {h h' : Heap} (er : EnvR G cx env φ ρ h) (st : Step φ h φ' h') : StepX (Own env) φ h φ' h' := st.toX fun a o => er.nf a o
set_option tactic.hygienic true in
theorem zV {o : PySem.Expr} {a : Ex V} {x : Fd} {nm : Str} {pos : Pos} (h1 : yE G cx n (eval o) a (VRG G)) (hC : ∀ c, ClsOK G c) (hn : nm = wW x) : SimA G cx n (assign (.Attribute o nm pos)) (yQ a x) := by
  subst hn
  intro A env φ ρ σ s Q E v b ρ' σ' rm er hr rv hm q
  unfold yQ at hm
  split at hm
  · rename_i w σ₁ e1
    obtain ⟨σ₂, e2, e⟩ := Option.map_eq_some_iff.mp hm
    cases e
    rw [assign_Attribute]
    refine wpAny_bind (wpAny_holding (h1 A env φ ρ σ s _ E w σ₁ rm er hr e1 fun y φ₁ h₁ tk₁ st₁ hr₁ r₁ => ?_))
    refine wpAny_bind (wpAny_standAt (wpAny_bind (wpAny_holding ?_)))
    refine simh_setF (n := n) hC r₁ (rv.step st₁) A σ₁ { s with heap := h₁, toks := tk₁ } _ E () σ' rfl rm hr₁ (by show Option.map _ (setF _ _ _ _) = _; rw [e2]; rfl) fun _ φ₂ h₂ tk₂ st₂ hr₂ _ => ?_
    exact wpAny_release' (q φ₂ h₂ tk₂ (er.toX (st₁.trans st₂)) (er.step (st₁.trans st₂)) hr₂)
  · cases hm
theorem assign_Subscript' (o i pos env v) : assign (.Subscript o i pos) env v = (do
    let ov ← holding [v] (eval o env)
    let iv ← holding [v, ov] (eval i env)
    standAt pos
    holding [v, ov, iv] (setItem ov iv v)
    release (match i with | .Slice _ _ none _ => [iv, v, ov] | _ => [v, ov, iv]) []) := rfl
set_option tactic.hygienic true in
theorem sima_item {o k : PySem.Expr} {a b : Ex V} {pos : Pos} (h1 : yE G cx n (eval o) a (VRG G)) (h2 : yE G cx n (eval k) b (VRG G)) : SimA G cx n (assign (.Subscript o k pos)) (itemA a b) := by
  intro A env φ ρ σ s Q E v c ρ' σ' rm er hr rv hm q
  unfold itemA at hm
  split at hm
  · rename_i x σ₁ e1
    split at hm
    · rename_i y σ₂ e2
      obtain ⟨σ₃, e3, e⟩ := Option.map_eq_some_iff.mp hm
      cases e
      rw [assign_Subscript']
      refine wpAny_bind (wpAny_holding (h1 A env φ ρ σ s _ E x σ₁ rm er hr e1 fun x' φ₁ h₁ tk₁ st₁ hr₁ r₁ => ?_))
      refine wpAny_bind (wpAny_holding (h2 A env φ₁ ρ σ₁ { s with heap := h₁, toks := tk₁ } _ E y σ₂ rm (er.step st₁) hr₁ e2 fun y' φ₂ h₂ tk₂ st₂ hr₂ r₂ => ?_))
      refine wpAny_bind (wpAny_standAt (wpAny_bind (wpAny_holding ?_)))
      refine simh_setItem (n := n) (r₁.step st₂) r₂ (rv.step (st₁.trans st₂)) A σ₂ { s with heap := h₂, toks := tk₂ } _ E () σ' rfl rm hr₂ (by show Option.map _ (setItemO _ _ _ _) = _; rw [e3]; rfl) fun _ φ₃ h₃ tk₃ st₃ hr₃ _ => ?_
      exact wpAny_release' (q φ₃ h₃ tk₃ (er.toX ((st₁.trans st₂).trans st₃)) (er.step ((st₁.trans st₂).trans st₃)) hr₃)
    · cases hm
  · cases hm
inductive SimAs (G : Gd) (cx : Scope) (n : Nat) : List PySem.Expr → List As → Prop where
  | nil : SimAs G cx n [] []
  | cons {t : PySem.Expr} {ts : List PySem.Expr} {a : As} {as : List As} : SimA G cx n (assign t) a → (∀ env, assignEach (t :: ts) env = (false, assign t env) :: assignEach ts env) → SimAs G cx n ts as → SimAs G cx n (t :: ts) (a :: as)
theorem SimAs.shape {ts : List PySem.Expr} {as : List As} (h : SimAs G cx n ts as) (env : Env) : (assignEach ts env).length = as.length ∧ (assignEach ts env).findIdx? (·.1) = none := by
  induction h with
  | nil => exact ⟨rfl, rfl⟩
  | cons h hs _ ih => rw [hs env]; exact ⟨congrArg (· + 1) ih.1, by rw [List.findIdx?_cons, ih.2]; rfl⟩
theorem VR.stepX {fa : Nat → Addr} {X : Addr → Prop} {φ φ' : Phi} {h h' : Heap} (st : StepX X φ h φ' h') (ht : ∀ a us, X a → h.get? a ≠ some (tupO us)) {v : V} {x : Value} (r : VR fa φ h v x) : VR fa φ' h' v x :=
  r.mono st.ext fun a us e n => ⟨st.keep _ _ e n fun x => ht a us x e, st.off e n⟩
theorem VRs.stepX {fa : Nat → Addr} {X : Addr → Prop} {φ φ' : Phi} {h h' : Heap} (st : StepX X φ h φ' h') (ht : ∀ a us, X a → h.get? a ≠ some (tupO us)) {v : List V} {x : List Value} (r : VRs fa φ h v x) : VRs fa φ' h' v x :=
  r.mono st.ext fun a us e n => ⟨st.keep _ _ e n fun x => ht a us x e, st.off e n⟩
set_option tactic.hygienic true in
theorem SimAs.order {ts : List PySem.Expr} {as : List As} (h : SimAs G cx n ts as) : ∀ (A : Around) (env : Env) (φ : Phi) (ρ : Rho) (σ : H) (s : Shared) (Q : Unit → Shared → Prop) (E : Value → Shared → Prop) (vs : List V) (xs : List Value) (ρ' : Rho) (σ' : H),
    Room n A → EnvR G cx env φ ρ s.heap → HR G φ σ s.heap → VRs G.fa φ s.heap vs xs → eachA as vs ρ σ = some (ρ', σ') →
    (∀ φ' h' tk, StepX (Own env) φ s.heap φ' h' → EnvR G cx env φ' ρ' h' → HR G φ' σ' h' → Q () { s with heap := h', toks := tk }) →
    wpAny (model G.prog G.w) A (assignInOrder ((assignEach ts env).map (·.2)) xs) Q E s := by
  induction h with
  | nil =>
    intro A env φ ρ σ s Q E vs xs ρ' σ' rm er hr rv hm q
    cases rv with
    | nil => cases hm; exact wpAny_pure (q φ s.heap s.toks (.refl ..) er hr)
    | cons _ _ => cases hm
  | cons h hs _ ih =>
    intro A env φ ρ σ s Q E vs xs ρ' σ' rm er hr rv hm q
    rw [hs env]
    cases rv with
    | nil => cases hm
    | cons r rs =>
      rw [eachA_c] at hm
      split at hm
      · rename_i ρ₁ σ₁ e1
        refine wpAny_bind (wpAny_holding (h A env φ ρ σ s _ E _ _ ρ₁ σ₁ rm er hr r e1 fun φ₁ h₁ tk₁ st₁ er₁ hr₁ => ?_))
        exact ih A env φ₁ ρ₁ σ₁ { s with heap := h₁, toks := tk₁ } Q E _ _ ρ' σ' rm er₁ hr₁ (rs.stepX st₁ fun a us o => er.noTup o us) hm fun φ' h' tk st er' hr' => q φ' h' tk (st₁.trans st) er' hr'
      · cases hm
set_option tactic.hygienic true in
theorem sima_tup {ts : List PySem.Expr} {as : List As} {k : Nat} {pos : Pos} (h : SimAs G cx n ts as) : SimA G cx n (assign (.Tuple ts k pos)) (jB as) := by
  intro A env φ ρ σ s Q E v x ρ' σ' rm er hr rv hm q
  unfold jB at hm
  split at hm
  · rename_i vs
    cases rv with
    | tup _ us a ha hn r =>
    obtain ⟨hl, hst⟩ := h.shape env
    have hlen : ∀ {as : List As} {vs : List V} {ρ : Rho} {σ : H} {ρ' : Rho} {σ' : H}, eachA as vs ρ σ = some (ρ', σ') → as.length = vs.length := by
      intro as
      induction as with
      | nil => intro vs ρ σ ρ' σ' e; cases vs with | nil => rfl | cons _ _ => cases e
      | cons b bs ih =>
        intro vs ρ σ ρ' σ' e
        cases vs with
        | nil => cases e
        | cons w ws =>
          rw [eachA_c] at e
          split at e
          · rw [List.length_cons, List.length_cons, ih e]
          · cases e
    show wpAny _ _ (do standAt pos; unpack (.ref a) (assignEach ts env)) _ _ _
    refine wpAny_bind (wpAny_standAt (unpack_tuple rm.hd (items := us.toArray) ⟨_, ha, rfl, 0, rfl⟩ (by rw [hl, hlen hm, r.length]; simp) hst fun h₁ he => ?_))
    have k : ∀ b o, s.heap.get? b = some o → h₁.get? b = some o := fun b o e => he b o (Nat.ne_of_lt (Heap.lt_size e)) e
    have st₁ : Step φ s.heap φ h₁ := .keeps k
    exact h.order A env φ ρ σ { s with heap := h₁ } Q E vs us ρ' σ' rm (er.step st₁) (hr.keeps k) (r.step st₁) hm fun φ' h' tk st er' hr' => q φ' h' tk ((er.toX st₁).trans st) er' hr'
  · cases hm
end
end Mine


section
open PySem PySem.W PySem.Calls PyProof.Rows PySem.Spec
namespace Mine
section
variable {G : Gd} {cx : Scope} {n : Nat}
theorem sims_no {t : Env → Sem Flow} : SimS G cx n t noS := fun _ _ _ _ _ _ _ _ _ _ _ _ _ _ hm => nomatch hm
theorem exec_Assign_one (t : PySem.Expr) (value pos env) : exec (.Assign [t] value pos) env = (do
    standAt pos
    if ← swapsWith value (some t) pos.line env then do
      evalThenUse value env fun v => assignAll v ((assignEach [t] env).map (·.2))
      pure .next
    else do
      let v ← eval value env
      assignStores env v (← swappedStores [t] value env) ((assignEach [t] env).map (·.2))) := rfl
set_option tactic.hygienic true in
theorem zF {t value : PySem.Expr} {pos : Pos} {a : As} {e : Ex V} (h1 : yE G cx n (eval value) e (VRG G)) (h2 : SimA G cx n (assign t) a) (hs : ∀ env, swapsWith value (some t) pos.line env = pure false) (hw : ∀ env : Env, env.scope = cx → swappedStores [t] value env = pure none) (ht : ∀ env, assignEach [t] env = [(false, assign t env)]) : SimS G cx n (exec (.Assign [t] value pos)) (zQ a e) := by
  intro A env φ ρ σ s Q E f ρ' σ' rm er hr hm q
  unfold zQ at hm
  split at hm
  · rename_i v σ₁ e1
    split at hm
    · rename_i ρ₁ σ₂ e2
      cases hm
      rw [exec_Assign_one, hs env]
      refine wpAny_bind (wpAny_standAt (wpAny_bind (wpAny_pure ?_)))
      rw [if_neg (by decide)]
      refine wpAny_bind (h1 A env φ ρ σ s _ E v σ₁ rm er hr e1 fun y φ₁ h₁ tk₁ st₁ hr₁ r₁ => ?_)
      rw [hw env er.sc, ht env]
      refine wpAny_bind (wpAny_pure ?_)
      show wpAny _ _ (do assignAll y [assign t env]; pure Flow.next) _ _ _
      refine wpAny_bind (h2 A env φ₁ ρ σ₁ { s with heap := h₁, toks := tk₁ } _ E v y ρ' σ' rm (er.step st₁) hr₁ r₁ e2 fun φ₂ h₂ tk₂ st₂ er₂ hr₂ => wpAny_pure ?_)
      exact q _ φ₂ h₂ tk₂ ((er.toX st₁).trans st₂) er₂ hr₂ .next
    · cases hm
  · cases hm
set_option tactic.hygienic true in
theorem load_name {x : Str} {i : Nat} {k : NameKind} (hx : xU cx.names x = some (i, k)) (hcd : (x == ("__classdict__" : Str)) = false) {M : Model} {A : Around} {env : Env} {φ : Phi} {ρ : Rho} {σ σ' : H} {v : V} {s : Shared} {Q : Value → Shared → Prop} {E : Value → Shared → Prop} (er : EnvR G cx env φ ρ s.heap)
    (hm : zC i ρ σ = some (v, σ')) (q : ∀ a, VR G.fa φ s.heap v a → Q a s) : wpAny M A (loadName env x) Q E s := by
  unfold zC at hm
  split at hm
  · rename_i w hv
    cases hm
    rcases er.vars i x _ v hx hv with ⟨hk, m, a, hn, ha, r⟩ | ⟨hk, c, a, hc, hv', r⟩
    · exact wpAny_loadName_local er.fn hk hn ha (q a r)
    · rcases hk with hk | hk
      · exact wpAny_loadName_cell er.fn hk hc hv' (q a r)
      · exact wpAny_loadName_free er.fn hk hc hv' (q a r) hcd
  · cases hm
noncomputable def iopOf : Operator → Option Op
  | .Add => some .add | .Sub => some .sub | .Mult => some .mul
  | _ => none
theorem int_iop {o : Operator} {op : Op} {a b c : Int} {t u : Tok} {prog : Program} {w : World} {A : Around} {s : Shared} {Q : Value → Shared → Prop} {E : Value → Shared → Prop} (ho : iopOf o = some op) (h : intO op a b = some c)
    (q : Q (.int c s.toks) { s with toks := s.toks + 1 }) : wpAny (model prog w) A (inplaceOp o (.int a t) (.int b u)) Q E s := by
  cases o <;> first | (cases ho; done) | skip
  all_goals (cases ho; unfold intO at h; dsimp only at h)
  case Add => cases h; exact PyProof.Rows.iadd_int q
  case Sub => cases h; exact PyProof.Rows.isub_int q
  case Mult =>
    split at h
    · rename_i hs; cases h; rw [Bool.and_eq_true] at hs; exact PyProof.Rows.imul_int q (IntMulOk.of_left (bits_small hs.1))
    · cases h
set_option tactic.hygienic true in
theorem sims_aug {x : Str} {p pos : Pos} {i : Nat} {k : NameKind} {o : Operator} {op : Op} {value : PySem.Expr} {e : Ex V} (hx : xU cx.names x = some (i, k)) (hk : k = .local ∨ k = .cell) (hcd : (x == ("__classdict__" : Str)) = false) (h1 : yE G cx n (eval value) e (VRG G)) (ho : iopOf o = some op) :
    SimS G cx n (exec (.AugAssign (.Name x p) o value pos)) (augS i op e) := by
  intro A env φ ρ σ s Q E f ρ' σ' rm er hr hm q
  unfold augS at hm
  split at hm
  · rename_i u σ₁ e1
    split at hm
    · rename_i v σ₂ e2
      split at hm
      · rename_i a b
        obtain ⟨c, hc, e⟩ := Option.map_eq_some_iff.mp hm
        cases e
        have hσ : σ₁ = σ := by unfold zC at e1; split at e1 <;> cases e1; rfl
        subst hσ
        refine wpAny_AugAssign_Name (load_name hx hcd er e1 fun a' ra => ?_)
        refine h1 A env φ ρ _ s _ E _ _ rm er hr e2 fun y φ₁ h₁ tk₁ st₁ hr₁ r₁ => ?_
        cases ra; cases r₁
        refine int_iop ho hc ?_
        exact store_name (s := { s with heap := h₁, toks := tk₁ + 1 }) hx hk (er.step st₁) hr₁ (.int c _) fun φ' h' tk st er' hr' => q _ φ' h' tk ((er.toX st₁).trans st) er' hr' .next
      · cases hm
    · cases hm
  · cases hm
set_option tactic.hygienic true in
theorem sims_augF {o : PySem.Expr} {x : Fd} {nm : Str} {tpos pos : Pos} {oo : Operator} {op : Op} {value : PySem.Expr} {a e : Ex V} (h0 : yE G cx n (eval o) a (VRG G)) (hC : ∀ c, ClsOK G c) (hn : nm = wW x) (h1 : yE G cx n (eval value) e (VRG G)) (ho : iopOf oo = some op) :
    SimS G cx n (exec (.AugAssign (.Attribute o nm tpos) oo value pos)) (augF a x op e) := by
  subst hn
  intro A env φ ρ σ s Q E f ρ' σ' rm er hr hm q
  unfold augF at hm
  split at hm
  · rename_i w σ₁ e1
    split at hm
    · rename_i i1 e2
      split at hm
      · rename_i i2 σ₂ e3
        obtain ⟨c, hc, e⟩ := Option.bind_eq_some_iff.mp hm
        obtain ⟨σ₃, e4, e⟩ := Option.map_eq_some_iff.mp e
        cases e
        refine wpAny_AugAssign_AttributeAny (h0 A env φ ρ σ s _ E _ σ₁ rm er hr e1 fun y φ₁ h₁ tk₁ st₁ hr₁ r₁ => ?_)
        refine simh_getF (n := n) hC r₁ A σ₁ { s with heap := h₁, toks := tk₁ } _ E (.int i1) σ₁ rfl rm hr₁ (by show Option.map _ (getF _ _ _) = _; rw [e2]; rfl) fun z φ₂ h₂ tk₂ st₂ hr₂ r₂ => ?_
        refine h1 A env φ₂ ρ σ₁ { s with heap := h₂, toks := tk₂ } _ E _ σ₂ rm (er.step (st₁.trans st₂)) hr₂ e3 fun y' φ₃ h₃ tk₃ st₃ hr₃ r₃ => ?_
        cases r₂; cases r₃
        refine int_iop ho hc ?_
        refine simh_setF (n := n) hC ((r₁.step st₂).step st₃) (.int c tk₃) A σ₂ { s with heap := h₃, toks := tk₃ + 1 } _ E () σ' rfl rm hr₃ (by show Option.map _ (setF _ _ _ _) = _; rw [e4]; rfl) fun _ φ₄ h₄ tk₄ st₄ hr₄ _ => ?_
        exact q _ φ₄ h₄ tk₄ (er.toX (((st₁.trans st₂).trans st₃).trans st₄)) (er.step (((st₁.trans st₂).trans st₃).trans st₄)) hr₄ .next
      · cases hm
    · cases hm
  · cases hm
set_option tactic.hygienic true in
theorem yH {e : PySem.Expr} {pos : Pos} {a : Ex V} (h1 : yE G cx n (eval e) a (VRG G)) (hs : ∀ env, swapsWith e none pos.line env = pure false) : SimS G cx n (exec (.Expr e pos)) (yR a) := by
  intro A env φ ρ σ s Q E f ρ' σ' rm er hr hm q
  unfold yR at hm
  split at hm
  · rename_i σ₁ e1
    cases hm
    refine wpAny_Expr (h1 A env φ ρ σ s _ E _ σ' rm er hr e1 fun y φ₁ h₁ tk₁ st₁ hr₁ r₁ => ?_) ?_ (hs env)
    · cases r₁
      exact q _ φ₁ h₁ tk₁ (er.toX st₁) (er.step st₁) hr₁ .next
    · unfold interactive; rw [er.sc, er.kd]; rfl
  · cases hm
set_option tactic.hygienic true in
theorem zP {e : PySem.Expr} {pos : Pos} {a : Ex V} (h1 : yE G cx n (eval e) a (VRG G)) : SimS G cx n (exec (.Return (some e) pos)) (yM a) := by
  intro A env φ ρ σ s Q E f ρ' σ' rm er hr hm q
  unfold yM at hm
  split at hm
  · rename_i v σ₁ e1
    cases hm
    exact wpAny_Return_some (h1 A env φ ρ σ s _ E _ σ' rm er hr e1 fun y φ₁ h₁ tk₁ st₁ hr₁ r₁ => q _ φ₁ h₁ tk₁ (er.toX st₁) (er.step st₁) hr₁ (.ret r₁))
  · cases hm
theorem sims_ret0 {pos : Pos} : SimS G cx n (exec (.Return none pos)) (yM (cE .none)) := by
  intro A env φ ρ σ s Q E f ρ' σ' rm er hr hm q
  cases hm
  exact wpAny_Return_none (q _ φ s.heap s.toks (.refl ..) er hr (.ret .none))
theorem sims_brk {pos : Pos} : SimS G cx n (exec (.Break pos)) brkS := by
  intro A env φ ρ σ s Q E f ρ' σ' rm er hr hm q
  cases hm
  exact wpAny_Break (q _ φ s.heap s.toks (.refl ..) er hr .brk)
theorem zD : SimS G cx n (execs []) (zI []) := by
  intro A env φ ρ σ s Q E f ρ' σ' rm er hr hm q
  cases hm
  exact wpAny_execs_nil (q _ φ s.heap s.toks (.refl ..) er hr .next)
theorem zB {t : Stmt} {ts : List Stmt} {a : St} {as : List St} (h1 : SimS G cx n (exec t) a) (h2 : SimS G cx n (execs ts) (zI as)) : SimS G cx n (execs (t :: ts)) (zI (a :: as)) := by
  intro A env φ ρ σ s Q E f ρ' σ' rm er hr hm q
  rw [seqS_c] at hm
  cases e1 : a ρ σ with
  | none => rw [e1] at hm; cases hm
  | some p =>
    obtain ⟨f₁, ρ₁, σ₁⟩ := p
    rw [e1] at hm
    refine wpAny_execs_cons (h1 A env φ ρ σ s _ E f₁ ρ₁ σ₁ rm er hr e1 fun y φ₁ h₁ tk₁ st₁ er₁ hr₁ r₁ => ?_)
    cases r₁ with
    | next => exact h2 A env φ₁ ρ₁ σ₁ { s with heap := h₁, toks := tk₁ } Q E f ρ' σ' rm er₁ hr₁ hm fun y φ₂ h₂ tk₂ st₂ er₂ hr₂ r₂ => q y φ₂ h₂ tk₂ (st₁.trans st₂) er₂ hr₂ r₂
    | brk => cases hm; exact q _ φ₁ h₁ tk₁ st₁ er₁ hr₁ .brk
    | cont => cases hm; exact q _ φ₁ h₁ tk₁ st₁ er₁ hr₁ .cont
    | ret r => cases hm; exact q _ φ₁ h₁ tk₁ st₁ er₁ hr₁ (.ret r)
set_option tactic.hygienic true in
theorem zT {t : PySem.Expr} {b c : List Stmt} {pos : Pos} {x : Ex Bool} {y z : St} (h0 : SimT G cx n t x) (h1 : SimS G cx n (execs b) y) (h2 : SimS G cx n (execs c) z) : SimS G cx n (exec (.If t b c pos)) (ifS x y z) := by
  intro A env φ ρ σ s Q E f ρ' σ' rm er hr hm q
  unfold ifS at hm
  split at hm
  · rename_i v σ₁ e1
    refine wpAny_If (h0 _ rfl A env φ ρ σ s _ E v σ₁ rm er hr e1 fun w φ₁ h₁ tk₁ st₁ hr₁ r₁ => ?_)
    subst r₁
    cases w with
    | true => exact h1 A env φ₁ ρ σ₁ { s with heap := h₁, toks := tk₁ } Q E f ρ' σ' rm (er.step st₁) hr₁ hm fun y φ₂ h₂ tk₂ st₂ er₂ hr₂ r₂ => q y φ₂ h₂ tk₂ ((er.toX st₁).trans st₂) er₂ hr₂ r₂
    | false => exact h2 A env φ₁ ρ σ₁ { s with heap := h₁, toks := tk₁ } Q E f ρ' σ' rm (er.step st₁) hr₁ hm fun y φ₂ h₂ tk₂ st₂ er₂ hr₂ r₂ => q y φ₂ h₂ tk₂ ((er.toX st₁).trans st₂) er₂ hr₂ r₂
  · cases hm
noncomputable def WI (G : Gd) (cx : Scope) (env : Env) (φ : Phi) (s : Shared) (x : Ex Bool) (y : St) (f : Fl) (ρ' : Rho) (σ' : H) (k : Nat) (s' : Shared) : Prop :=
  ∃ φ₁ ρ₁ σ₁ h₁ tk₁, s' = { s with heap := h₁, toks := tk₁ } ∧ StepX (Own env) φ s.heap φ₁ h₁ ∧ EnvR G cx env φ₁ ρ₁ h₁ ∧ HR G φ₁ σ₁ h₁ ∧ whileL x y k ρ₁ σ₁ = some (f, ρ', σ')
theorem WI.mk {env : Env} {φ φ₁ : Phi} {h₁ : Heap} {s s' : Shared} {x : Ex Bool} {y : St} {f : Fl} {ρ' ρ₁ : Rho} {σ' σ₁ : H} {k tk₁ : Nat}
    (e1 : s' = { s with heap := h₁, toks := tk₁ }) (e2 : StepX (Own env) φ s.heap φ₁ h₁) (e3 : EnvR G cx env φ₁ ρ₁ h₁) (e4 : HR G φ₁ σ₁ h₁) (e5 : whileL x y k ρ₁ σ₁ = some (f, ρ', σ')) :
    WI G cx env φ s x y f ρ' σ' k s' := ⟨φ₁, ρ₁, σ₁, h₁, tk₁, e1, e2, e3, e4, e5⟩
set_option tactic.hygienic true in
theorem jK {t : PySem.Expr} {b : List Stmt} {pos : Pos} {x : Ex Bool} {y : St} (h0 : SimT G cx n t x) (h1 : SimS G cx n (execs b) y) : SimS G cx n (exec (.While t b [] pos)) (whileS x y) := by
  intro A env φ ρ σ s Q E f ρ' σ' rm er hr hm q
  refine wpAny_While ?_
  refine codeAny_whileLoop (WI G cx env φ s x y f ρ' σ') (fun k s' hI => ?_) 100 (.mk rfl (.refl ..) er hr hm)
  obtain ⟨φ₁, ρ₁, σ₁, h₁, tk₁, rfl, st₁, er₁, hr₁, hm₁⟩ := hI
  cases k with
  | zero => cases hm₁
  | succ k =>
    rw [whileL_c] at hm₁
    split at hm₁
    · rename_i σ₂ e1
      refine h0 _ rfl A env φ₁ ρ₁ σ₁ { s with heap := h₁, toks := tk₁ } _ _ true σ₂ rm er₁ hr₁ e1 fun w φ₂ h₂ tk₂ st₂ hr₂ r₂ => ?_
      subst r₂
      rw [if_pos rfl]
      have s12 := st₁.trans (er₁.toX st₂)
      split at hm₁
      · rename_i ρ₃ σ₃ e2
        refine h1 A env φ₂ ρ₁ σ₂ { s with heap := h₂, toks := tk₂ } _ _ _ ρ₃ σ₃ rm (er₁.step st₂) hr₂ e2 fun w φ₃ h₃ tk₃ st₃ er₃ hr₃ r₃ => ?_
        cases r₃
        exact ⟨k, Nat.lt_succ_self _, .mk rfl (s12.trans st₃) er₃ hr₃ hm₁⟩
      · rename_i ρ₃ σ₃ e2
        refine h1 A env φ₂ ρ₁ σ₂ { s with heap := h₂, toks := tk₂ } _ _ _ ρ₃ σ₃ rm (er₁.step st₂) hr₂ e2 fun w φ₃ h₃ tk₃ st₃ er₃ hr₃ r₃ => ?_
        cases r₃
        exact ⟨k, Nat.lt_succ_self _, .mk rfl (s12.trans st₃) er₃ hr₃ hm₁⟩
      · rename_i ρ₃ σ₃ e2
        cases hm₁
        refine h1 A env φ₂ ρ₁ σ₂ { s with heap := h₂, toks := tk₂ } _ _ _ _ _ rm (er₁.step st₂) hr₂ e2 fun w φ₃ h₃ tk₃ st₃ er₃ hr₃ r₃ => ?_
        cases r₃
        exact q _ φ₃ h₃ tk₃ (s12.trans st₃) er₃ hr₃ .next
      · rename_i v ρ₃ σ₃ e2
        cases hm₁
        refine h1 A env φ₂ ρ₁ σ₂ { s with heap := h₂, toks := tk₂ } _ _ _ _ _ rm (er₁.step st₂) hr₂ e2 fun w φ₃ h₃ tk₃ st₃ er₃ hr₃ r₃ => ?_
        cases r₃ with
        | ret r => exact q _ φ₃ h₃ tk₃ (s12.trans st₃) er₃ hr₃ (.ret r)
      · cases hm₁
    · rename_i σ₂ e1
      cases hm₁
      refine h0 _ rfl A env φ₁ _ σ₁ { s with heap := h₁, toks := tk₁ } _ _ false _ rm er₁ hr₁ e1 fun w φ₂ h₂ tk₂ st₂ hr₂ r₂ => ?_
      subst r₂
      exact wpAny_execs_nil (q _ φ₂ h₂ tk₂ (st₁.trans (er₁.toX st₂)) (er₁.step st₂) hr₂ .next)
    · cases hm₁
end
end Mine


section
open PySem PySem.W PySem.Calls PyProof.Rows PySem.Spec
namespace Mine
section
variable {G : Gd} {cx : Scope} {n : Nat}
theorem StepX.mono {X Y : Addr → Prop} {φ φ' : Phi} {h h' : Heap} (a : StepX X φ h φ' h') (hXY : ∀ b, X b → Y b) (hY : ∀ b, Y b → ¬ InP φ b) : StepX Y φ h φ' h' :=
  ⟨a.ext, a.fresh, fun b o e n y => a.keep b o e n fun x => y (hXY b x), fun b y ne => by
    by_cases x : X b
    · exact a.alive b x ne
    · cases q : h.get? b with
      | none => exact absurd q ne
      | some o => rw [a.keep b o q (hY b y) x]; exact fun z => by cases z⟩
theorem HR.fresh {φ : Phi} {σ : H} {h : Heap} (hr : HR G φ σ h) {a : Addr} (e : h.get? a = none) : G.B.get? a = none ∧ ¬ InP φ a := by
  constructor
  · cases z : G.B.get? a with
    | none => rfl
    | some o => rw [hr.base a o z] at e; cases e
  · intro z; obtain ⟨o, ho⟩ := hr.liveP z; rw [e] at ho; cases ho
structure StepY (X : Addr → Prop) (φ : Phi) (h : Heap) (φ' : Phi) (h' : Heap) : Prop where
  ext : Ext φ φ'
  fresh : ∀ a, InP φ' a → InP φ a ∨ h.get? a = none
  keep : ∀ b o, h.get? b = some o → ¬ InP φ b → ¬ X b → h'.get? b = some o
theorem StepX.y {X : Addr → Prop} {φ φ' : Phi} {h h' : Heap} (a : StepX X φ h φ' h') : StepY X φ h φ' h' := ⟨a.ext, a.fresh, a.keep⟩
theorem StepX.transY {X : Addr → Prop} {φ φ' φ'' : Phi} {h h' h'' : Heap} (a : StepX X φ h φ' h') (b : StepY X φ' h' φ'' h'') : StepY X φ h φ'' h'' where
  ext := a.ext.trans b.ext
  fresh := fun x hx => by
    rcases b.fresh x hx with h1 | h1
    · exact a.fresh x h1
    · by_cases hn : InP φ x
      · exact .inl hn
      · refine .inr ?_
        cases q : h.get? x with
        | none => rfl
        | some o =>
          by_cases hX : X x
          · exact absurd h1 (a.alive x hX (by rw [q]; exact fun z => by cases z))
          · rw [a.keep x o q hn hX] at h1; cases h1
  keep := fun x o e hn hX => b.keep x o (a.keep x o e hn hX) (fun hx => by
    rcases a.fresh x hx with h1 | h1
    · exact hn h1
    · rw [e] at h1; cases h1) hX
theorem keepY {mt X : Addr → Prop} {φ : Phi} {h h' : Heap} (hX : ∀ b, mt b → X b) (k : ∀ b o, ¬ mt b → h.get? b = some o → h'.get? b = some o) : StepY X φ h φ h' :=
  ⟨.refl _, fun _ x => .inl x, fun b o e _ x => k b o (fun z => x (hX b z)) e⟩
structure IterOK (G : Gd) (it : It) (tg : PySem.Expr) (q : Addr) (mt : Addr → Prop) (J : Nat → Phi → Heap → Prop) (M : Nat → Value → Phi → Heap → Prop) : Prop where
  stable : ∀ (k : Nat) (φ φ' : Phi) (h h' : Heap) (X : Addr → Prop), StepX X φ h φ' h' → (∀ a us, X a → h.get? a ≠ some (tupO us)) → (∀ a, mt a → ¬ X a) → J k φ h → J k φ' h'
  off : ∀ (k : Nat) (φ : Phi) (h : Heap) (a : Addr), J k φ h → mt a → ¬ InP φ a ∧ (∃ o, h.get? a = some o) ∧ ∀ us, h.get? a ≠ some (tupO us)
  offM : ∀ (k : Nat) (x : Value) (φ : Phi) (h : Heap) (a : Addr), M k x φ h → mt a → ¬ InP φ a ∧ (∃ o, h.get? a = some o) ∧ ∀ us, h.get? a ≠ some (tupO us)
  twice : ∀ (A : Around) (s : Shared) (Q : Value → Shared → Prop) (E : Value → Shared → Prop) (k : Nat) (φ : Phi), J k φ s.heap → Q (.ref q) s → wpAny (model G.prog G.w) A (pyIter (.ref q)) Q E s
  next : ∀ (A : Around) (s : Shared) (Q : Option Value → Shared → Prop) (E : Value → Shared → Prop) (k : Nat) (φ : Phi) (σ : H) (r : Option V), Room 0 A → J k φ s.heap → HR G φ σ s.heap → it.nxt k σ = some r →
    (∀ (res : Option Value) (h' : Heap) (tk : Nat), (∀ b o, ¬ mt b → s.heap.get? b = some o → h'.get? b = some o) → (res ≠ none → ∀ b, mt b → s.heap.get? b ≠ none → h'.get? b ≠ none) →
      (match r, res with | none, none => True | some v, some x => VR G.fa φ h' v x ∧ M (k + 1) x φ h' | _, _ => False) → Q res { s with heap := h', toks := tk }) →
    wpAny (model G.prog G.w) A (pyNext (.ref q)) Q E s
  go : ∀ (A : Around) (s : Shared) (Q : Unit → Shared → Prop) (E : Value → Shared → Prop) (k : Nat) (φ : Phi) (x : Value), M k x φ s.heap →
    (∀ (h' : Heap), (∀ b o, ¬ mt b → s.heap.get? b = some o → h'.get? b = some o) → (∀ b, mt b → s.heap.get? b ≠ none → h'.get? b ≠ none) → J k φ h' → Q () { s with heap := h' }) →
    wpAny (model G.prog G.w) A (letOwnedTupleGo tg (.ref q) x) Q E s
noncomputable def IterOf (G : Gd) (tg : PySem.Expr) (it : It) (φ : Phi) (h₀ h : Heap) (x : Value) : Prop :=
  ∀ (A : Around) (s : Shared) (Q : Value → Shared → Prop) (E : Value → Shared → Prop), s.heap = h → Room 0 A →
    (∀ (q : Addr) (mt : Addr → Prop) (J : Nat → Phi → Heap → Prop) (M : Nat → Value → Phi → Heap → Prop) (h' : Heap) (tk : Nat), (∀ b o, h.get? b = some o → h'.get? b = some o) → IterOK G it tg q mt J M → J 0 φ h' → (∀ a, mt a → h₀.get? a = none) → Q (.ref q) { s with heap := h', toks := tk }) →
    wpAny (model G.prog G.w) A (pyIter x) Q E s
noncomputable def SimI (G : Gd) (cx : Scope) (n : Nat) (tg : PySem.Expr) (t : Env → Sem Value) (e : Ex It) : Prop :=
  ∀ (A : Around) (env : Env) (φ : Phi) (ρ : Rho) (σ : H) (s : Shared) (Q : Value → Shared → Prop) (E : Value → Shared → Prop) (b : It) (σ' : H),
    Room n A → EnvR G cx env φ ρ s.heap → HR G φ σ s.heap → e ρ σ = some (b, σ') →
    (∀ a φ' h' tk, Step φ s.heap φ' h' → HR G φ' σ' h' → IterOf G tg b φ' s.heap h' a → Q a { s with heap := h', toks := tk }) →
    wpAny (model G.prog G.w) A (t env) Q E s
theorem Step.transBack {X : Addr → Prop} {φ φ₁ φ₂ : Phi} {h h₁ h₄ h₅ : Heap} (st₁ : Step φ h φ₁ h₁) (k : ∀ b o, h₁.get? b = some o → h₄.get? b = some o) (hX : ∀ x, X x → h.get? x = none) (a : StepY X φ₁ h₄ φ₂ h₅) : Step φ h φ₂ h₅ where
  ext := st₁.ext.trans a.ext
  fresh := fun x hx => by
    rcases a.fresh x hx with z | z
    · exact st₁.fresh x z
    · by_cases hp : InP φ x
      · exact .inl hp
      · refine .inr ?_
        cases e : h.get? x with
        | none => rfl
        | some o => rw [k x o (st₁.keep x o e hp)] at z; cases z
  keep := fun b o e np => a.keep b o (k b o (st₁.keep b o e np)) (st₁.off e np) fun z => by rw [hX b z] at e; cases e
theorem Step.none {φ φ₁ : Phi} {σ : H} {h h₁ : Heap} (st : Step φ h φ₁ h₁) (hr : HR G φ₁ σ h₁) {a : Addr} (e : h₁.get? a = none) : h.get? a = none := by
  cases z : h.get? a with
  | none => rfl
  | some o =>
    by_cases hp : InP φ a
    · obtain ⟨o', ho⟩ := hr.liveP (hp.mono st.ext); rw [e] at ho; cases ho
    · rw [st.keep _ _ z hp] at e; cases e

theorem keepMut {mt : Addr → Prop} {φ : Phi} {h h' : Heap} (hp : ∀ a, mt a → ¬ InP φ a) (k : ∀ b o, ¬ mt b → h.get? b = some o → h'.get? b = some o) (al : ∀ b, mt b → h.get? b ≠ none → h'.get? b ≠ none) : StepX mt φ h φ h' :=
  ⟨.refl _, fun _ x => .inl x, fun b o e _ x => k b o x e, al⟩
theorem EnvR.stepMut {mt : Addr → Prop} {env : Env} {φ : Phi} {ρ : Rho} {h h' : Heap} (er : EnvR G cx env φ ρ h) (hm : ∀ a, Own env a → ¬ mt a) (ht : ∀ a us, mt a → h.get? a ≠ some (tupO us)) (k : ∀ b o, ¬ mt b → h.get? b = some o → h'.get? b = some o) : EnvR G cx env φ ρ h' where
  sc := er.sc
  kd := er.kd
  gl := er.gl
  bi := er.bi
  nb := er.nb
  nf := er.nf
  ns := by obtain ⟨m, hn⟩ := er.ns; exact ⟨m, hn.at' fun o e => k _ o (hm _ (.inl rfl)) e⟩
  cel := fun x c hc => by
    obtain ⟨⟨v, hv⟩, hne⟩ := er.cel x c hc
    exact ⟨⟨v, isCell_keep hv fun o e => k _ o (hm _ (.inr ⟨x, hc⟩)) e⟩, hne⟩
  cinj := er.cinj
  has := er.has
  vars := fun i x kk v h1 h2 => by
    have vm : ∀ {v x}, VR G.fa φ h v x → VR G.fa φ h' v x := fun r => r.mono (.refl _) fun a us e nn => ⟨k _ _ (fun z => ht a us z e) e, nn⟩
    rcases er.vars i x kk v h1 h2 with ⟨hk, m, a, hn, ha, r⟩ | ⟨hk, c, a, hc, hv, r⟩
    · exact .inl ⟨hk, m, a, hn.at' fun o e => k _ o (hm _ (.inl rfl)) e, ha, vm r⟩
    · exact .inr ⟨hk, c, a, hc, isCell_keep hv fun o e => k _ o (hm _ (.inr ⟨x, hc⟩)) e, vm r⟩

theorem codeAny_forLoopG {prog : Program} {w : World} {A : Around} {s : Shared} {E : Value → Shared → Prop} {R : Result → Shared → Prop} {target : PySem.Expr} {it : Value} {body orelse : List Stmt} {env : Env} (I : Nat → Shared → Prop)
    (turn : ∀ n s, I n s → wpAny (model prog w) A (pyNext it) (fun r s₁ => match r with
      | none => wpAny (model prog w) A (execs orelse env) (fun f s₃ => R (.ok f) s₃) (notedBy (model prog w) A env fun e s' => R (.error e) s') s₁
      | some v => wpAny (model prog w) A (letOwnedTupleGo target it v) (fun _ s₁ => wpAny (model prog w) A (assign target env v) (fun _ s₂ => wpAny (model prog w) A (execs body env) (fun f s₃ => match f with
          | .next | .cont => ∃ m, m < n ∧ I m s₃
          | .brk => R (.ok .next) s₃
          | .ret v => R (.ok (.ret v)) s₃) (notedBy (model prog w) A env fun e s' => R (.error e) s') s₂) (notedBy (model prog w) A env fun e s' => R (.error e) s') s₁) (notedBy (model prog w) A env fun e s' => R (.error e) s') s₁)
      (notedBy (model prog w) A env fun e s' => R (.error e) s') s)
    (n : Nat) (h : I n s) : codeAny (model prog w) A (.forLoop target it body orelse env) R s := by
  refine codeAny_loop' rfl I (fun n s hI => ?_) n h
  show wpAny _ _ ((forTurn target it body orelse env).onRaise (fun x => do noteFrame x env; theTreesLotGoes x)) _ _ s
  refine wpAny_noted ?_
  simp only [forTurn]
  refine wpAny_bind (wpAny_standAt (wpAny_bind (wpAny_onRaise (wpAny_mono (turn n s hI) (fun r s₁ h₁ => ?_) fun _ _ h' => wpAny_standAt h'))))
  cases r with
  | none => exact wpAny_pure (.inr ⟨rfl, codeAny_block h₁⟩)
  | some v =>
    refine wpAny_bind (wpAny_mono h₁ (fun _ s₁' h₁' => ?_) fun _ _ h' => h')
    refine wpAny_bind (wpAny_mono h₁' (fun _ s₂ h₂ => wpAny_bind (wpAny_mono h₂ (fun f s₃ h₃ => ?_) fun _ _ h' => h')) fun _ _ h' => h')
    cases f with
    | next => exact wpAny_pure (.inl ⟨rfl, h₃⟩)
    | cont => exact wpAny_pure (.inl ⟨rfl, h₃⟩)
    | brk => exact wpAny_pure h₃
    | ret v => exact wpAny_pure h₃

noncomputable def FI (G : Gd) (cx : Scope) (env : Env) (φ₀ : Phi) (h₁ : Heap) (s : Shared) (mt : Addr → Prop) (J : Nat → Phi → Heap → Prop) (it : It) (a : As) (y : St) (f : Fl) (ρ' : Rho) (σ' : H) (k : Nat) (s' : Shared) : Prop :=
  ∃ φ₂ ρ₂ σ₂ h₂ tk₂ j, s' = { s with heap := h₂, toks := tk₂ } ∧ StepX (fun a => Own env a ∨ mt a) φ₀ h₁ φ₂ h₂ ∧ EnvR G cx env φ₂ ρ₂ h₂ ∧ HR G φ₂ σ₂ h₂ ∧ J j φ₂ h₂ ∧ forL it a y k j ρ₂ σ₂ = some (f, ρ', σ')
theorem FI.mk {env : Env} {φ₀ φ₂ : Phi} {h₁ h₂ : Heap} {s s' : Shared} {mt : Addr → Prop} {J : Nat → Phi → Heap → Prop} {it : It} {a : As} {y : St} {f : Fl} {ρ' ρ₂ : Rho} {σ' σ₂ : H} {k tk₂ j : Nat}
    (e1 : s' = { s with heap := h₂, toks := tk₂ }) (e2 : StepX (fun a => Own env a ∨ mt a) φ₀ h₁ φ₂ h₂) (e3 : EnvR G cx env φ₂ ρ₂ h₂) (e4 : HR G φ₂ σ₂ h₂) (e5 : J j φ₂ h₂) (e6 : forL it a y k j ρ₂ σ₂ = some (f, ρ', σ')) :
    FI G cx env φ₀ h₁ s mt J it a y f ρ' σ' k s' := ⟨φ₂, ρ₂, σ₂, h₂, tk₂, j, e1, e2, e3, e4, e5, e6⟩
set_option tactic.hygienic true in
theorem wR {iter tg : PySem.Expr} {b : List Stmt} {pos : Pos} {i : Ex It} {a : As} {y : St} (h0 : SimI G cx n tg (eval iter) i) (ha : SimA G cx n (assign tg) a) (h1 : SimS G cx n (execs b) y) (hs : ∀ env x, foldedSetIterable iter env x = pure x) : SimS G cx n (exec (.For tg iter b [] pos)) (forS i a y) := by
  intro A env φ ρ σ s Q E f ρ' σ' rm er hr hm q
  unfold forS at hm
  split at hm
  · rename_i it σ₀ e0
    refine wpAny_For (h0 A env φ ρ σ s _ E it σ₀ rm er hr e0 fun x φ₀ h₀ tk₀ st₀ hr₀ r₀ => ?_) (hs env)
    refine r₀ A { s with heap := h₀, toks := tk₀ } _ E rfl (rm.mono (Nat.zero_le _)) fun q' mt J M h₁ tk₁ k₁ ok j₁ fr => ?_
    have er₀ := er.step st₀
    have er₁ : EnvR G cx env φ₀ ρ h₁ := er₀.step (.keeps k₁)
    have om : ∀ a, Own env a → ¬ mt a := fun a o m => er.live o (fr a m)
    have bm : ∀ a, mt a → G.B.get? a = none := fun a m => (hr.fresh (fr a m)).1
    refine codeAny_forLoopG (E := E) (FI G cx env φ₀ h₁ s mt J it a y f ρ' σ') (fun k s' hI => ?_) 100
      (.mk rfl (.refl ..) er₁ (hr₀.keeps k₁) j₁ hm)
    obtain ⟨φ₂, ρ₂, σ₂, h₂, tk₂, j, rfl, st₂, er₂, hr₂, j₂, hm₂⟩ := hI
    have fin : ∀ (fl : Flow) (φ₃ : Phi) (h₃ : Heap) (tk₃ : Nat), StepY (fun a => Own env a ∨ mt a) φ₂ h₂ φ₃ h₃ → EnvR G cx env φ₃ ρ' h₃ → HR G φ₃ σ' h₃ → FlR G.fa φ₃ h₃ f fl → Q fl { s with heap := h₃, toks := tk₃ } := fun fl φ₃ h₃ tk₃ st₃ er₃ hr₃ r₃ => by
      refine q fl φ₃ h₃ tk₃ ?_ er₃ hr₃ r₃
      have s1 := st₂.transY st₃
      refine ⟨st₀.ext.trans s1.ext, fun a ha => ?_, fun b o e nb no => ?_, fun b o ne => er₃.live o⟩
      · rcases s1.fresh a ha with z | z
        · exact st₀.fresh a z
        · by_cases hp : InP φ a
          · exact .inl hp
          · refine .inr ?_
            cases e : s.heap.get? a with
            | none => rfl
            | some o => rw [k₁ a o (st₀.keep a o e hp)] at z; cases z
      · have e1 := st₀.keep b o e nb
        refine s1.keep b o (k₁ b o e1) (st₀.off e nb) fun z => ?_
        rcases z with z | z
        · exact no z
        · rw [fr b z] at e; cases e
    cases k with
    | zero => cases hm₂
    | succ k =>
      rw [forL_c] at hm₂
      cases e1 : it.nxt j σ₂ with
      | none => rw [e1] at hm₂; cases hm₂
      | some r =>
        rw [e1] at hm₂
        have mo := fun a (m : mt a) => ok.off j φ₂ h₂ a j₂ m
        refine ok.next A { s with heap := h₂, toks := tk₂ } _ _ j φ₂ σ₂ r (rm.mono (Nat.zero_le _)) j₂ hr₂ e1 fun res h₃ tk₃ k₃ al₃ rr => ?_
        have er₃ := er₂.stepMut om (fun a us m => (mo a m).2.2 us) k₃
        have hr₃ : HR G φ₂ σ₂ h₃ := hr₂.keepsX bm (fun a m => (mo a m).1) (fun a us m => (mo a m).2.2 us) k₃
        cases r with
        | none =>
          cases res with
          | some _ => exact rr.elim
          | none =>
            cases hm₂
            exact wpAny_execs_nil (fin _ φ₂ h₃ tk₃ (keepY (fun _ => .inr) k₃) er₃ hr₃ .next)
        | some v =>
          cases res with
          | none => exact rr.elim
          | some x =>
            obtain ⟨rv, j₃⟩ := rr
            have st₃ : StepX mt φ₂ h₂ φ₂ h₃ := keepMut (fun a m => (mo a m).1) k₃ (al₃ fun z => by cases z)
            have st₃' : StepX (fun a => Own env a ∨ mt a) φ₂ h₂ φ₂ h₃ := st₃.mono (fun _ => .inr) (fun b z => z.elim (er₂.nf b) fun m => (mo b m).1)
            have mo₃ := fun a (m : mt a) => ok.offM _ _ φ₂ h₃ a j₃ m
            refine ok.go A { s with heap := h₃, toks := tk₃ } _ _ (j + 1) φ₂ x j₃ fun h₄ k₄ al₄ j₄ => ?_
            have st₄ : StepX mt φ₂ h₃ φ₂ h₄ := keepMut (fun a m => (mo a m).1) k₄ al₄
            have er₄ := er₃.stepMut om (fun a us m => (mo₃ a m).2.2 us) k₄
            have hr₄ : HR G φ₂ σ₂ h₄ := hr₃.keepsX bm (fun a m => (mo a m).1) (fun a us m => (mo₃ a m).2.2 us) k₄
            have st₄' : StepX (fun a => Own env a ∨ mt a) φ₂ h₃ φ₂ h₄ := st₄.mono (fun _ => .inr) (fun b z => z.elim (er₃.nf b) fun m => (mo b m).1)
            have rv₄ : VR G.fa φ₂ h₄ v x := rv.mono (.refl _) fun a us e nn => ⟨k₄ _ _ (fun z => (mo₃ a z).2.2 us e) e, nn⟩
            dsimp only at hm₂
            split at hm₂
            · cases hm₂
            · rename_i ρ₅ σ₅ e5
              refine ha A env φ₂ ρ₂ σ₂ { s with heap := h₄, toks := tk₃ } _ _ v x ρ₅ σ₅ rm er₄ hr₄ rv₄ e5 fun φ₅ h₅ tk₅ st₅ er₅ hr₅ => ?_
              have j₅ := ok.stable _ _ _ _ _ _ st₅ (fun a us o => er₄.noTup o us) (fun a m o => om a o m) j₄
              have mo₄ := fun a (m : mt a) => ok.off _ φ₂ h₄ a j₄ m
              have st₅' : StepX (fun a => Own env a ∨ mt a) φ₂ h₄ φ₅ h₅ := st₅.mono (fun _ => .inl) (fun b z => z.elim (er₄.nf b) fun m => (mo₄ b m).1)
              have s25 := (st₃'.trans st₄').trans st₅'
              have mo₅ := fun a (m : mt a) => ok.off _ φ₅ h₅ a j₅ m
              cases e6 : y ρ₅ σ₅ with
              | none => rw [e6] at hm₂; cases hm₂
              | some p =>
                obtain ⟨f₆, ρ₆, σ₆⟩ := p
                rw [e6] at hm₂
                refine h1 A env φ₅ ρ₅ σ₅ { s with heap := h₅, toks := tk₅ } _ _ f₆ ρ₆ σ₆ rm er₅ hr₅ e6 fun fl φ₆ h₆ tk₆ st₆ er₆ hr₆ r₆ => ?_
                have j₆ := ok.stable _ _ _ _ _ _ st₆ (fun a us o => er₅.noTup o us) (fun a m o => om a o m) j₅
                have st₆' : StepX (fun a => Own env a ∨ mt a) φ₅ h₅ φ₆ h₆ := st₆.mono (fun _ => .inl) (fun b z => z.elim (er₅.nf b) fun m => (mo₅ b m).1)
                have s26 := s25.trans st₆'
                cases r₆ with
                | next => exact ⟨k, Nat.lt_succ_self _, .mk rfl (st₂.trans s26) er₆ hr₆ j₆ hm₂⟩
                | cont => exact ⟨k, Nat.lt_succ_self _, .mk rfl (st₂.trans s26) er₆ hr₆ j₆ hm₂⟩
                | brk => cases hm₂; exact fin _ φ₆ h₆ tk₆ s26.y er₆ hr₆ .next
                | ret r => cases hm₂; exact fin _ φ₆ h₆ tk₆ s26.y er₆ hr₆ (.ret r)
  · cases hm
end
end Mine


section
open PySem PySem.W PySem.Calls PyProof.Rows PySem.Spec
namespace Mine
section
variable {G : Gd} {cx : Scope} {n : Nat}
theorem list_not_tup {vs us : List Value} {m : Nat} : some (listO vs m) ≠ some (tupO us) := fun z => by
  have h := congrArg Obj.cls (Option.some.inj z)
  simp at h
noncomputable def testsT (ifs : List PySem.Expr) (env : Env) : Sem Bool := forIn ifs true fun c r => if r = true then do let ok ← isTrue c env (eval c env); pure (ForInStep.yield ok) else pure (ForInStep.yield r)
theorem simts_nil : yE G cx n (testsT []) (allT []) TR := by
  intro A env φ ρ σ s Q E b σ' rm er hr hm q
  cases hm
  exact wpAny_pure (q _ φ s.heap s.toks (.refl ..) hr rfl)
theorem simts_one {c : PySem.Expr} {t : Ex Bool} (h : SimT G cx n c t) : yE G cx n (testsT [c]) (allT [t]) TR := by
  intro A env φ ρ σ s Q E b σ' rm er hr hm q
  refine wpAny_tests_one (yO (h _ rfl) rm er hr hm fun a b₁ φ' σ₁ h' tk st er' hr' r hm' => ?_)
  subst r
  cases a <;> (cases hm'; exact q _ φ' h' tk st hr' rfl)
noncomputable def SimAL (G : Gd) (cx : Scope) (n : Nat) (t : Env → Value → Sem Unit) (e : As) : Prop :=
  ∀ (A : Around) (env : Env) (φ : Phi) (ρ : Rho) (σ : H) (s : Shared) (Q : Unit → Shared → Prop) (E : Value → Shared → Prop) (v : V) (x : Value) (ρ' : Rho) (σ' : H),
    Room n A → EnvR G cx env φ ρ s.heap → HR G φ σ s.heap → VR G.fa φ s.heap v x → e v ρ σ = some (ρ', σ') →
    (∀ φ' h' tk, StepX (fun a => a = env.locals) φ s.heap φ' h' → EnvR G cx env φ' ρ' h' → HR G φ' σ' h' → Q () { s with heap := h', toks := tk }) →
    wpAny (model G.prog G.w) A (t env x) Q E s
theorem store_local {x : Str} {i : Nat} (hx : xU cx.names x = some (i, .local)) {A : Around} {env : Env} {φ : Phi} {ρ : Rho} {σ' : H} {s : Shared} {Q : Unit → Shared → Prop} {E : Value → Shared → Prop} {v : V} {a : Value}
    (er : EnvR G cx env φ ρ s.heap) (hr : HR G φ σ' s.heap) (rv : VR G.fa φ s.heap v a) (q : ∀ φ' h' tk, StepX (fun a => a = env.locals) φ s.heap φ' h' → EnvR G cx env φ' (ρ.set i (some v)) h' → HR G φ' σ' h' → Q () { s with heap := h', toks := tk }) :
    wpAny (model G.prog G.w) A (storeName env x a) Q E s := by
  have hki := er.kind hx
  obtain ⟨m, hns⟩ := er.ns
  refine wpAny_storeName_local hki hns (fun h' hn hs => ?_) (by rw [er.sc, er.kd]; rfl)
  obtain ⟨hr', st, kv⟩ := er.kept hr (.inl rfl) hs (by obtain ⟨o, _, _, ho, _⟩ := hn; rw [ho]; exact fun z => by cases z)
  refine q φ h' _ ⟨.refl _, fun _ x => .inl x, fun b o e _ n => (hs.2 b n).trans e, fun b e _ => by subst e; obtain ⟨o, _, _, ho, _⟩ := hn; rw [ho]; exact fun z => by cases z⟩ ⟨er.sc, er.kd, er.gl, er.bi, er.nb, er.nf, ⟨_, hn⟩, fun y c hc => ?_, er.cinj, er.has, fun j y k w h1 h2 => ?_⟩ hr'
  · obtain ⟨⟨v, hv⟩, hne⟩ := er.cel y c hc
    exact ⟨⟨v, hv.sameBut hs hne⟩, hne⟩
  · rcases set_get h2 with ⟨rfl, rfl⟩ | ⟨hne, h2⟩
    · have e := slot_inj hx h1
      subst e
      exact .inl ⟨hki, _, a, hn, if_pos rfl, kv _ _ rv⟩
    · have hxy : y ≠ x := fun e => by subst e; rw [hx] at h1; cases h1; exact hne rfl
      rcases er.vars j y k w h1 h2 with ⟨hk, m', b, hm', e, r⟩ | ⟨hk, c, b, hc, hv, r⟩
      · have := Ns.one hns hm'; subst this
        exact .inl ⟨hk, _, b, hn, by show (if y = x then _ else _) = _; rw [if_neg hxy]; exact e, kv _ _ r⟩
      · exact .inr ⟨hk, c, b, hc, hv.sameBut hs (er.cel y c hc).2, kv _ _ r⟩
theorem xW {x : Str} {pos : Pos} {i : Nat} (hx : xU cx.names x = some (i, .local)) : SimAL G cx n (assign (.Name x pos)) (zG i) := by
  intro A env φ ρ σ s Q E v a ρ' σ' rm er hr rv hm q
  cases hm
  exact assign_Name (store_local hx er hr rv q)
set_option tactic.hygienic true in
theorem simal_two {x y : Str} {p p' pos : Pos} {i j k : Nat} (hx : xU cx.names x = some (i, .local)) (hy : xU cx.names y = some (j, .local)) : SimAL G cx n (assign (.Tuple [.Name x p, .Name y p'] k pos)) (jB [zG i, zG j]) := by
  intro A env φ ρ σ s Q E v a ρ' σ' rm er hr rv hm q
  unfold jB at hm
  split at hm
  · rename_i vs
    cases rv with
    | tup _ us a ha hn r =>
    cases r with
    | nil => cases hm
    | cons r1 r =>
    rename_i v1 a1 vs as
    cases r with
    | nil => cases hm
    | cons r2 r =>
    rename_i v2 a2 vs as
    cases r with
    | cons _ _ => cases hm
    | nil =>
    cases hm
    show wpAny _ _ (do standAt pos; unpack (.ref a) (assignEach [.Name x p, .Name y p'] env)) _ _ _
    refine wpAny_bind (wpAny_standAt (unpack_tuple rm.hd (items := #[a1, a2]) ⟨_, ha, rfl, 0, rfl⟩ rfl rfl fun h₁ he => ?_))
    have kk : ∀ b o, s.heap.get? b = some o → h₁.get? b = some o := fun b o e => he b o (Nat.ne_of_lt (Heap.lt_size e)) e
    have st₁ : Step φ s.heap φ h₁ := .keeps kk
    have er₁ := er.step st₁
    refine wpAny_bind (wpAny_holding ?_)
    show wpAny _ _ (assign (.Name x p) env a1) _ _ _
    refine assign_Name (store_local (σ' := σ) (s := { s with heap := h₁ }) hx er₁ (hr.keeps kk) (r1.step st₁) fun φ₂ h₂ tk₂ st₂ er₂ hr₂ => ?_)
    refine wpAny_bind (wpAny_holding ?_)
    show wpAny _ _ (assign (.Name y p') env a2) _ _ _
    refine assign_Name (store_local (σ' := σ) (s := { s with heap := h₂, toks := tk₂ }) hy er₂ hr₂ ((r2.step st₁).stepX st₂ fun b us e => er₁.noTup (.inl e) us) fun φ₃ h₃ tk₃ st₃ er₃ hr₃ => wpAny_pure ?_)
    exact q φ₃ h₃ tk₃ (((st₁.toX fun b e => er.nf b (.inl e)).trans st₂).trans st₃) er₃ hr₃
  · cases hm

theorem codeAny_compLoopG {prog : Program} {w : World} {A : Around} {R : Result → Shared → Prop} {s : Shared} {elt target iter : PySem.Expr} {ifs : List PySem.Expr} {scope : Scope} {pos : Pos} {it acc : Value} {env : Env} (I : Nat → Shared → Prop)
    (turn : ∀ n s, I n s → wpAny (model prog w) A (pyNext it) (fun r s₁ => match r with
      | none => R (.ok .next) s₁
      | some v => wpAny (model prog w) A (letOwnedTupleGo target it v) (fun _ s₁ => wpAny (model prog w) A (assign target env v) (fun _ s₂ =>
          wpAny (model prog w) A (testsT ifs env) (fun ok s₃ =>
            if ok = true then wpAny (model prog w) A (eval elt env) (fun x s₄ =>
              wpAny (model prog w) A (call (.builtin "list.append") [acc, x]) (fun _ s₅ => ∃ m, m < n ∧ I m s₅) (notedBy (model prog w) A env fun e s' => R (.error e) s') s₄) (notedBy (model prog w) A env fun e s' => R (.error e) s') s₃
            else ∃ m, m < n ∧ I m s₃) (notedBy (model prog w) A env fun e s' => R (.error e) s') s₂) (notedBy (model prog w) A env fun e s' => R (.error e) s') s₁) (notedBy (model prog w) A env fun e s' => R (.error e) s') s₁) (notedBy (model prog w) A env fun e s' => R (.error e) s') s)
    (n : Nat) (h : I n s) :
    codeAny (model prog w) A (.compLoop (.ListComp elt [⟨target, iter, ifs, 0⟩] scope pos) 0 it acc env) R s := by
  refine codeAny_loop rfl I (fun n s hI => ?_) n h
  show wpAny _ A ((compTurn (.ListComp elt [⟨target, iter, ifs, 0⟩] scope pos) 0 it acc env).onRaise (fun x => do noteFrame x env; theTreesLotGoes x)) _ _ s
  refine wpAny_noted ?_
  rw [compTurn_list]
  refine wpAny_bind (wpAny_standAt (wpAny_bind (wpAny_mono (turn n s hI) (fun r s₁ h₁ => ?_) fun _ _ h' => h')))
  cases r with
  | none => exact wpAny_pure h₁
  | some v =>
    refine wpAny_bind (wpAny_mono h₁ (fun _ s₁' h₁' => ?_) fun _ _ h' => h')
    refine wpAny_bind (wpAny_mono h₁' (fun _ s₂ h₂ => wpAny_bind (wpAny_mono h₂ (fun ok s₃ h₃ => ?_) fun _ _ h' => h')) fun _ _ h' => h')
    cases ok with
    | false => exact wpAny_pure ⟨rfl, h₃⟩
    | true =>
      exact wpAny_bind (wpAny_bind (wpAny_mono h₃ (fun x s₄ h₄ => wpAny_bind (wpAny_mono h₄ (fun _ s₅ h₅ => wpAny_pure (wpAny_pure ⟨rfl, h₅⟩)) fun _ _ h' => h')) fun _ _ h' => h'))

noncomputable def CI (G : Gd) (cx : Scope) (env : Env) (φ : Phi) (s : Shared) (D : Addr) (mt : Addr → Prop) (J : Nat → Phi → Heap → Prop) (i : It) (a : As) (ts : List (Ex Bool)) (e : Ex V) (ys : List V) (σ' : H) (k : Nat) (s' : Shared) : Prop :=
  ∃ φ₂ ρ₂ σ₂ h₂ tk₂ j xs vs m, s' = { s with heap := h₂, toks := tk₂ } ∧ StepX (fun b => b = env.locals ∨ b = D ∨ mt b) φ s.heap φ₂ h₂ ∧ EnvR G cx env φ₂ ρ₂ h₂ ∧ HR G φ₂ σ₂ h₂ ∧ J j φ₂ h₂ ∧ h₂.get? D = some (listO vs m) ∧ VRs G.fa φ₂ h₂ xs vs ∧ ¬ InP φ₂ D ∧ xs.length + k ≤ 100 ∧ compL i a ts e k j ρ₂ σ₂ xs = some (ys, σ')
theorem CI.mk {env : Env} {φ φ₂ : Phi} {s s' : Shared} {D : Addr} {mt : Addr → Prop} {J : Nat → Phi → Heap → Prop} {i : It} {a : As} {ts : List (Ex Bool)} {e : Ex V} {xs ys : List V} {σ₂ σ' : H} {k tk₂ j m : Nat} {ρ₂ : Rho} {h₂ : Heap} {vs : List Value}
    (h1 : s' = { s with heap := h₂, toks := tk₂ }) (h2 : StepX (fun b => b = env.locals ∨ b = D ∨ mt b) φ s.heap φ₂ h₂) (h3 : EnvR G cx env φ₂ ρ₂ h₂) (h4 : HR G φ₂ σ₂ h₂) (h5 : J j φ₂ h₂) (h6 : h₂.get? D = some (listO vs m)) (h7 : VRs G.fa φ₂ h₂ xs vs) (h8 : ¬ InP φ₂ D) (h9 : xs.length + k ≤ 100) (h10 : compL i a ts e k j ρ₂ σ₂ xs = some (ys, σ')) :
    CI G cx env φ s D mt J i a ts e ys σ' k s' := ⟨φ₂, ρ₂, σ₂, h₂, tk₂, j, xs, vs, m, h1, h2, h3, h4, h5, h6, h7, h8, h9, h10⟩
set_option tactic.hygienic true in
theorem comp_loop {elt iter target : PySem.Expr} {ifs : List PySem.Expr} {scope : Scope} {pos : Pos} {i : It} {a : As} {ts : List (Ex Bool)} {e : Ex V} (ha : SimAL G cx n (assign target) a) (ht : yE G cx n (testsT ifs) (allT ts) TR) (he : yE G cx n (eval elt) e (VRG G))
    {A : Around} {env : Env} {φ : Phi} {ρ : Rho} {σ σ' : H} {s : Shared} {q D : Addr} {mt : Addr → Prop} {J : Nat → Phi → Heap → Prop} {M : Nat → Value → Phi → Heap → Prop} {xs ys : List V} {vs : List Value} {m : Nat} {R : Result → Shared → Prop}
    (rm : Room n A) (er : EnvR G cx env φ ρ s.heap) (hr : HR G φ σ s.heap) (ok : IterOK G i target q mt J M) {j k : Nat} (hj : J j φ s.heap) (hD : s.heap.get? D = some (listO vs m)) (hx : VRs G.fa φ s.heap xs vs) (Dn : ¬ InP φ D) (Db : G.B.get? D = none)
    (Dc : ∀ b, Own env b → b ≠ D) (Dm : ¬ mt D) (om : ∀ b, Own env b → ¬ mt b) (bm : ∀ b, mt b → G.B.get? b = none) (lk : xs.length + k ≤ 100) (hm : compL i a ts e k j ρ σ xs = some (ys, σ'))
    (hR : ∀ φ' h' tk vs' m' ρ', StepY (fun b => b = env.locals ∨ b = D ∨ mt b) φ s.heap φ' h' → EnvR G cx env φ' ρ' h' → HR G φ' σ' h' → h'.get? D = some (listO vs' m') → VRs G.fa φ' h' ys vs' → ¬ InP φ' D → R (.ok .next) { s with heap := h', toks := tk }) :
    codeAny (model G.prog G.w) A (.compLoop (.ListComp elt [⟨target, iter, ifs, 0⟩] scope pos) 0 (.ref q) (.ref D) env) R s := by
  refine codeAny_compLoopG (CI G cx env φ s D mt J i a ts e ys σ') (fun k s' hI => ?_) k
    (.mk rfl (.refl ..) er hr hj hD hx Dn lk hm)
  obtain ⟨φ₂, ρ₂, σ₂, h₂, tk₂, j, xs, vs, m, rfl, st₂, er₂, hr₂, j₂, hD₂, hx₂, Dn₂, lk₂, hm₂⟩ := hI
  cases k with
  | zero => cases hm₂
  | succ k =>
    rw [compL_c] at hm₂
    cases e1 : i.nxt j σ₂ with
    | none => rw [e1] at hm₂; cases hm₂
    | some r =>
      rw [e1] at hm₂
      have mo := fun b (z : mt b) => ok.off j φ₂ h₂ b j₂ z
      refine ok.next A { s with heap := h₂, toks := tk₂ } _ _ j φ₂ σ₂ r (rm.mono (Nat.zero_le _)) j₂ hr₂ e1 fun res h₃ tk₃ k₃ al₃ rr => ?_
      have er₃ := er₂.stepMut om (fun b us z => (mo b z).2.2 us) k₃
      have hr₃ : HR G φ₂ σ₂ h₃ := hr₂.keepsX bm (fun b z => (mo b z).1) (fun b us z => (mo b z).2.2 us) k₃
      have xf : ∀ {φ₀ : Phi} {ρ₀ : Rho} {h₀ : Heap} (er₀ : EnvR G cx env φ₀ ρ₀ h₀) (dn : ¬ InP φ₀ D) (m0 : ∀ b, mt b → ¬ InP φ₀ b) (b : Addr), (b = env.locals ∨ b = D ∨ mt b) → ¬ InP φ₀ b := fun er₀ dn m0 b z => by
        rcases z with rfl | rfl | z
        · exact er₀.nf _ (.inl rfl)
        · exact dn
        · exact m0 b z
      have hD₃ := k₃ D _ Dm hD₂
      have hx₃ : VRs G.fa φ₂ h₃ xs vs := hx₂.mono (.refl _) fun b us e nn => ⟨k₃ _ _ (fun z => (mo b z).2.2 us e) e, nn⟩
      cases r with
      | none =>
        cases res with
        | some _ => exact rr.elim
        | none =>
          cases hm₂
          exact hR φ₂ h₃ tk₃ vs m ρ₂ (st₂.transY (keepY (fun _ z => .inr (.inr z)) k₃)) er₃ hr₃ hD₃ hx₃ Dn₂
      | some v =>
        cases res with
        | none => exact rr.elim
        | some x =>
          obtain ⟨rv, j₃⟩ := rr
          have st₃ : StepX mt φ₂ h₂ φ₂ h₃ := keepMut (fun b z => (mo b z).1) k₃ (al₃ fun z => by cases z)
          have st₃' := st₃.mono (Y := fun b => b = env.locals ∨ b = D ∨ mt b) (fun _ z => .inr (.inr z)) (xf er₂ Dn₂ fun b z => (mo b z).1)
          have mo₃ := fun b (z : mt b) => ok.offM _ _ φ₂ h₃ b j₃ z
          refine ok.go A { s with heap := h₃, toks := tk₃ } _ _ (j + 1) φ₂ x j₃ fun h₄ k₄ al₄ j₄ => ?_
          have st₄ : StepX mt φ₂ h₃ φ₂ h₄ := keepMut (fun b z => (mo b z).1) k₄ al₄
          have er₄ := er₃.stepMut om (fun b us z => (mo₃ b z).2.2 us) k₄
          have hr₄ : HR G φ₂ σ₂ h₄ := hr₃.keepsX bm (fun b z => (mo b z).1) (fun b us z => (mo₃ b z).2.2 us) k₄
          have st₄' := st₄.mono (Y := fun b => b = env.locals ∨ b = D ∨ mt b) (fun _ z => .inr (.inr z)) (xf er₃ Dn₂ fun b z => (mo b z).1)
          have hD₄ := k₄ D _ Dm hD₃
          have hx₄ : VRs G.fa φ₂ h₄ xs vs := hx₃.stepX st₄ fun b us z => (mo₃ b z).2.2 us
          have rv₄ : VR G.fa φ₂ h₄ v x := rv.stepX st₄ fun b us z => (mo₃ b z).2.2 us
          have mo₄ := fun b (z : mt b) => ok.off _ φ₂ h₄ b j₄ z
          dsimp only at hm₂
          split at hm₂
          · cases hm₂
          · rename_i ρ₅ σ₅ e5
            refine ha A env φ₂ ρ₂ σ₂ { s with heap := h₄, toks := tk₃ } _ _ v x ρ₅ σ₅ rm er₄ hr₄ rv₄ e5 fun φ₅ h₅ tk₅ st₅ er₅ hr₅ => ?_
            have j₅ := ok.stable _ _ _ _ _ _ st₅ (fun b us o => er₄.noTup (.inl o) us) (fun b z o => om b (.inl o) z) j₄
            have mo₅ := fun b (z : mt b) => ok.off _ φ₅ h₅ b j₅ z
            have st₅' := st₅.mono (Y := fun b => b = env.locals ∨ b = D ∨ mt b) (fun _ z => .inl z) (xf er₄ Dn₂ fun b z => (mo b z).1)
            have Dn₅ := st₅.off hD₄ Dn₂
            have hD₅ := st₅.keep D _ hD₄ Dn₂ fun z => Dc _ (.inl rfl) z.symm
            have hx₅ : VRs G.fa φ₅ h₅ xs vs := hx₄.stepX st₅ fun b us o => er₄.noTup (.inl o) us
            split at hm₂
            · cases hm₂
            · rename_i σ₆ e6
              refine ht A env φ₅ ρ₅ σ₅ { s with heap := h₅, toks := tk₅ } _ _ false σ₆ rm er₅ hr₅ e6 fun b φ₆ h₆ tk₆ st₆ hr₆ r₆ => ?_
              subst r₆
              rw [if_neg (by decide)]
              have j₆ := ok.stable _ _ _ _ _ _ (st₆.toX (X := fun _ => False) (fun _ z => z.elim)) (fun _ _ z => z.elim) (fun _ _ z => z) j₅
              have st₆' := st₆.toX (X := fun b => b = env.locals ∨ b = D ∨ mt b) (xf er₅ Dn₅ fun b z => (mo₅ b z).1)
              exact ⟨k, Nat.lt_succ_self _, .mk rfl ((((st₂.trans st₃').trans st₄').trans st₅').trans st₆') (er₅.step st₆) hr₆ j₆ (st₆.keep _ _ hD₅ Dn₅) (hx₅.step st₆) (st₆.off hD₅ Dn₅) (by exact Nat.le_of_lt ‹_›) hm₂⟩
            · rename_i σ₆ e6
              split at hm₂
              · cases hm₂
              · rename_i w σ₇ e7
                refine ht A env φ₅ ρ₅ σ₅ { s with heap := h₅, toks := tk₅ } _ _ true σ₆ rm er₅ hr₅ e6 fun b φ₆ h₆ tk₆ st₆ hr₆ r₆ => ?_
                subst r₆
                rw [if_pos rfl]
                have er₆ := er₅.step st₆
                refine he A env φ₆ ρ₅ σ₆ { s with heap := h₆, toks := tk₆ } _ _ w σ₇ rm er₆ hr₆ e7 fun y φ₇ h₇ tk₇ st₇ hr₇ r₇ => ?_
                have st67 := st₆.trans st₇
                have er₇ := er₆.step st₇
                have j₇ := ok.stable _ _ _ _ _ _ (st67.toX (X := fun _ => False) (fun _ z => z.elim)) (fun _ _ z => z.elim) (fun _ _ z => z) j₅
                have mo₇ := fun b (z : mt b) => ok.off _ φ₇ h₇ b j₇ z
                have st67' := st67.toX (X := fun b => b = env.locals ∨ b = D ∨ mt b) (xf er₅ Dn₅ fun b z => (mo₅ b z).1)
                have hD₇ := st67.keep _ _ hD₅ Dn₅
                have Dn₇ := st67.off hD₅ Dn₅
                have hx₇ := hx₅.step st67
                refine append_at (s := { s with heap := h₇, toks := tk₇ }) hD₇ (fun h₈ sb hD₈ => ?_) (wO (by show vs.toArray.size ≤ _; rw [List.size_toArray, ← hx₇.length]; omega))
                have k₈ : ∀ b o, ¬ b = D → h₇.get? b = some o → h₈.get? b = some o := fun b o ne e => (sb.2 b ne).trans e
                have al₈ : ∀ b, b = D → h₇.get? b ≠ none → h₈.get? b ≠ none := fun b e _ => by subst e; rw [hD₈]; exact fun z => by cases z
                have nt₈ : ∀ b us, b = D → h₇.get? b ≠ some (tupO us) := fun b us e => by subst e; rw [hD₇]; exact list_not_tup
                have st₈ : StepX (fun b => b = D) φ₇ h₇ φ₇ h₈ := keepMut (fun b e => by subst e; exact Dn₇) k₈ al₈
                have j₈ := ok.stable _ _ _ _ _ _ st₈ nt₈ (fun b z e => Dm (e ▸ z)) j₇
                have st₈' := st₈.mono (Y := fun b => b = env.locals ∨ b = D ∨ mt b) (fun _ z => .inr (.inl z)) (xf er₇ Dn₇ fun b z => (mo₇ b z).1)
                refine ⟨k, Nat.lt_succ_self _, .mk (vs := vs ++ [y]) (m := m + 1) (xs := xs ++ [w]) rfl (((((st₂.trans st₃').trans st₄').trans st₅').trans st67').trans st₈') (er₇.stepMut (fun b o e => Dc b o e) nt₈ k₈) (hr₇.keepsX (fun b e => by subst e; exact Db) (fun b e => by subst e; exact Dn₇) nt₈ k₈) j₈ ?_ (VRs.append (.cons (r₇.stepX st₈ nt₈) .nil) (hx₇.stepX st₈ nt₈)) Dn₇ ?_ hm₂⟩
                · rw [hD₈]; simp
                · rw [List.length_append]; show xs.length + 1 + k ≤ 100; omega
end
end Mine


section
open PySem PySem.W PySem.Calls PyProof.Rows PySem.Spec
namespace Mine
section
variable {G : Gd} {cx : Scope} {n : Nat}
noncomputable def cin (cx scope : Scope) : Scope := { scope with names := scope.names.map fun (n, k) => if (k == .free && cx.kind == .function && cx.names.lookup n == some .cell) then (n, .cell) else (n, k) }
noncomputable def fvB (cx : Scope) : List (Str × NameKind) → List (Option Nat) → Bool
  | [], [] => true
  | _ :: r, none :: f => fvB cx r f
  | (x, k) :: r, some j :: f => k == .free && (match xU cx.names x with | some (j', k') => j' == j && (k' == .cell || k' == .free) | none => false) && fvB cx r f
  | _, _ => false
noncomputable def frB (cx : Scope) (l : List (Str × NameKind)) : Bool := l.all fun (x, k) => !(k == .free) || (cx.names.lookup x == some .cell || cx.names.lookup x == some .free)
noncomputable def compB (cx scope : Scope) (fv : List (Option Nat)) : Bool :=
  scope.kind == .function && fvB cx scope.names fv && frB cx scope.names && (scope.names.all fun (x, k) => !(k == .cell)) && (scope.names.all fun (x, k) => !(k == .local) || scope.names.lookup x == some .local)

theorem closure_go {env : Env} : ∀ (l : List (Str × NameKind)) (acc : List (Str × Addr)), (∀ x, (x, NameKind.free) ∈ l → ∃ c, env.cells.lookup x = some c) →
    ∃ cl, (forIn l acc fun (p : Str × NameKind) cs => if p.2 == .free then do let c ← cellOf env p.1; pure (ForInStep.yield ((p.1, c) :: cs)) else pure (ForInStep.yield cs) : Sem (List (Str × Addr))) = pure cl ∧
      (∀ x c, cl.lookup x = some c → acc.lookup x = some c ∨ env.cells.lookup x = some c) ∧ (∀ x, (x, NameKind.free) ∈ l → ∃ c, cl.lookup x = some c) ∧ (∀ x c, acc.lookup x = some c → ∃ c, cl.lookup x = some c)
  | [], acc, _ => ⟨acc, by rw [List.forIn_nil], fun _ _ e => .inl e, fun _ m => (nomatch m), fun _ c e => ⟨c, e⟩⟩
  | (y, k) :: r, acc, h => by
    by_cases hk : k = .free
    · subst hk
      obtain ⟨c, hc⟩ := h y List.mem_cons_self
      obtain ⟨cl, e, p1, p2, p3⟩ := closure_go r ((y, c) :: acc) fun x m => h x (List.mem_cons_of_mem _ m)
      refine ⟨cl, ?_, fun x d hd => ?_, fun x m => ?_, fun x d hd => ?_⟩
      · rw [List.forIn_cons, ← e]
        have : cellOf env y = pure c := by unfold cellOf; rw [hc]
        simp only [beq_self_eq_true, if_true, this, pure_bind]
      · rcases p1 x d hd with q | q
        · rw [List.lookup_cons] at q
          split at q
          · rename_i hb; cases q; rw [beq_iff_eq.mp hb]; exact .inr hc
          · exact .inl q
        · exact .inr q
      · rcases List.mem_cons.mp m with q | q
        · cases q; exact p3 _ c (by rw [List.lookup_cons, beq_self_eq_true])
        · exact p2 x q
      · by_cases hxy : x = y
        · subst hxy; exact p3 x c (by rw [List.lookup_cons, beq_self_eq_true])
        · exact p3 x d (by rw [List.lookup_cons, beq_false_of_ne hxy]; exact hd)
    · obtain ⟨cl, e, p1, p2, p3⟩ := closure_go r acc fun x m => h x (List.mem_cons_of_mem _ m)
      refine ⟨cl, ?_, p1, fun x m => ?_, p3⟩
      · rw [List.forIn_cons, ← e]
        simp only [beq_false_of_ne hk, Bool.false_eq_true, if_false, pure_bind]
      · rcases List.mem_cons.mp m with q | q
        · cases q; exact absurd rfl hk
        · exact p2 x q
theorem closure_of {env : Env} {scope : Scope} (h : ∀ x, (x, NameKind.free) ∈ scope.names → ∃ c, env.cells.lookup x = some c) :
    ∃ cl, closureFor scope env = pure cl ∧ (∀ x c, cl.lookup x = some c → env.cells.lookup x = some c) ∧ (∀ x, (x, NameKind.free) ∈ scope.names → ∃ c, cl.lookup x = some c) := by
  obtain ⟨cl, e, p1, p2, _⟩ := closure_go scope.names [] h
  refine ⟨cl, ?_, fun x c hc => (p1 x c hc).resolve_left fun z => (nomatch z), p2⟩
  unfold closureFor
  have e' : (forIn scope.names ([] : List (Str × Addr)) fun (p : Str × NameKind) cs => if (p.2 == NameKind.free) = true then do let c ← cellOf env p.1; pure (ForInStep.yield ((p.1, c) :: cs)) else pure (ForInStep.yield cs) : Sem (List (Str × Addr))) >>= (fun cs => pure cs) = pure cl := by rw [e, pure_bind]
  refine Eq.trans ?_ e'
  congr 1

set_option tactic.hygienic true in
theorem fvB_get {cx : Scope} : ∀ {l : List (Str × NameKind)} {fv : List (Option Nat)}, fvB cx l fv = true → ∀ {i j : Nat} {x : Str} {k : NameKind}, xU l x = some (i, k) → fv[i]? = some (some j) → k = .free ∧ ∃ k', xU cx.names x = some (j, k') ∧ (k' = .cell ∨ k' = .free)
  | [], [], _, _, _, _, _, h, _ => by cases h
  | (y, k') :: r, none :: f, hb, i, j, x, k, h, e => by
    unfold fvB at hb
    unfold xU at h
    split at h
    · cases h; cases e
    · obtain ⟨p, hp, q⟩ := Option.map_eq_some_iff.mp h
      cases q
      exact fvB_get (l := r) (fv := f) hb (i := p.1) (k := p.2) hp e
  | (y, k') :: r, some j' :: f, hb, i, j, x, k, h, e => by
    unfold fvB at hb
    rw [Bool.and_eq_true, Bool.and_eq_true] at hb
    obtain ⟨⟨hb1, hb2⟩, hb3⟩ := hb
    unfold xU at h
    split at h
    · rename_i q
      cases h; cases e
      rw [beq_iff_eq.mp q]
      split at hb2
      · rename_i j1 k1 h1
        rw [Bool.and_eq_true, Bool.or_eq_true] at hb2
        rw [beq_iff_eq.mp hb2.1] at h1
        exact ⟨beq_iff_eq.mp hb1, k1, h1, hb2.2.imp beq_iff_eq.mp beq_iff_eq.mp⟩
      · cases hb2
    · obtain ⟨p, hp, q⟩ := Option.map_eq_some_iff.mp h
      cases q
      exact fvB_get (l := r) (fv := f) hb3 (i := p.1) (k := p.2) hp e
theorem slot_mem : ∀ {l : List (Str × NameKind)} {x : Str} {i : Nat} {k : NameKind}, xU l x = some (i, k) → l[i]? = some (x, k)
  | [], _, _, _, h => by cases h
  | (y, k') :: r, x, i, k, h => by
    unfold xU at h
    split at h
    · rename_i q; cases h; rw [beq_iff_eq.mp q]; rfl
    · obtain ⟨p, hp, e⟩ := Option.map_eq_some_iff.mp h
      cases e
      exact slot_mem (l := r) hp
noncomputable def cinK (cx : Scope) (x : Str) (k : NameKind) : NameKind := if (k == .free && cx.kind == .function && cx.names.lookup x == some .cell) then .cell else k
theorem cin_slot {cx : Scope} : ∀ {l : List (Str × NameKind)} {x : Str} {i : Nat} {k : NameKind}, xU (l.map fun (n, k) => if (k == .free && cx.kind == .function && cx.names.lookup n == some .cell) then (n, .cell) else (n, k)) x = some (i, k) → ∃ k₀, xU l x = some (i, k₀) ∧ k = cinK cx x k₀
  | [], _, _, _, h => by cases h
  | (y, k') :: r, x, i, k, h => by
    have e0 : (if (k' == .free && cx.kind == .function && cx.names.lookup y == some .cell) then (y, NameKind.cell) else (y, k')) = (y, cinK cx y k') := by unfold cinK; split <;> rfl
    rw [List.map_cons] at h
    dsimp only at h
    rw [e0] at h
    unfold xU at h ⊢
    cases q : x == y with
    | true => simp only [q, if_true, Option.some.injEq, Prod.mk.injEq] at h ⊢; exact ⟨k', ⟨h.1, rfl⟩, by rw [beq_iff_eq.mp q]; exact h.2.symm⟩
    | false =>
      simp only [q, Bool.false_eq_true, if_false] at h ⊢
      obtain ⟨p, hp, e⟩ := Option.map_eq_some_iff.mp h
      cases e
      obtain ⟨k₀, h1, h2⟩ := cin_slot (l := r) (i := p.1) (k := p.2) hp
      exact ⟨k₀, by rw [h1]; rfl, h2⟩
theorem lookup_slot : ∀ {l : List (Str × NameKind)} {x : Str} {k : NameKind}, l.lookup x = some k → ∃ i, xU l x = some (i, k)
  | [], _, _, h => by cases h
  | (y, k') :: r, x, k, h => by
    rw [List.lookup_cons] at h
    unfold xU
    cases q : x == y with
    | true => rw [q] at h; cases h; exact ⟨0, by simp⟩
    | false =>
      rw [q] at h
      obtain ⟨i, hi⟩ := lookup_slot h
      exact ⟨i + 1, by simp [hi]⟩

theorem cinK_cf {cx : Scope} {x : Str} {k : NameKind} (h : cinK cx x k = .cell ∨ cinK cx x k = .free) : k = .cell ∨ k = .free := by
  unfold cinK at h
  split at h
  · rename_i q; rw [Bool.and_eq_true, Bool.and_eq_true] at q; exact .inr (beq_iff_eq.mp q.1.1)
  · exact h
theorem cinK_free {cx : Scope} {x : Str} : cinK cx x .free = .cell ∨ cinK cx x .free = .free := by
  unfold cinK; split
  · exact .inl rfl
  · exact .inr rfl
theorem relabel_cin {scope : Scope} {env : Env} (h : env.scope = cx) : relabel scope env = cin cx scope := by
  subst h; rfl
theorem EnvR.inner {env : Env} {φ : Phi} {ρ : Rho} {σ : H} {h h' : Heap} {scope : Scope} {fv : List (Option Nat)} {cl : List (Str × Addr)} {C : Addr} {m : Str → Option Value} (er : EnvR G cx env φ ρ h) (hr : HR G φ σ h) (hc : compB cx scope fv = true)
    (p1 : ∀ x c, cl.lookup x = some c → env.cells.lookup x = some c) (p2 : ∀ x, (x, NameKind.free) ∈ scope.names → ∃ c, cl.lookup x = some c) (fC : h.get? C = none) (hn : h'.Ns C m) (hk : ∀ b o, h.get? b = some o → h'.get? b = some o) :
    EnvR G (cin cx scope) (compEnvC scope cl C env) φ (innerRho fv ρ) h' := by
  unfold compB at hc
  simp only [Bool.and_eq_true] at hc
  obtain ⟨⟨⟨⟨c1, c2⟩, c3⟩, c4⟩, c5⟩ := hc
  have st : Step φ h φ h' := .keeps hk
  have er' := er.step st
  have noCell : ∀ x i, xU scope.names x ≠ some (i, .cell) := fun x i e => by
    have := List.all_eq_true.mp c4 _ (List.mem_of_getElem? (slot_mem e))
    simp at this
  refine ⟨relabel_cin er.sc, beq_iff_eq.mp c1, er.gl, er.bi, fun a o => ?_, fun a o => ?_, ⟨m, hn⟩, fun x c hx => ?_, fun x y c hx hy => er.cinj _ _ _ (p1 _ _ hx) (p1 _ _ hy), fun x hx => ?_, fun i x k v h1 h2 => ?_⟩
  · rcases o with rfl | ⟨x, hx⟩
    · exact (hr.fresh fC).1
    · exact er.nb a (.inr ⟨x, p1 _ _ hx⟩)
  · rcases o with rfl | ⟨x, hx⟩
    · exact (hr.fresh fC).2
    · exact er.nf a (.inr ⟨x, p1 _ _ hx⟩)
  · refine ⟨(er'.cel x c (p1 _ _ hx)).1, fun z => ?_⟩
    obtain ⟨⟨v, o, ho, _⟩, _⟩ := er.cel x c (p1 _ _ hx)
    have z' : c = C := z
    rw [z', fC] at ho; cases ho
  · obtain ⟨k, hk', hkk⟩ : ∃ k, (cin cx scope).names.lookup x = some k ∧ (k = .cell ∨ k = .free) := by
      rcases hx with hx | hx
      · exact ⟨_, hx, .inl rfl⟩
      · exact ⟨_, hx, .inr rfl⟩
    obtain ⟨i, hi⟩ := lookup_slot hk'
    obtain ⟨k₀, h1, rfl⟩ := cin_slot hi
    rcases cinK_cf hkk with rfl | rfl
    · exact absurd h1 (noCell x i)
    · exact p2 x (List.mem_of_getElem? (slot_mem h1))
  · obtain ⟨k₀, s1, rfl⟩ := cin_slot h1
    unfold innerRho at h2
    rw [List.getElem?_map] at h2
    obtain ⟨o, ho, e⟩ := Option.map_eq_some_iff.mp h2
    cases o with
    | none => cases e
    | some j =>
      dsimp only at e
      obtain ⟨rfl, k', s2, hk'⟩ := fvB_get c2 s1 ho
      have e2 : ρ[j]? = some (some v) := by
        cases q : ρ[j]? with
        | none => rw [q] at e; cases e
        | some w => rw [q] at e; rw [← e]
      rcases er'.vars j x k' v s2 e2 with ⟨q1, _⟩ | ⟨_, c, a, hc, hv, r⟩
      · rw [er.kind s2] at q1
        rcases hk' with rfl | rfl <;> cases q1
      · refine .inr ⟨?_, c, a, ?_, hv, r⟩
        · have hl : (compEnvC scope cl C env).kindOf x = some (cinK cx x .free) := by
            show (relabel scope env).names.lookup x = _
            rw [relabel_cin er.sc]; exact slot_kind h1
          rw [hl]
          exact cinK_free.imp (congrArg some) (congrArg some)
        · obtain ⟨c', hc'⟩ := p2 x (List.mem_of_getElem? (slot_mem s1))
          have := p1 _ _ hc'
          rw [hc] at this; cases this; exact hc'
theorem HR.adopt {φ : Phi} {σ : H} {h : Heap} (R : HR G φ σ h) {D : Addr} {xs : List V} {vs : List Value} {k : Nat} (np : ¬ InP φ D) (nb : G.B.get? D = none) (hD : h.get? D = some (listO vs k)) (r : VRs G.fa φ h xs vs) :
    HR G (φ ++ [(D, D)]) (σ ++ [.list xs]) h ∧ VR G.fa (φ ++ [(D, D)]) h (.obj σ.length) (.ref D) := by
  have ip : ∀ a, InP (φ ++ [(D, D)]) a → InP φ a ∨ a = D := fun a ⟨q, hq, ha⟩ => by
    rcases List.mem_append.mp hq with hq | hq
    · exact .inl ⟨q, hq, ha⟩
    · cases List.mem_singleton.mp hq
      exact .inr (ha.elim id id)
  have nt : ∀ a us, h.get? a = some (tupO us) → ¬ InP φ a → h.get? a = some (tupO us) ∧ ¬ InP (φ ++ [(D, D)]) a := fun a us e nn => ⟨e, fun z => by
    rcases ip a z with z | rfl
    · exact nn z
    · rw [hD] at e; exact list_not_tup e⟩
  have cas : ∀ {j : Nat} {q : Addr × Addr}, (φ ++ [(D, D)])[j]? = some q → φ[j]? = some q ∨ (j = φ.length ∧ q = (D, D)) := fun {j q} e => by
    rcases Nat.lt_or_ge j φ.length with h1 | h1
    · rw [List.getElem?_append_left h1] at e; exact .inl e
    · rw [List.getElem?_append_right h1] at e
      cases z : j - φ.length with
      | zero => rw [z] at e; cases e; exact .inr ⟨by omega, rfl⟩
      | succ k => rw [z] at e; cases e
  have far : ∀ {j : Nat} {q : Addr × Addr}, φ[j]? = some q → q.1 ≠ D ∧ q.2 ≠ D := fun {j q} e => ⟨fun z => np (z ▸ (InP.at e).1), fun z => np (z ▸ (InP.at e).2)⟩
  refine ⟨⟨by rw [List.length_append, List.length_append, R.len]; rfl, R.base, fun j q e hj => ?_, ?_, fun j m' q e1 e2 => ?_, fun i j q r e1 e2 hij => ?_⟩, .obj _ (D, D) (by rw [← R.len, List.getElem?_append_right (Nat.le_refl _), Nat.sub_self]; rfl)⟩
  · rcases cas e with e | ⟨rfl, rfl⟩
    · exact R.sep j q e hj
    · exact ⟨nb, nb⟩
  · obtain ⟨ys, e⟩ := R.zero
    exact ⟨ys, by rw [List.getElem?_append_left (List.getElem?_eq_some_iff.mp e).1]; exact e⟩
  · rcases cas e2 with e2 | ⟨rfl, rfl⟩
    · have : j < σ.length := by
        rw [← R.len]
        rcases Nat.lt_or_ge j φ.length with h' | h'
        · exact h'
        · rw [List.getElem?_eq_none h'] at e2; cases e2
      rw [List.getElem?_append_left this] at e1
      exact (R.obj j m' q e1 e2).mono ⟨_, rfl⟩ nt (fun _ => id) (fun _ => id)
    · rw [R.len, List.getElem?_append_right (Nat.le_refl _), Nat.sub_self] at e1
      cases e1; exact ⟨rfl, vs, k, hD, r.mono ⟨_, rfl⟩ nt⟩
  · rcases cas e1 with f1 | ⟨z1, z2⟩
    · rcases cas e2 with f2 | ⟨z3, z4⟩
      · exact R.inj i j q r f1 f2 hij
      · rw [z4]; have := far f1; exact ⟨this.1, this.1, this.2, this.2⟩
    · rcases cas e2 with f2 | ⟨z3, z4⟩
      · rw [z2]; have := far f2; exact ⟨this.1.symm, this.2.symm, this.1.symm, this.2.symm⟩
      · exact absurd (z1.trans z3.symm) hij
set_option tactic.hygienic true in
theorem comp_core {elt iter target : PySem.Expr} {ifs : List PySem.Expr} {scope : Scope} {pos : Pos} {i : Ex It} {a : As} {ts : List (Ex Bool)} {e : Ex V} {fv : List (Option Nat)} (hI : SimI G cx n target (eval iter) i) (ha : SimAL G (cin cx scope) n (assign target) a) (ht : yE G (cin cx scope) n (testsT ifs) (allT ts) TR) (he : yE G (cin cx scope) n (eval elt) e (VRG G))
    (hc : compB cx scope fv = true) {A : Around} {env : Env} {φ : Phi} {ρ : Rho} {σ σ' : H} {s : Shared} {E : Value → Shared → Prop} {v : V} {cl : List (Str × Addr)}
    (p1 : ∀ x c, cl.lookup x = some c → env.cells.lookup x = some c) (p2 : ∀ x, (x, NameKind.free) ∈ scope.names → ∃ c, cl.lookup x = some c)
    (rm : Room n A) (er : EnvR G cx env φ ρ s.heap) (hr : HR G φ σ s.heap) (hm : xR i fv a ts e ρ σ = some (v, σ')) {RR : Value → Addr → Result → Shared → Prop}
    (hRR : ∀ (D C : Addr) φ' h' tk m', Step φ s.heap φ' h' → HR G φ' σ' h' → VR G.fa φ' h' v (.ref D) → s.heap.get? C = none → h'.Ns C m' → ¬ InP φ' C → G.B.get? C = none → RR (.ref D) C (.ok .next) { s with heap := h', toks := tk }) :
    wpAny (model G.prog G.w) A (eval iter env) (fun x s₁ => wpAny (model G.prog G.w) A (pyIter x) (fun it s₂ => wpAny (model G.prog G.w) A (newList []) (fun acc s₃ =>
      wpAny (model G.prog G.w) A (newFunctionEnv scope env.globals cl [] env.qual none .none (some env)) (fun cenv s₄ =>
        codeAny (model G.prog G.w) A (.compStart (.ListComp elt [⟨target, iter, ifs, 0⟩] scope pos) 0 it acc { cenv with scope := relabel scope env }) (RR acc cenv.locals) s₄) E s₃) E s₂) E s₁) E s := by
  unfold xR at hm
  split at hm
  · cases hm
  · rename_i it σ₁ e1
    split at hm
    · cases hm
    · rename_i xs σ₂ e2
      obtain ⟨hok, rfl, rfl⟩ := newL_some hm
      refine hI A env φ ρ σ s _ E it σ₁ rm er hr e1 fun x φ₁ h₁ tk₁ st₁ hr₁ r₁ => ?_
      refine r₁ A { s with heap := h₁, toks := tk₁ } _ E rfl (rm.mono (Nat.zero_le _)) fun q mt J M h₂ tk₂ k₂ ok j₂ fr => ?_
      have er₁ := er.step st₁
      have st₂ : Step φ₁ h₁ φ₁ h₂ := .keeps k₂
      have er₂ := er₁.step st₂
      have hr₂ := hr₁.keeps k₂
      refine wpAny_newObj_type ?_
      have k₃ : ∀ b o, h₂.get? b = some o → (h₂.push (listO [] 0)).get? b = some o := fun _ _ e => Heap.get?_push_of_some _ e
      have er₃ := er₂.step (.keeps k₃)
      have hr₃ := hr₂.keeps k₃
      have c4 : ∀ y ∈ scope.names, y.2 ≠ .cell := fun y hy hz => by
        unfold compB at hc
        simp only [Bool.and_eq_true] at hc
        have := List.all_eq_true.mp hc.1.2 _ hy
        simp [hz] at this
      have c1 : scope.kind = .function := by
        unfold compB at hc
        simp only [Bool.and_eq_true] at hc
        exact beq_iff_eq.mp hc.1.1.1.1
      refine wpAny_newFunctionEnv c4 (by intro y hy; simp at hy) (fun h₄ hn₄ sb₄ => ?_) c1
      dsimp only at hn₄ sb₄ ⊢
      have fD : h₂.get? h₂.objs.size = none := wN _
      have fC : (h₂.push (listO [] 0)).get? (h₂.push (listO [] 0)).objs.size = none := wN _
      have hD3 : (h₂.push (listO [] 0)).get? h₂.objs.size = some (listO [] 0) := Heap.get?_push_size h₂ rfl
      generalize hH : h₂.push (listO [] 0) = h₃ at *
      generalize hDD : h₂.objs.size = D at *
      generalize hCC : h₃.objs.size = C at *
      have k₄ : ∀ b o, h₃.get? b = some o → h₄.get? b = some o := fun b o e => sb₄.extBut b o (fun z => by subst z; rw [fC] at e; cases e) (Heap.get?_push_of_some _ e)
      have hDC : D ≠ C := fun z => by subst z; rw [fC] at hD3; cases hD3
      have er₄ : EnvR G (cin cx scope) (compEnvC scope cl C env) φ₁ (innerRho fv ρ) h₄ := er₃.inner hr₃ hc p1 p2 fC hn₄ k₄
      have hr₄ := hr₃.keeps k₄
      have hD := k₄ _ _ hD3
      have old : ∀ b o, h₂.get? b = some o → h₄.get? b = some o := fun b o e => k₄ b o (k₃ b o e)
      have nD := hr₂.fresh fD
      have nC := hr₃.fresh fC
      have fD0 : s.heap.get? D = none := (st₁.trans st₂).none hr₂ fD
      have fC0 : s.heap.get? C = none := ((st₁.trans st₂).trans (.keeps k₃)).none hr₃ fC
      have j₄ : J 0 φ₁ h₄ := ok.stable 0 φ₁ φ₁ h₂ h₄ (fun _ => False) ((Step.keeps old).toX fun _ z => z.elim) (fun _ _ z => z.elim) (fun _ _ z => z) j₂
      have mo := fun b (z : mt b) => ok.off 0 φ₁ h₂ b j₂ z
      have Dm : ¬ mt D := fun z => by obtain ⟨_, ⟨o, ho⟩, _⟩ := mo D z; rw [fD] at ho; cases ho
      have ol : ∀ b, Own (compEnvC scope cl C env) b → b = C ∨ Own env b := fun b o => o.imp id fun ⟨x, hx⟩ => .inr ⟨x, p1 _ _ hx⟩
      have om : ∀ b, Own (compEnvC scope cl C env) b → ¬ mt b := fun b o z => by
        rcases ol b o with rfl | o
        · obtain ⟨_, ⟨o, ho⟩, _⟩ := mo b z; rw [k₃ _ _ ho] at fC; cases fC
        · exact er.live o (fr b z)
      have Dc : ∀ b, Own (compEnvC scope cl C env) b → b ≠ D := fun b o z => by
        subst z
        rcases ol b o with e | o
        · exact hDC e
        · exact er₂.live o fD
      have bm : ∀ b, mt b → G.B.get? b = none := fun b z => (hr.fresh (fr b z)).1
      have loop : codeAny (model G.prog G.w) A (.compLoop (.ListComp elt [⟨target, iter, ifs, 0⟩] scope pos) 0 (.ref q) (.ref D) (compEnvC scope cl C env)) (RR (.ref D) C) { s with heap := h₄, toks := tk₂ } := by
        refine comp_loop (xs := []) (vs := []) (m := 0) ha ht he rm er₄ hr₄ ok j₄ hD .nil nD.2 nD.1 Dc Dm om bm (Nat.le_refl 100) e2 fun φ₅ h₅ tk₅ vs' m' ρ' st₅ er₅ hr₅ hD₅ hx₅ Dn₅ => ?_
        obtain ⟨hr₆, rv⟩ := hr₅.adopt Dn₅ nD.1 hD₅ hx₅
        have stb : Step φ s.heap φ₅ h₅ := Step.transBack st₁ (fun b o e => old b o (k₂ b o e)) (fun b z => by
          rcases z with rfl | rfl | z
          · exact fC0
          · exact fD0
          · exact fr b z) st₅
        have st₇ : Step φ s.heap (φ₅ ++ [(D, D)]) h₅ := ⟨stb.ext.trans ⟨_, rfl⟩, fun b z => by
          obtain ⟨p, hp, hb⟩ := z
          rcases List.mem_append.mp hp with hp | hp
          · exact stb.fresh b ⟨p, hp, hb⟩
          · cases List.mem_singleton.mp hp
            exact .inr (by rcases hb with rfl | rfl <;> exact fD0), stb.keep⟩
        obtain ⟨m₅, hn₅⟩ := er₅.ns
        refine hRR D C _ h₅ tk₅ m₅ st₇ hr₆ rv fC0 hn₅ ?_ nC.1
        · rintro ⟨p, hp, hb⟩
          rcases List.mem_append.mp hp with hp | hp
          · exact er₅.nf C (.inl rfl) ⟨p, hp, hb⟩
          · cases List.mem_singleton.mp hp
            rcases hb with z | z <;> exact hDC z.symm
      exact codeAny_compStart_list loop (ok.twice A { s with heap := h₄, toks := tk₂ } _ _ 0 φ₁ j₄ loop)
end
end Mine


section
open PySem PySem.W PySem.Calls PyProof.Rows PySem.Spec
namespace Mine
section
variable {G : Gd} {cx : Scope} {n : Nat}
theorem not_tup_of_ns {h : Heap} {C : Addr} {m : Str → Option Value} (x : h.Ns C m) (us : List Value) : h.get? C ≠ some (tupO us) := by
  intro e
  obtain ⟨o, es, ep, ho, hd, _⟩ := x
  rw [e] at ho; cases ho; cases hd
theorem HR.let {φ : Phi} {σ : H} {h h' : Heap} {C : Addr} {m : Str → Option Value} (hr : HR G φ σ h) (hn : h.Ns C m) (np : ¬ InP φ C) (nb : G.B.get? C = none) (sb : Heap.SameBut C h h') : HR G φ σ h' ∧ ∀ v x, VR G.fa φ h v x → VR G.fa φ h' v x := by
  have k : ∀ b o, ¬ b = C → h.get? b = some o → h'.get? b = some o := fun b o ne e => (sb.2 b ne).trans e
  refine ⟨hr.keepsX (X := fun b => b = C) (fun b z => by subst z; exact nb) (fun b z => by subst z; exact np) (fun b us z => by subst z; exact not_tup_of_ns hn us) k, fun v x r => r.mono (.refl _) fun a us e nn => ⟨k _ _ (fun z => by subst z; exact not_tup_of_ns hn us e) e, nn⟩⟩
theorem comp_pre {scope : Scope} {fv : List (Option Nat)} (hc : compB cx scope fv = true) : scope.kind = .function ∧ (∀ x ∈ scope.names, x.2 = .local → scope.names.lookup x.1 = some .local) ∧ ∀ {env : Env} {φ : Phi} {ρ : Rho} {h : Heap}, EnvR G cx env φ ρ h → ∀ x, (x, NameKind.free) ∈ scope.names → ∃ c, env.cells.lookup x = some c := by
  unfold compB at hc
  simp only [Bool.and_eq_true] at hc
  obtain ⟨⟨⟨⟨c1, c2⟩, c3⟩, c4⟩, c5⟩ := hc
  refine ⟨beq_iff_eq.mp c1, fun x hx hl => ?_, fun er x hx => er.has x ?_⟩
  · have := List.all_eq_true.mp c5 _ hx
    obtain ⟨x, k⟩ := x
    dsimp only at hl this
    subst hl
    simpa using this
  · have := List.all_eq_true.mp c3 _ hx
    simpa using this
theorem wT {elt iter target : PySem.Expr} {ifs : List PySem.Expr} {scope : Scope} {pos : Pos} {i : Ex It} {a : As} {ts : List (Ex Bool)} {e : Ex V} {fv : List (Option Nat)} (hI : SimI G cx n target (eval iter) i) (ha : SimAL G (cin cx scope) n (assign target) a) (ht : yE G (cin cx scope) n (testsT ifs) (allT ts) TR) (he : yE G (cin cx scope) n (eval elt) e (VRG G))
    (hc : compB cx scope fv = true) (hs : ∀ env x, foldedSetIterable iter env x = pure x) : yE G cx n (eval (.ListComp elt [⟨target, iter, ifs, 0⟩] scope pos)) (xR i fv a ts e) (VRG G) := by
  intro A env φ ρ σ s Q E v σ' rm er hr hm q
  obtain ⟨c1, c2, c3⟩ := comp_pre (G := G) hc
  obtain ⟨cl, hcl, p1, p2⟩ := closure_of (c3 er)
  rw [eval_ListComp]
  refine wpAny_comprehension_free (use := none) rfl (hs env) hcl c1 c2 ?_
  refine comp_core hI ha ht he hc p1 p2 rm er hr hm fun D C φ' h' tk m' st hr' rv fC hn np nb => ?_
  refine ⟨m', hn, fun h'' sb => ?_⟩
  obtain ⟨hr'', kv⟩ := hr'.let hn np nb sb
  exact q _ φ' h'' tk ⟨st.ext, st.fresh, fun b o e ne => (sb.2 b fun z => by subst z; rw [fC] at e; cases e).trans (st.keep b o e ne)⟩ hr'' (kv _ _ rv)
set_option tactic.hygienic true in
theorem sims_comp {x : Str} {px ps : Pos} {j : Nat} {elt iter target : PySem.Expr} {ifs : List PySem.Expr} {scope : Scope} {pos : Pos} {i : Ex It} {a : As} {ts : List (Ex Bool)} {e : Ex V} {fv : List (Option Nat)} (hx : xU cx.names x = some (j, .local)) (hI : SimI G cx n target (eval iter) i) (ha : SimAL G (cin cx scope) n (assign target) a) (ht : yE G (cin cx scope) n (testsT ifs) (allT ts) TR) (he : yE G (cin cx scope) n (eval elt) e (VRG G))
    (hc : compB cx scope fv = true) (hs : ∀ env x, foldedSetIterable iter env x = pure x) (hsw : ∀ env : Env, env.scope = cx → swapsWith (.ListComp elt [⟨target, iter, ifs, 0⟩] scope pos) (some (.Name x px)) ps.line env = pure true) :
    SimS G cx n (exec (.Assign [.Name x px] (.ListComp elt [⟨target, iter, ifs, 0⟩] scope pos) ps)) (zQ (zG j) (xR i fv a ts e)) := by
  intro A env φ ρ σ s Q E f ρ' σ' rm er hr hm q
  unfold zQ at hm
  split at hm
  · rename_i v σ₁ e1
    cases hm
    obtain ⟨c1, c2, c3⟩ := comp_pre (G := G) hc
    obtain ⟨cl, hcl, p1, p2⟩ := closure_of (c3 er)
    rw [exec_Assign_Name_used _ _ _ _ (hsw env er.sc)]
    refine wpAny_bind (wpAny_standAt (wpAny_bind ?_))
    show wpAny _ A (do let _ ← comprehension (.ListComp elt [⟨target, iter, ifs, 0⟩] scope pos) scope env _ (newList []) false (eval iter env) (some (assign (.Name x px) env))) _ _ s
    refine wpAny_bind (wpAny_mono (wpAny_comprehension_free (use := some (assign (.Name x px) env)) (Q := fun _ s' => Q .next s') rfl (hs env) hcl c1 c2 ?_) (fun _ s' hq => wpAny_pure (wpAny_pure hq)) fun _ _ e => e)
    refine comp_core hI ha ht he hc p1 p2 rm er hr e1 fun D C φ' h' tk m' st hr' rv fC hn np nb => ?_
    have er' := er.step st
    have CL : C ≠ env.locals := fun z => er.live (.inl rfl) (z ▸ fC)
    refine assign_Name (store_local (s := { s with heap := h', toks := tk }) hx er' hr' rv fun φ₂ h₂ tk₂ st₂ er₂ hr₂ => ?_)
    obtain ⟨oC, _, _, hoC, _⟩ := id hn
    have hn₂ : h₂.Ns C m' := hn.at' fun o e => st₂.keep _ _ e np CL
    have np₂ : ¬ InP φ₂ C := st₂.off hoC np
    refine ⟨m', hn₂, fun h₃ sb => ?_⟩
    obtain ⟨hr₃, kv⟩ := hr₂.let hn₂ np₂ nb sb
    have oC' : ∀ b, Own env b → b ≠ C := fun b o z => er.live o (z ▸ fC)
    have k₃ : ∀ b o, ¬ b = C → h₂.get? b = some o → h₃.get? b = some o := fun b o ne e => (sb.2 b ne).trans e
    have s1 := (er.toX st).trans (st₂.mono (Y := Own env) (fun b z => .inl z) (fun b o => er'.nf b o))
    refine q _ φ₂ h₃ tk₂ ⟨s1.ext, s1.fresh, fun b o e ne no => k₃ b o (fun z => by subst z; rw [fC] at e; cases e) (s1.keep b o e ne no), fun b o ne => ?_⟩
      (er₂.stepMut (mt := fun b => b = C) oC' (fun b us z => by subst z; exact not_tup_of_ns hn₂ us) k₃) hr₃ .next
    rw [sb.2 b (oC' b o)]
    exact s1.alive b o ne
  · cases hm
end
end Mine


section
open PySem PySem.W PySem.Calls PyProof.Rows PySem.Spec
namespace Mine
section
variable {G : Gd} {cx : Scope} {n : Nat}
set_option tactic.hygienic true in
theorem sims_swap {x y : Str} {p p' tp ps : Pos} {i j k : Nat} {value : PySem.Expr} {e : Ex V} (hx : xU cx.names x = some (i, .local)) (hy : xU cx.names y = some (j, .local)) (hij : i ≠ j) (h1 : yE G cx n (eval value) e (VRG G))
    (hs : ∀ env, swapsWithSole [.Tuple [.Name x p, .Name y p'] k tp] value ps.line env = pure false) (hw : ∀ env : Env, env.scope = cx → swappedStores [.Tuple [.Name x p, .Name y p'] k tp] value env = pure (some [x, y])) :
    SimS G cx n (exec (.Assign [.Tuple [.Name x p, .Name y p'] k tp] value ps)) (zQ (jB [zG i, zG j]) e) := by
  intro A env φ ρ σ s Q E f ρ' σ' rm er hr hm q
  unfold zQ at hm
  split at hm
  · rename_i v σ₁ e1
    split at hm
    · rename_i ρ₁ σ₂ e2
      cases hm
      refine Assign_Tuple_swapped (h1 A env φ ρ σ s _ E v σ₁ rm er hr e1 fun z φ₁ h₁ tk₁ st₁ hr₁ r₁ => ?_) (hs env) (hw env er.sc)
      have er₁ := er.step st₁
      unfold jB at e2
      split at e2
      · rename_i vs
        cases r₁ with
        | tup _ us a ha hn r =>
        cases r with
        | nil => cases e2
        | cons r1 r =>
        rename_i v1 a1 vs as
        cases r with
        | nil => cases e2
        | cons r2 r =>
        rename_i v2 a2 vs as
        cases r with
        | cons _ _ => cases e2
        | nil =>
        cases e2
        refine unpackItems_tuple (items := #[a1, a2]) rm.hd ⟨_, ha, rfl, 0, rfl⟩ fun h₂ he => ?_
        have kk : ∀ b o, h₁.get? b = some o → h₂.get? b = some o := fun b o e => he b o (Nat.ne_of_lt (Heap.lt_size e)) e
        have st₂ : Step φ₁ h₁ φ₁ h₂ := .keeps kk
        have er₂ := er₁.step st₂
        refine wpAny_bind (wpAny_holding ?_)
        show wpAny _ _ (bindName env y a2) _ _ _
        refine bindName_ (store_local (σ' := σ') (s := { s with heap := h₂, toks := tk₁ }) hy er₂ (hr₁.keeps kk) (r2.step st₂) fun φ₃ h₃ tk₃ st₃ er₃ hr₃ => ?_)
        refine wpAny_bind (wpAny_holding ?_)
        show wpAny _ _ (bindName env x a1) _ _ _
        refine bindName_ (store_local (σ' := σ') (s := { s with heap := h₃, toks := tk₃ }) hx er₃ hr₃ ((r1.step st₂).stepX st₃ fun b us e => er₂.noTup (.inl e) us) fun φ₄ h₄ tk₄ st₄ er₄ hr₄ => wpAny_pure ?_)
        rw [List.set_comm _ _ (Ne.symm hij)] at er₄
        refine q _ φ₄ h₄ tk₄ (((er.toX st₁).trans (er₁.toX st₂)).trans ((st₃.trans st₄).mono (Y := Own env) (fun b z => .inl z) fun b o => er₂.nf b o)) er₄ hr₄ .next
      · cases e2
    · cases hm
  · cases hm
end
end Mine


section
open PySem PySem.W PySem.Calls PyProof.Rows PySem.Spec
namespace Mine
section
variable {G : Gd} {cx : Scope} {n : Nat}
theorem go_plain {prog : Program} {w : World} {A : Around} {E : Value → Shared → Prop} {s : Shared} {tg : PySem.Expr} {I : Addr} {v : Value} {o : Obj} {c : String} {Q : Unit → Shared → Prop} (ho : s.heap.get? I = some o) (hc : o.cls = .type c)
    (hn : ["enumerate", "zip", "dict_itemiterator", "dict_reverseitemiterator", "odict_iterator", "itertools.zip_longest", "itertools.pairwise"].contains c = false) (h : Q () s) : wpAny (model prog w) A (letOwnedTupleGo tg (.ref I) v) Q E s := by
  unfold letOwnedTupleGo
  cases tg <;> first
    | exact wpAny_pure h
    | (cases v <;> first
        | exact wpAny_pure h
        | (refine wpAny_bind (wpAny_load ho ?_)
           rw [hc]
           cases o.data <;> first
             | exact wpAny_pure h
             | (dsimp only; rw [hn, Bool.false_and, if_neg (by decide)]; exact wpAny_pure h)))
theorem IterOK.one {it : It} {tg : PySem.Expr} {I : Addr} {c : String} {S : Nat → Phi → Heap → Obj → Prop} (hc : ∀ k φ h o, S k φ h o → o.cls = .type c) (h1 : ["enumerate", "zip", "dict_itemiterator", "dict_reverseitemiterator", "odict_iterator", "itertools.zip_longest", "itertools.pairwise"].contains c = false) (h2 : c ≠ "tuple")
    (hx : ∀ k φ φ' h h' o X, StepX X φ h φ' h' → (∀ a us, X a → h.get? a ≠ some (tupO us)) → S k φ h o → S k φ' h' o)
    (hself : ∀ (A : Around) (s : Shared) (Q : Value → Shared → Prop) (E : Value → Shared → Prop) (k : Nat) (φ : Phi) (o : Obj), s.heap.get? I = some o → S k φ s.heap o → Q (.ref I) s → wpAny (model G.prog G.w) A (pyIter (.ref I)) Q E s)
    (hnext : ∀ (A : Around) (s : Shared) (Q : Option Value → Shared → Prop) (E : Value → Shared → Prop) (k : Nat) (φ : Phi) (σ : H) (r : Option V) (o : Obj), A.handled = none → s.heap.get? I = some o → S k φ s.heap o → ¬ InP φ I → HR G φ σ s.heap → it.nxt k σ = some r →
      (∀ (res : Option Value) (h' : Heap) (tk : Nat), (∀ b o, b ≠ I → s.heap.get? b = some o → h'.get? b = some o) →
        (match r, res with | none, none => True | some v, some x => VR G.fa φ s.heap v x ∧ ∃ o', h'.get? I = some o' ∧ S (k + 1) φ h' o' | _, _ => False) → Q res { s with heap := h', toks := tk }) →
      wpAny (model G.prog G.w) A (pyNext (.ref I)) Q E s) :
    IterOK G it tg I (fun a => a = I) (fun k φ h => ¬ InP φ I ∧ ∃ o, h.get? I = some o ∧ S k φ h o) (fun k _ φ h => ¬ InP φ I ∧ ∃ o, h.get? I = some o ∧ S k φ h o) := by
  have nt : ∀ k φ h o us, S k φ h o → o ≠ tupO us := fun k φ h o us hs e => by
    have := hc k φ h o hs
    rw [e] at this
    exact h2 (Value.type.inj this).symm
  refine ⟨fun k φ φ' h h' X st ht hm ⟨np, o, ho, hs⟩ => ⟨st.off ho np, o, st.keep _ _ ho np (hm _ rfl), hx _ _ _ _ _ _ _ st ht hs⟩, fun k φ h a ⟨np, o, ho, hs⟩ e => ?_, fun k _ φ h a ⟨np, o, ho, hs⟩ e => ?_, fun A s Q E k φ ⟨_, o, ho, hs⟩ q => hself A s Q E k φ o ho hs q, fun A s Q E k φ σ r rm ⟨np, o, ho, hs⟩ hr e q => ?_, fun A s Q E k φ x ⟨np, o, ho, hs⟩ q => ?_⟩
  · subst e; exact ⟨np, ⟨o, ho⟩, fun us z => nt k φ _ o us hs (Option.some.inj (ho.symm.trans z))⟩
  · subst e; exact ⟨np, ⟨o, ho⟩, fun us z => nt k φ _ o us hs (Option.some.inj (ho.symm.trans z))⟩
  · refine hnext A s Q E k φ σ r o rm.hd ho hs np hr e fun res h' tk kk rr => q res h' tk (fun b o' nb e' => kk b o' nb e') (fun ne b eb _ => ?_) ?_
    · subst eb
      cases r <;> cases res <;> first | exact rr.elim | exact absurd rfl ne | skip
      obtain ⟨_, o', ho', _⟩ := rr
      rw [ho']; exact fun z => by cases z
    · cases r <;> cases res <;> first | exact rr.elim | trivial | skip
      obtain ⟨rv, o', ho', hs'⟩ := rr
      exact ⟨rv.mono (.refl _) fun a us e nn => ⟨kk _ _ (fun z => by subst z; exact nt k φ _ o us hs (Option.some.inj (ho.symm.trans e))) e, nn⟩, np, o', ho', hs'⟩
  · exact go_plain ho (hc _ _ _ _ hs) h1 (q s.heap (fun _ _ _ e => e) (fun _ _ ne => ne) ⟨np, o, ho, hs⟩)

theorem list_get {vs : List Value} {xs : List V} {φ : Phi} {h : Heap} (r : VRs G.fa φ h xs vs) (k : Nat) : (xs[k]? = none ∧ vs.toArray[k]? = none) ∨ ∃ v x, xs[k]? = some v ∧ vs.toArray[k]? = some x ∧ VR G.fa φ h v x := by
  cases e : xs[k]? with
  | none =>
    refine .inl ⟨rfl, ?_⟩
    have := r.length
    rw [List.getElem?_eq_none_iff] at e
    simp; exact Nat.le_trans (Nat.le_of_eq (Eq.symm ‹_›)) ‹_›
  | some v =>
    obtain ⟨x, hx, rv⟩ := r.get e
    exact .inr ⟨v, x, rfl, by simpa using hx, rv⟩
theorem iterOf_list {φ : Phi} {σ : H} {h₀ h : Heap} {tg : PySem.Expr} {i : Nat} {xs : List V} {x : Value} (hr : HR G φ σ h) (fr : ∀ a, h.get? a = none → h₀.get? a = none) (rx : VR G.fa φ h (.obj i) x) (hl : listAt σ (.obj i) = some xs) : IterOf G tg (.lst i) φ h₀ h x := by
  intro A s Q E eh rm q
  subst eh
  obtain ⟨i', p, vs, m, e, hs, hp, rfl, -, ho, rs⟩ := hr.listAt rx hl
  cases e
  refine wpAny_pyIter_list (xP ho) ?_
  have fI := wN s.heap
  refine q s.heap.objs.size (fun a => a = s.heap.objs.size) _ _ _ s.toks (fun b o e => Heap.get?_push_of_some _ e) (IterOK.one (c := "list_iterator") (S := fun k φ _ o => ∃ p, φ[i]? = some p ∧ o.cls = .type "list_iterator" ∧ o.data = .fields #[.ref p.1, .int k 0])
    (fun k φ _ o ⟨_, _, e, _⟩ => e) (by decide) (by decide) (fun k φ φ' h h' o X st _ ⟨p, hp, r⟩ => ⟨p, st.ext.get hp, r⟩) (fun A s Q E k φ o ho ⟨p, hp, hc, hd⟩ q => wpAny_pyIter_listiter (l := p.1) (i := k) ⟨o, ho, hc, hd⟩ q) ?_) ⟨(hr.fresh fI).2, _, Heap.get?_push_size _ rfl, p, hp, rfl, rfl⟩ (fun a e => e ▸ fr _ fI)
  intro A s Q E k φ σ r o hh hI ⟨p, hp, hc, hd⟩ np hr e q
  obtain ⟨ys, hy, e⟩ := Option.map_eq_some_iff.mp e
  subst e
  obtain ⟨i', p', vs, m, ei, hs, hp', -, -, ho, rs⟩ := hr.listAt (VR.obj i p hp) hy
  cases ei
  rw [hp] at hp'; cases hp'
  rcases list_get rs k with ⟨e1, e2⟩ | ⟨v, x, e1, e2, rv⟩
  · rw [e1] at q
    exact wpAny_pyNext_list_end hh ⟨o, hI, hc, hd⟩ (xP ho) e2 fun h' he => q none h' s.toks (fun b o nb e => he b o nb e) trivial
  · rw [e1] at q
    exact wpAny_pyNext_list_item ⟨o, hI, hc, hd⟩ (xP ho) e2 fun h' ⟨o', a, b, c⟩ sb => q (some x) h' s.toks (fun b o nb e => (sb.2 b nb).trans e) ⟨rv, o', a, p, hp, b, c⟩
theorem iterOf_tup {φ : Phi} {σ : H} {h₀ h : Heap} {tg : PySem.Expr} {us : List V} {x : Value} (hr : HR G φ σ h) (fr : ∀ a, h.get? a = none → h₀.get? a = none) (rx : VR G.fa φ h (.tup us) x) : IterOf G tg (.tup us) φ h₀ h x := by
  intro A s Q E eh rm q
  subst eh
  cases id rx with
  | tup _ as a ha hn rs =>
  refine iter_tuple (items := as.toArray) ⟨_, ha, rfl, 0, rfl⟩ ?_
  have fI := wN s.heap
  have k0 : ∀ b o, s.heap.get? b = some o → (s.heap.push { cls := .type "tuple_iterator", data := .fields #[.ref a, .int 0 0] }).get? b = some o := fun b o e => Heap.get?_push_of_some _ e
  refine q s.heap.objs.size (fun a => a = s.heap.objs.size) _ _ _ s.toks k0 (IterOK.one (c := "tuple_iterator") (S := fun k φ h o => VR G.fa φ h (.tup us) (.ref a) ∧ o.cls = .type "tuple_iterator" ∧ o.data = .fields #[.ref a, .int k 0])
    (fun k φ _ o ⟨_, e, _⟩ => e) (by decide) (by decide) (fun k φ φ' h h' o X st ht ⟨r, c, d⟩ => ⟨r.stepX st ht, c, d⟩) (fun A s Q E k φ o ho ⟨_, hc, hd⟩ q => wpAny_pyIter_tupleiter (t := a) (i := k) ⟨o, ho, hc, hd⟩ q) ?_) ⟨(hr.fresh fI).2, _, Heap.get?_push_size _ rfl, rx.step (.keeps k0), rfl, rfl⟩ (fun a e => e ▸ fr _ fI)
  intro A s' Q E k φ σ r o hh hI ⟨rt, hc, hd⟩ np hr e q
  cases e
  cases id rt with
  | tup _ as _ ha hn rs =>
  have aI : a ≠ s.heap.objs.size := fun z => by
    rw [← z, ha] at hI
    cases hI
    have := Value.type.inj hc
    revert this; decide
  rcases list_get rs k with ⟨e1, e2⟩ | ⟨v, x, e1, e2, rv⟩
  · rw [e1] at q
    exact next_tuple_end (items := as.toArray) hh ⟨o, hI, hc, hd⟩ ⟨_, ha, rfl, 0, rfl⟩ e2 fun h' he => q none h' s'.toks (fun b o nb e => he b o nb e) trivial
  · rw [e1] at q
    exact next_tuple_item (items := as.toArray) ⟨o, hI, hc, hd⟩ ⟨_, ha, rfl, 0, rfl⟩ e2 fun h' ⟨o', a1, b, c⟩ sb => q (some x) h' s'.toks (fun b o nb e => (sb.2 b nb).trans e) ⟨rv, o', a1, rt.mono (.refl _) (fun b us e nn => ⟨(sb.2 b fun z => by
      subst z; rw [hI] at e; cases e
      have := Value.type.inj hc
      revert this; decide).trans e, nn⟩), b, c⟩
theorem iterOf_str {φ : Phi} {σ : H} {h₀ h : Heap} {tg : PySem.Expr} {l : List Nat} {x : Value} (hr : HR G φ σ h) (fr : ∀ a, h.get? a = none → h₀.get? a = none) (hs : l.all (· < 128) = true) (rx : VR G.fa φ h (.str l) x) : IterOf G tg (.str l) φ h₀ h x := by
  intro A s Q E eh rm q
  subst eh
  cases id rx with
  | str _ t =>
  have ha : (⟨l.toArray⟩ : Str).cps.all (· < 128) = true := by simpa using hs
  refine wpAny_pyIter_ascii ha ?_
  have fI := wN s.heap
  have k0 : ∀ b o, s.heap.get? b = some o → (s.heap.push { cls := .type "str_ascii_iterator", data := .fields #[.str ⟨l.toArray⟩ t, .int 0 0] }).get? b = some o := fun b o e => Heap.get?_push_of_some _ e
  refine q s.heap.objs.size (fun a => a = s.heap.objs.size) _ _ _ s.toks k0 (IterOK.one (c := "str_ascii_iterator") (S := fun k φ h o => o.cls = .type "str_ascii_iterator" ∧ o.data = .fields #[.str ⟨l.toArray⟩ t, .int k 0])
    (fun k φ _ o ⟨e, _⟩ => e) (by decide) (by decide) (fun k φ φ' h h' o X st ht hh => hh) (fun A s Q E k φ o ho ⟨hc, hd⟩ q => wpAny_pyIter_striter_ascii (x := ⟨l.toArray⟩) (t := t) (i := k) ⟨o, ho, hc, hd⟩ q) ?_) ⟨(hr.fresh fI).2, _, Heap.get?_push_size _ rfl, rfl, rfl⟩ (fun a e => e ▸ fr _ fI)
  intro A s' Q E k φ σ r o hh hI ⟨hc, hd⟩ np hr e q
  cases e
  cases e : l[k]? with
  | none =>
    rw [e] at q
    exact wpAny_pyNext_ascii_end hh (x := ⟨l.toArray⟩) ⟨o, hI, hc, hd⟩ (by simpa using e) fun h' he => q none h' s'.toks (fun b o nb e => he b o nb e) trivial
  | some c =>
    rw [e] at q
    exact wpAny_pyNext_ascii_item (x := ⟨l.toArray⟩) (c := c) ⟨o, hI, hc, hd⟩ (by simpa using e) fun h' ⟨o', a1, b, c'⟩ sb => q _ h' _ (fun b o nb e => (sb.2 b nb).trans e) ⟨.str [c] _, o', a1, b, c'⟩
set_option tactic.hygienic true in
theorem xK {tg e : PySem.Expr} {a : Ex V} (h : yE G cx n (eval e) a (VRG G)) : SimI G cx n tg (eval e) (xJ a) := by
  intro A env φ ρ σ s Q E b σ' rm er hr hm q
  refine yO h rm er hr hm fun x x' φ₁ σ₁ h₁ tk₁ st₁ er₁ hr₁ r₁ hm₁ => ?_
  obtain ⟨e1, rfl⟩ := xH hm₁
  refine q x φ₁ h₁ tk₁ st₁ hr₁ ?_
  have fr : ∀ a, h₁.get? a = none → s.heap.get? a = none := fun a z => st₁.none hr₁ z
  split at e1
  · rename_i i
    obtain ⟨xs, e2, e3⟩ := Option.map_eq_some_iff.mp e1
    cases e3
    exact iterOf_list hr₁ fr r₁ e2
  · cases e1; exact iterOf_tup hr₁ fr r₁
  · split at e1
    · rename_i hs; cases e1; exact iterOf_str hr₁ fr hs r₁
    · cases e1
  · cases e1
theorem seq1 {β : Type} {c : Ex V} {f : List V → Ex β} : yD (seqE [c]) f = yD c fun v => f [v] := by
  funext ρ σ
  unfold seqE yD
  cases c ρ σ with
  | none => rfl
  | some p => rfl
theorem seq2 {β : Type} {c d : Ex V} {f : List V → Ex β} : yD (seqE [c, d]) f = yD c fun v => yD d fun u => f [v, u] := by
  funext ρ σ
  unfold seqE yD
  cases c ρ σ with
  | none => rfl
  | some p =>
    dsimp only
    unfold seqE yD
    cases d ρ p.2 with
    | none => rfl
    | some q => rfl
theorem readE_lift {β : Type} {f : H → Option β} : readE f = jL fun σ => (f σ).map fun b => (b, σ) := by
  funext ρ σ
  unfold readE jL
  dsimp only
  cases f σ <;> rfl
theorem bui_call {β : Type} {x : Str} {p pos : Pos} {i : Nat} {f : Value} {es : List PySem.Expr} {cs : List (Ex V)} {k : List V → Ex β} (ha : Args G cx n es cs) (hf : (∃ id, f = .builtin id) ∨ ∃ T, f = .type T)
    (hx : xU cx.names x = some (i, .globalImplicit)) (he : nsIn G.K mainGlobals x = some none) (hb : bootBuiltins x = some f) (hn : x ≠ "__name__") (hd : (x == ("__debug__" : Str)) = false)
    {A : Around} {env : Env} {φ : Phi} {ρ : Rho} {σ σ' : H} {b : β} {s : Shared} {Q : Value → Shared → Prop} {E : Value → Shared → Prop} (rm : Room n A) (er : EnvR G cx env φ ρ s.heap) (hr : HR G φ σ s.heap) (hm : yD (seqE cs) k ρ σ = some (b, σ'))
    (q : ∀ as vs φ' σ₁ h' tk, Step φ s.heap φ' h' → HR G φ' σ₁ h' → VRs G.fa φ' h' vs as → k vs ρ σ₁ = some (b, σ') → wpAny (model G.prog G.w) A (call f as) Q E { s with heap := h', toks := tk }) :
    wpAny (model G.prog G.w) A (eval (.Call (.Name x p) es [] pos) env) Q E s := by
  rw [arm_eval_Call_Name']
  refine wpAny_bind (name_bui er hr hx he hb hn hd ?_)
  have hev : wpAny (model G.prog G.w) A (evalArgs f true (backTo pos (starEach es env)) []) (fun a s₁ => wpAny (model G.prog G.w) A (call f ([] ++ a.pos) a.kw) Q E s₁) E s :=
    ha.eval (yO ha.sim rm er hr hm fun as vs φ₁ σ₁ h₁ tk₁ st₁ er₁ hr₁ r₁ hm₁ => q as vs φ₁ σ₁ h₁ tk₁ st₁ hr₁ r₁ hm₁)
  rcases hf with ⟨id, rfl⟩ | ⟨T, rfl⟩
  · exact Calls.callWith_builtin (ha.plain pos env) hev
  · exact PySem.callWith_type (ha.plain pos env) hev
theorem sim_bui {β : Type} {R : Phi → Heap → β → Value → Prop} {x : Str} {p pos : Pos} {i : Nat} {f : Value} {es : List PySem.Expr} {cs : List (Ex V)} {g : List V → H → Option (β × H)} (ha : Args G cx n es cs) (hf : (∃ id, f = .builtin id) ∨ ∃ T, f = .type T)
    (hg : ∀ φ h vs as, VRs G.fa φ h vs as → SimH G n φ h (call f as) (g vs) R)
    (hx : xU cx.names x = some (i, .globalImplicit)) (he : nsIn G.K mainGlobals x = some none) (hb : bootBuiltins x = some f) (hn : x ≠ "__name__") (hd : (x == ("__debug__" : Str)) = false) :
    yE G cx n (eval (.Call (.Name x p) es [] pos)) (yD (seqE cs) fun vs => jL (g vs)) R := by
  intro A env φ ρ σ s Q E v σ' rm er hr hm q
  refine bui_call ha hf hx he hb hn hd rm er hr hm fun as vs φ₁ σ₁ h₁ tk₁ st₁ hr₁ r₁ hm₁ => ?_
  exact hg φ₁ h₁ vs as r₁ A σ₁ { s with heap := h₁, toks := tk₁ } Q E v σ' rfl rm hr₁ hm₁ fun a φ' h' tk st hr' r => q a φ' h' tk (st₁.trans st) hr' r
set_option tactic.hygienic true in
theorem sim_bui1 {β : Type} {R : Phi → Heap → β → Value → Prop} {x : Str} {p pos : Pos} {i : Nat} {f : Value} {e : PySem.Expr} {c : Ex V} {g : V → H → Option (β × H)} (h1 : yE G cx n (eval e) c (VRG G)) (hs : ∀ env, starEach [e] env = [(false, eval e env)]) (hf : (∃ id, f = .builtin id) ∨ ∃ T, f = .type T)
    (hg : ∀ φ h v a, VR G.fa φ h v a → SimH G n φ h (call f [a]) (g v) R)
    (hx : xU cx.names x = some (i, .globalImplicit)) (he : nsIn G.K mainGlobals x = some none) (hb : bootBuiltins x = some f) (hn : x ≠ "__name__") (hd : (x == ("__debug__" : Str)) = false) :
    yE G cx n (eval (.Call (.Name x p) [e] [] pos)) (yD c fun v => jL (g v)) R := by
  have := sim_bui (g := fun vs => match vs with | [v] => g v | _ => fun _ => none) (R := R) (p := p) (pos := pos) (.cons h1 (fun env => by rw [hs env]; rfl) .nil) hf (fun φ h vs as r => by
    intro A σ s Q E b σ' eh rm hr hm q
    split at hm
    · rename_i v
      cases r with
      | cons r1 r => cases r with
        | nil => exact hg φ h _ _ r1 A σ s Q E b σ' eh rm hr hm q
    · cases hm) hx he hb hn hd
  rw [seq1] at this
  exact this
theorem iterOf_range {φ : Phi} {σ : H} {h₀ h : Heap} {tg : PySem.Expr} {a b : Int} {r : Addr} {t u v : Tok} (hr : HR G φ σ h) (fr : ∀ a, h.get? a = none → h₀.get? a = none) (hs : (Mine.small a && Mine.small b) = true) (ho : IsRange h r a b 1 t u v) : IterOf G tg (.rng a b) φ h₀ h (.ref r) := by
  intro A s Q E eh rm q
  subst eh
  rw [Bool.and_eq_true] at hs
  have ha := of_decide_eq_true hs.1
  have hb := of_decide_eq_true hs.2
  refine wpAny_pyIter_range ho (small_one (by exact oE ‹_›) (by exact oF ‹_›) (by exact oE ‹_›) (by exact oF ‹_›)) ?_
  rw [rangeSize_one]
  have fI := wN s.heap
  refine q s.heap.objs.size (fun a => a = s.heap.objs.size) _ _ _ s.toks (fun b o e => Heap.get?_push_of_some _ e) (IterOK.one (c := "range_iterator") (S := fun k φ h o => o = { cls := .type "range_iterator", dict := none, data := .fields #[rawInt (a + k), rawInt ((if a < b then b - a else 0) - k), rawInt 1], slots := #[] })
    (fun k φ _ o e => by rw [e]) (by decide) (by decide) (fun k φ φ' h h' o X st ht hh => hh) (fun A s Q E k φ o ho e q => wpAny_pyIter_rangeiter (ho.trans (congrArg some e)) q) ?_) ⟨(hr.fresh fI).2, _, Heap.get?_push_size _ rfl, by simp⟩ (fun a e => e ▸ fr _ fI)
  intro A s' Q E k φ σ r o hh hI e np hr hn q
  subst e
  unfold It.nxt at hn
  by_cases hlt : a + (k : Int) < b
  · simp only [hlt, if_true, Option.some.injEq] at hn
    subst hn
    have hab : a < b := Int.lt_of_le_of_lt (Int.le_add_of_nonneg_right (Int.natCast_nonneg k)) hlt
    refine wpAny_pyNext_range_item hI (by rw [if_pos hab, Int.sub_sub]; exact Int.sub_pos_of_lt hlt) fun h' ho' sb => q _ h' _ (fun b o nb e => (sb.2 b nb).trans e) ⟨.int _ _, _, ho', ?_⟩
    rw [show a + (k : Int) + 1 = a + ((k + 1 : Nat) : Int) from Int.add_assoc a k 1, show (if a < b then b - a else 0) - (k : Int) - 1 = (if a < b then b - a else 0) - ((k + 1 : Nat) : Int) from Int.sub_sub _ k 1]
  · simp only [hlt, if_false, Option.some.injEq] at hn
    subst hn
    refine wpAny_pyNext_range_end hh hI (by split <;> omega) fun h' he => q none h' s'.toks (fun b o nb e => he b o nb e) trivial
set_option tactic.hygienic true in
theorem sim_rng1 {tg e : PySem.Expr} {c : Ex V} {p pos : Pos} {i : Nat} (h1 : yE G cx n (eval e) c (VRG G)) (hs : ∀ env, starEach [e] env = [(false, eval e env)]) (hx : xU cx.names "range" = some (i, .globalImplicit)) (he : nsIn G.K mainGlobals "range" = some none) :
    SimI G cx n tg (eval (.Call (.Name "range" p) [e] [] pos)) (rngI (cE (.int 0)) c) := by
  intro A env φ ρ σ s Q E b σ' rm er hr hm q
  refine bui_call (k := fun vs => match vs with | [.int j] => if Mine.small 0 && Mine.small j then pureE (.rng 0 j) else noE | _ => noE) (.cons h1 (fun env => by rw [hs env]; rfl) .nil) (.inr ⟨"range", rfl⟩) hx he boot_range (by decide) (by decide) rm er hr (b := b) (σ' := σ') ?_ fun as vs φ₁ σ₁ h₁ tk₁ st₁ hr₁ r₁ hm₁ => ?_
  · rw [seq1]
    rw [← hm]
    unfold rngI
    show _ = yD c _ ρ σ
    unfold yD
    cases c ρ σ with
    | none => rfl
    | some p => obtain ⟨v, σ₁⟩ := p; cases v <;> rfl
  · split at hm₁
    · rename_i j
      split at hm₁
      · rename_i hsm
        cases hm₁
        cases r₁ with
        | cons r1 r => cases r with
          | nil =>
            cases r1 with
            | int _ t =>
            refine call_range_1 ?_
            have k1 : ∀ b o, h₁.get? b = some o → (h₁.push { cls := .type "range", data := .fields #[.int 0 tk₁, .int j t, .int 1 (tk₁ + 1)] }).get? b = some o := fun b o e => Heap.get?_push_of_some _ e
            exact q _ φ₁ _ _ (st₁.trans (.keeps k1)) (hr₁.keeps k1) (iterOf_range (hr₁.keeps k1) (fun a z => (st₁.trans (.keeps k1)).none (hr₁.keeps k1) z) hsm (IsRange.new ..))
      · cases hm₁
    · cases hm₁
theorem iterOf_rev {φ : Phi} {σ : H} {h₀ h : Heap} {tg : PySem.Expr} {i : Nat} {p : Addr × Addr} {N : Nat} {I : Addr} {xs : List V} (hl : listAt σ (.obj i) = some xs) (hN : xs.length = N) (hr : HR G φ σ h) (hp : φ[i]? = some p) (fr : h₀.get? I = none) (np : ¬ InP φ I) (ho : h.get? I = some (revObj p.1 ((N : Int) - 1))) : IterOf G tg (.rev i N) φ h₀ h (.ref I) := by
  intro A s Q E eh rm q
  subst eh
  refine wpAny_pyIter_revIter (l := p.1) (i := (N : Int) - 1) ⟨_, ho, rfl, rfl⟩ ?_
  refine q I (fun a => a = I) _ _ s.heap s.toks (fun b o e => e) (IterOK.one (c := "list_reverseiterator") (S := fun k φ h o => φ[i]? = some p ∧ (k ≤ N) ∧ o.cls = .type "list_reverseiterator" ∧ o.data = .fields #[.ref p.1, rawInt ((N : Int) - 1 - k)])
    (fun k φ _ o ⟨_, _, e, _⟩ => e) (by decide) (by decide) (fun k φ φ' h h' o X st ht ⟨a, b⟩ => ⟨st.ext.get a, b⟩) (fun A s Q E k φ o ho ⟨_, _, hc, hd⟩ q => wpAny_pyIter_revIter (l := p.1) ⟨o, ho, hc, hd⟩ q) ?_) ⟨np, _, ho, hp, Nat.zero_le _, rfl, by show Data.fields #[.ref p.1, rawInt ((N : Int) - 1)] = _; rw [show (N : Int) - 1 - ((0 : Nat) : Int) = (N : Int) - 1 by omega]⟩ (fun a e => e ▸ fr)
  intro A s' Q E k φ σ r o hh hI ⟨hp, hk, hc, hd⟩ np hr hn q
  unfold It.nxt at hn
  obtain ⟨ys, hy, hn⟩ := Option.bind_eq_some_iff.mp hn
  split at hn
  · rename_i hlen
    obtain ⟨i', p', vs, m, ei, hs, hp', -, -, ho, rs⟩ := hr.listAt (VR.obj i p hp) hy
    cases ei
    rw [hp] at hp'; cases hp'
    by_cases hlt : k < N
    · rw [if_pos hlt] at hn
      have e1 : (N : Int) - 1 - (k : Int) = ((N - 1 - k : Nat) : Int) := by omega
      rw [e1] at hd
      rcases list_get rs (N - 1 - k) with ⟨z1, z2⟩ | ⟨v, x, z1, z2, rv⟩
      · rw [List.getElem?_eq_none_iff] at z1; omega
      · rw [z1] at hn; cases hn
        refine wpAny_pyNext_rev_item ⟨o, hI, hc, hd⟩ (xP ho) z2 fun h' ⟨o', a, b, c⟩ sb => q (some x) h' s'.toks (fun b o nb e => (sb.2 b nb).trans e) ⟨rv, o', a, hp, hlt, b, ?_⟩
        rw [c, show ((N - 1 - k : Nat) : Int) - 1 = (N : Int) - 1 - ((k + 1 : Nat) : Int) from e1 ▸ Int.sub_sub _ k 1]
    · rw [if_neg hlt] at hn; cases hn
      have e1 : (N : Int) - 1 - (k : Int) = -1 := by omega
      rw [e1] at hd
      exact wpAny_pyNext_rev_end (l := p.1) hh ⟨o, hI, hc, hd⟩ fun h' he => q none h' s'.toks (fun b o nb e => he b o nb e) trivial
  · cases hn
set_option tactic.hygienic true in
theorem sim_rev1 {tg e : PySem.Expr} {c : Ex V} {p pos : Pos} {i : Nat} (h1 : yE G cx n (eval e) c (VRG G)) (hs : ∀ env, starEach [e] env = [(false, eval e env)]) (hx : xU cx.names "reversed" = some (i, .globalImplicit)) (he : nsIn G.K mainGlobals "reversed" = some none) :
    SimI G cx n tg (eval (.Call (.Name "reversed" p) [e] [] pos)) (revI c) := by
  intro A env φ ρ σ s Q E b σ' rm er hr hm q
  refine bui_call (k := fun vs => match vs with | [v] => (readE fun σ => match v with | .obj i => (listAt σ v).map fun xs => It.rev i xs.length | _ => .none) | _ => noE) (.cons h1 (fun env => by rw [hs env]; rfl) .nil) (.inr ⟨"reversed", rfl⟩) hx he (by decide +kernel) (by decide) (by decide) rm er hr (b := b) (σ' := σ') (by rw [seq1, ← hm]; rfl) fun as vs φ₁ σ₁ h₁ tk₁ st₁ hr₁ r₁ hm₁ => ?_
  split at hm₁
  · rename_i v
    cases r₁ with
    | cons r1 r => cases r with
      | nil =>
        obtain ⟨e1, rfl⟩ := xH hm₁
        split at e1
        · rename_i i
          obtain ⟨xs, e2, e3⟩ := Option.map_eq_some_iff.mp e1
          cases e3
          obtain ⟨i', pp, vs, m, ei, hs', hp', rfl, -, ho, rs⟩ := hr₁.listAt r1 e2
          cases ei
          refine call_reversed_list (xP ho) ?_
          have k1 : ∀ b o, h₁.get? b = some o → (h₁.push (revObj pp.1 ((vs.toArray.size : Int) - 1))).get? b = some o := fun b o e => Heap.get?_push_of_some _ e
          refine q _ φ₁ _ _ (st₁.trans (.keeps k1)) (hr₁.keeps k1) (iterOf_rev e2 rfl (hr₁.keeps k1) hp' ?_ (hr₁.fresh (wN _)).2 ?_)
          · exact st₁.none hr₁ (wN _)
          · rw [rs.length]; simpa using Heap.get?_push_size h₁ rfl
        · cases e1
  · cases hm₁
theorem enum_not_tup {e it : Addr} {i : Int} {old : Value} {h : Heap} (x : IsEnum h e it i old) (us : List Value) : h.get? e ≠ some (tupO us) := fun z => by
  have := congrArg Obj.cls (Option.some.inj (x.symm.trans z))
  simp at this
theorem enumOut_not_tup {e it a : Addr} {i : Int} {old : Value} {h : Heap} (x : IsEnumOut h e it i old a) (us : List Value) : h.get? e ≠ some (tupO us) := fun z => by
  have := congrArg Obj.cls (Option.some.inj (x.symm.trans z))
  simp at this
theorem lit_not_tup {it l : Addr} {k : Nat} {h : Heap} (x : h.IsListIter it l k) (us : List Value) : h.get? it ≠ some (tupO us) := fun z => by
  obtain ⟨o, ho, hc, _⟩ := x
  rw [z] at ho; cases ho
  simp at hc
theorem iterOf_enum {φ : Phi} {σ : H} {h₀ h : Heap} {elts : List PySem.Expr} {kk : Nat} {tp : Pos} {i : Nat} {p : Addr × Addr} {e it : Addr} (hr : HR G φ σ h) (hp : φ[i]? = some p) (ne : e ≠ it) (he : IsEnum h e it 0 .none) (hi : h.IsListIter it p.1 0) (fe : h₀.get? e = none) (fi : h₀.get? it = none) (npe : ¬ InP φ e) (npi : ¬ InP φ it) :
    IterOf G (.Tuple elts kk tp) (.enm i) φ h₀ h (.ref e) := by
  intro A s Q E eh rm q
  subst eh
  refine wpAny_pyIter_enum he ?_
  refine q e (fun a => a = e ∨ a = it) (fun k φ h => φ[i]? = some p ∧ ¬ InP φ e ∧ ¬ InP φ it ∧ (∃ old, IsEnum h e it (k : Int) old) ∧ h.IsListIter it p.1 k) (fun k x φ h => φ[i]? = some p ∧ ¬ InP φ e ∧ ¬ InP φ it ∧ (∃ T item, x = .ref T ∧ IsEnumOut h e it (k : Int) item T) ∧ h.IsListIter it p.1 k) s.heap s.toks (fun b o e => e) ?_ ⟨hp, npe, npi, ⟨.none, he⟩, hi⟩ (fun a z => by rcases z with rfl | rfl; exact fe; exact fi)
  refine ⟨fun k φ φ' h h' X st ht hm ⟨a, b, c, ⟨old, d⟩, f⟩ => ⟨st.ext.get a, st.off d b, ?_, ⟨old, st.keep _ _ d b (hm _ (.inl rfl))⟩, ?_⟩, fun k φ h a ⟨_, b, c, ⟨old, d⟩, f⟩ z => ?_, fun k x φ h a ⟨_, b, c, ⟨T, item, _, d⟩, f⟩ z => ?_, fun A s Q E k φ ⟨_, _, _, ⟨old, d⟩, _⟩ q => wpAny_pyIter_enum d q, ?_, ?_⟩
  · obtain ⟨o, ho, r⟩ := f; exact st.off ho c
  · exact f.at fun o ho => st.keep _ _ ho c (hm _ (.inr rfl))
  · rcases z with rfl | rfl
    · exact ⟨b, ⟨_, d⟩, enum_not_tup d⟩
    · obtain ⟨o, ho, r⟩ := id f; exact ⟨c, ⟨o, ho⟩, lit_not_tup f⟩
  · rcases z with rfl | rfl
    · exact ⟨b, ⟨_, d⟩, enumOut_not_tup d⟩
    · obtain ⟨o, ho, r⟩ := id f; exact ⟨c, ⟨o, ho⟩, lit_not_tup f⟩
  · intro A s Q E k φ σ r rm ⟨hp, npe, npi, ⟨old, he⟩, hit⟩ hr hn q
    obtain ⟨ys, hy, e1⟩ := Option.map_eq_some_iff.mp hn
    subst e1
    obtain ⟨i', p', vs, m, ei, hs, hp', -, -, ho, rs⟩ := hr.listAt (VR.obj i p hp) hy
    cases ei
    rw [hp] at hp'; cases hp'
    rcases list_get rs k with ⟨z1, z2⟩ | ⟨v, x, z1, z2, rv⟩
    · rw [z1] at q
      exact wpAny_pyNext_enum_end rm.hd he hit (xP ho) z2 fun h' hk => q none h' s.toks (fun b o nb e => hk b o (fun z => nb (.inr z)) e) (fun z => absurd rfl z) trivial
    · rw [z1] at q
      refine wpAny_pyNext_enum_item he hit (xP ho) z2 ne fun h' hout hit' hT hsz hk => ?_
      have kk' : ∀ b o, ¬ (b = e ∨ b = it) → s.heap.get? b = some o → h'.get? b = some o := fun b o nb e => hk b o (fun z => nb (.inl z)) (fun z => nb (.inr z)) e
      have fT := wN s.heap
      refine q _ h' _ kk' (fun _ b z _ => ?_) ⟨.tup [.int k, v] [.int k s.toks, x] _ hT (hr.fresh fT).2 (.cons (.int _ _) (.cons (rv.mono (.refl _) fun b us e nn => ⟨kk' _ _ (fun z => ?_) e, nn⟩) .nil)), hp, npe, npi, ⟨_, x, rfl, hout⟩, hit'⟩
      · rcases z with rfl | rfl
        · rw [hout]; exact fun z => by cases z
        · obtain ⟨o, ho, _⟩ := hit'; rw [ho]; exact fun z => by cases z
      · rcases z with rfl | rfl
        · exact enum_not_tup he us e
        · exact lit_not_tup hit us e
  · intro A s Q E k φ x ⟨hp, npe, npi, ⟨T, item, e1, hout⟩, hit⟩ q
    subst e1
    refine wpAny_letOwnedTupleGo_enum hout fun h' he' sb => q h' (fun b o nb e => (sb.2 b fun z => nb (.inl z)).trans e) (fun b z ne' => ?_) ⟨hp, npe, npi, ⟨item, he'⟩, hit.at fun o e => (sb.2 it (Ne.symm ne)).trans e⟩
    rcases z with rfl | rfl
    · rw [he']; exact fun z => by cases z
    · rw [sb.2 _ (Ne.symm ne)]; exact ne'
set_option tactic.hygienic true in
theorem sim_enum {elts : List PySem.Expr} {kk : Nat} {tp : Pos} {e : PySem.Expr} {c : Ex V} {p pos : Pos} {i : Nat} (h1 : yE G cx n (eval e) c (VRG G)) (hs : ∀ env, starEach [e] env = [(false, eval e env)]) (hx : xU cx.names "enumerate" = some (i, .globalImplicit)) (he : nsIn G.K mainGlobals "enumerate" = some none) :
    SimI G cx n (.Tuple elts kk tp) (eval (.Call (.Name "enumerate" p) [e] [] pos)) (enmI c) := by
  intro A env φ ρ σ s Q E b σ' rm er hr hm q
  refine bui_call (k := fun vs => match vs with | [v] => (readE fun σ => match v with | .obj i => (listAt σ v).map fun _ => It.enm i | _ => .none) | _ => noE) (.cons h1 (fun env => by rw [hs env]; rfl) .nil) (.inr ⟨"enumerate", rfl⟩) hx he (by decide +kernel) (by decide) (by decide) rm er hr (b := b) (σ' := σ') (by rw [seq1, ← hm]; rfl) fun as vs φ₁ σ₁ h₁ tk₁ st₁ hr₁ r₁ hm₁ => ?_
  split at hm₁
  · rename_i v
    cases r₁ with
    | cons r1 r => cases r with
      | nil =>
        obtain ⟨e1, rfl⟩ := xH hm₁
        split at e1
        · rename_i i
          obtain ⟨xs, e2, e3⟩ := Option.map_eq_some_iff.mp e1
          cases e3
          obtain ⟨i', pp, vs, m, ei, hs', hp', rfl, -, ho, rs⟩ := hr₁.listAt r1 e2
          cases ei
          refine call_enumerate_list (xP ho) fun h' he hit hsz k1 => ?_
          have f1 := wN h₁
          have f2 : h₁.get? (h₁.objs.size + 1) = none := by
            cases z : h₁.get? (h₁.objs.size + 1) with
            | none => rfl
            | some o => exact absurd (Heap.lt_size z) (Nat.not_lt.mpr (Nat.le_succ _))
          exact q _ φ₁ h' tk₁ (st₁.trans (.keeps k1)) (hr₁.keeps k1) (iterOf_enum (hr₁.keeps k1) hp' (Nat.succ_ne_self _) he hit (st₁.none hr₁ f2) (st₁.none hr₁ f1) (hr₁.fresh f2).2 (hr₁.fresh f1).2)
        · cases e1
  · cases hm₁
end
end Mine


section
open PySem PySem.W PySem.Calls PyProof.Rows PySem.Spec
namespace Mine
section
variable {G : Gd} {cx : Scope} {n : Nat}
section
variable {e : PySem.Expr} {c : Ex V} {p pos : Pos} {i : Nat} (h1 : yE G cx n (eval e) c (VRG G)) (hs : ∀ env, starEach [e] env = [(false, eval e env)])
include h1 hs
theorem xC (hx : xU cx.names "len" = some (i, .globalImplicit)) (he : nsIn G.K mainGlobals "len" = some none) : yE G cx n (eval (.Call (.Name "len" p) [e] [] pos)) (wB c) (VRG G) := by
  have := sim_bui1 (p := p) (pos := pos) (R := VRG G) (g := fun v σ => (lenO v σ).map fun z => (z, σ)) h1 hs (.inl ⟨"len", rfl⟩) (fun φ h v a r => simh_len r) hx he (by decide +kernel) (by decide) (by decide)
  unfold wB
  simpa only [readE_lift] using this
set_option tactic.hygienic true in
theorem sim_abs (hx : xU cx.names "abs" = some (i, .globalImplicit)) (he : nsIn G.K mainGlobals "abs" = some none) : yE G cx n (eval (.Call (.Name "abs" p) [e] [] pos)) (absE c) (VRG G) := by
  have := sim_bui1 (p := p) (pos := pos) (R := VRG G) (g := fun v σ => match v with | .int i => some (.int i.natAbs, σ) | _ => none) h1 hs (.inl ⟨"abs", rfl⟩) (fun φ h v a r => by
    intro A σ s Q E b σ' eh rm hr hm q
    subst eh
    split at hm
    · rename_i i
      cases hm
      cases r
      refine call_abs_int fun u tk => ?_
      rw [ite_abs']
      exact q _ φ s.heap tk (.refl ..) hr (.int _ _)
    · cases hm) hx he (by decide +kernel) (by decide) (by decide)
  have e1 : absE c = yD c fun v => jL fun σ => match v with | .int i => some (.int i.natAbs, σ) | _ => none := by
    unfold absE; congr 1; funext v; cases v <;> rfl
  rw [e1]; exact this
set_option tactic.hygienic true in
theorem sim_ord (hx : xU cx.names "ord" = some (i, .globalImplicit)) (he : nsIn G.K mainGlobals "ord" = some none) : yE G cx n (eval (.Call (.Name "ord" p) [e] [] pos)) (ordE c) (VRG G) := by
  have := sim_bui1 (p := p) (pos := pos) (R := VRG G) (g := fun v σ => match v with | .str [c] => some (.int c, σ) | _ => none) h1 hs (.inl ⟨"ord", rfl⟩) (fun φ h v a r => by
    intro A σ s Q E b σ' eh rm hr hm q
    subst eh
    split at hm
    · rename_i c
      cases hm
      cases r
      exact P.ord_of_char (q _ φ s.heap _ (.refl ..) hr (.int _ _))
    · cases hm) hx he (by decide +kernel) (by decide) (by decide)
  have e1 : ordE c = yD c fun v => jL fun σ => match v with | .str [c] => some (.int c, σ) | _ => none := by
    unfold ordE; congr 1; funext v
    cases v <;> try rfl
    rename_i l
    rcases l with _ | ⟨x, _ | ⟨y, r⟩⟩ <;> rfl
  rw [e1]; exact this
end
set_option tactic.hygienic true in
theorem sim_min {e d : PySem.Expr} {c f : Ex V} {p pos : Pos} {i : Nat} (h1 : yE G cx n (eval e) c (VRG G)) (h2 : yE G cx n (eval d) f (VRG G)) (hs : ∀ env, starEach [e, d] env = (false, eval e env) :: starEach [d] env) (hs2 : ∀ env, starEach [d] env = (false, eval d env) :: starEach [] env)
    (hx : xU cx.names "min" = some (i, .globalImplicit)) (he : nsIn G.K mainGlobals "min" = some none) : yE G cx n (eval (.Call (.Name "min" p) [e, d] [] pos)) (minE c f) (VRG G) := by
  have := sim_bui (p := p) (pos := pos) (R := VRG G) (g := fun vs σ => match vs with | [.int i, .int j] => some (.int (min i j), σ) | _ => none) (.cons h1 hs (.cons h2 hs2 .nil)) (.inl ⟨"min", rfl⟩) (fun φ h vs as r => by
    intro A σ s Q E b σ' eh rm hr hm q
    subst eh
    split at hm
    · rename_i i j
      cases hm
      cases r with
      | cons r1 r => cases r with
        | cons r2 r => cases r with
          | nil =>
            cases r1 with
            | int _ t =>
            cases r2 with
            | int _ u =>
            refine min_two_ints rm.hd fun h' tk k => ?_
            have e1 : (if j < i then Value.int j u else .int i t) = .int (min i j) (if j < i then u else t) := by
              by_cases hlt : j < i
              · rw [if_pos hlt, if_pos hlt, Int.min_eq_right (Int.le_of_lt ‹_›)]
              · rw [if_neg hlt, if_neg hlt, Int.min_eq_left (Int.not_lt.mp ‹_›)]
            rw [e1]
            exact q _ φ h' tk (.keeps k) (hr.keeps k) (.int _ _)
    · cases hm) hx he (by decide +kernel) (by decide) (by decide)
  rw [seq2] at this
  have e1 : minE c f = yD c fun v => yD f fun u => jL fun σ => match [v, u] with | [.int i, .int j] => some (.int (min i j), σ) | _ => none := by
    unfold minE; congr 1; funext v; congr 1; funext u; cases v <;> cases u <;> rfl
  rw [e1]; exact this
end
end Mine


section
open PySem PySem.W PySem.Calls PyProof.Rows PySem.Spec PySem.Builtin
namespace Mine
theorem slot_bfind : Slot "bytes" "find" "bytes.find" :=
  .of (owner := "bytes") (n := "find") (by rw [typeLookup_type, builtinLookup_eq_fast]; kernel_rfl) (by decide +kernel) (by decide +kernel) (by decide +kernel)
    (by first | exact .inl (by decide +kernel) | exact .inr (by decide +kernel)) (by rw [isSubtype_type]; kernel_rfl)
theorem type_bfind : typeOf (.builtin "bytes.find") = pure (.type "method_descriptor") := by show builtinType _ = _; rw [builtinType_eq_fast]; kernel_rfl
theorem entry_bfind : entryFor table "bytes.find" = some Builtin.«bytes.find» := entryFor_of_tree (by kernel_rfl)
theorem args_bfind (a b : Value) : argsOk "bytes.find" ⟨[a, b], []⟩ := by
  unfold argsOk; rw [signature?_of (id := "bytes.find") (n := ['d', 'n', 'i', 'f']) (o := ['s', 'e', 't', 'y', 'b']) (by kernel_rfl) FB.owner_bytes]; kernel_rfl
theorem slot_brepr : Slot "bytes" "__repr__" "bytes.__repr__" :=
  .of (owner := "bytes") (n := "__repr__") (by rw [typeLookup_type, builtinLookup_eq_fast]; kernel_rfl) (by decide +kernel) (by decide +kernel) (by decide +kernel)
    (by first | exact .inl (by decide +kernel) | exact .inr (by decide +kernel)) (by rw [isSubtype_type]; kernel_rfl)
theorem entry_brepr : entryFor table "bytes.__repr__" = some Builtin.«bytes.__repr__» := entryFor_of_tree (by kernel_rfl)
theorem args_brepr (a : Value) : argsOk "bytes.__repr__" ⟨[a], []⟩ := by
  unfold argsOk; rw [signature?_of (id := "bytes.__repr__") (n := ['_', '_', 'r', 'p', 'e', 'r', '_', '_']) (o := ['s', 'e', 't', 'y', 'b']) (by kernel_rfl) FB.owner_bytes]; kernel_rfl
theorem gives_brepr_k (t : Tok) : Gives («bytes.__repr__» ⟨[.bytes [107].toArray t], []⟩) (.str ⟨[98, 39, 107, 39].toArray⟩) := .of_eq (by kernel_rfl)
theorem gives_brepr_tail (t : Tok) : Gives («bytes.__repr__» ⟨[.bytes [116, 97, 105, 108].toArray t], []⟩) (.str ⟨[98, 39, 116, 97, 105, 108, 39].toArray⟩) := .of_eq (by kernel_rfl)
theorem gives_brepr_text (t : Tok) : Gives («bytes.__repr__» ⟨[.bytes [116, 101, 120, 116].toArray t], []⟩) (.str ⟨[98, 39, 116, 101, 120, 116, 39].toArray⟩) := .of_eq (by kernel_rfl)
theorem gives_bfind {b : List UInt8} (t u : Tok) (hb : modeB b = true) : Gives («bytes.find» ⟨[.bytes b.toArray t, .bytes [0].toArray u], []⟩) (.int (-1)) := by
  refine .of_wp fun M A E s Q hq => ?_
  show wpAny M A (Bytes.searchM .bytes "find" false false _) _ E s
  unfold Bytes.searchM Bytes.searchArgs
  refine wpAny_bind ?_
  refine wpAny_bind (m := selfAndSome _ _ 1 3 _) (wpAny_of_eq (a := (Value.bytes b.toArray t, [Value.bytes [0].toArray u])) rfl ?_)
  refine wpAny_bind (m := Bytes.bound? _) (wpAny_of_eq (a := none) rfl ?_)
  refine wpAny_bind (m := Bytes.bound? _) (wpAny_of_eq (a := none) rfl ?_)
  refine wpAny_bind (m := Bytes.buffer? _ (Value.bytes [0].toArray u)) (wpAny_of_eq KBy.buffer_eq ?_)
  refine wpAny_bind (wpAny_pure ?_)
  refine wpAny_bind (m := Bytes.payload _) (wpAny_of_eq (a := b.toArray) rfl ?_)
  unfold modeB at hb
  simp only [Bool.or_eq_true, beq_iff_eq] at hb
  rcases hb with ((((rfl | rfl) | rfl) | rfl) | rfl) | rfl <;> exact wpAny_pure (wpAny_bind (wpAny_rule (wpAny_bind (wpAny_mkInt (wpAny_pure ⟨_, rfl, hq⟩)))))
end Mine


section
open PySem PySem.W PySem.Calls PyProof.Rows PySem.Spec PySem.Builtin
namespace Mine
section
variable {prog : Program} {w : World} {A : Around} {E : Value → Shared → Prop} {s : Shared}
theorem noIndex_bytes : typeLookup (.type "bytes") "__index__" = pure none := by rw [typeLookup_type, builtinLookup_eq_fast]; kernel_rfl
theorem asIndex_bytes {b : Array UInt8} {t : Tok} {Q : Int → Shared → Prop} (hh : A.handled = none) (h : ∀ h' tk e, (∀ b o, s.heap.get? b = some o → h'.get? b = some o) → E (.ref e) { s with heap := h', toks := tk }) : wpAny (model prog w) A (asIndex (.bytes b t)) Q E s := by
  unfold asIndex
  refine wpAny_bind (m := asInt? _) (wpAny_of_eq (a := none) rfl ?_)
  refine wpAny_bind (m := callSpecial? (.bytes b t) "__index__") ?_
  unfold callSpecial?
  refine wpAny_bind (wpAny_specialOf (typeIs_bytes s b t) noIndex_bytes ?_)
  refine wpAny_pure ?_
  refine wpAny_bind (m := typeNameOfCut 200 (.bytes b t)) (wpAny_of_eq (a := "bytes") (by kernel_rfl) ?_)
  exact wpAny_raiseTypeError hh (fun h' tk e x => h h' tk e x.keeps) (by rw [sizeLine_eq]; decide +kernel)
theorem bcontains_bytes {b : List UInt8} {c : UInt8} {t u : Tok} {Q : Bool → Shared → Prop} (hh : A.handled = none) (hc : c = 107 ∨ c = 118) (hb : modeB b = true)
    (h : ∀ h' tk, (∀ b o, s.heap.get? b = some o → h'.get? b = some o) → Q (b.contains c) { s with heap := h', toks := tk }) : wpAny (model prog w) A (contains (.bytes b.toArray t) (.bytes [c].toArray u)) Q E s := by
  refine wpAny_contains_slot (typeIs_bytes s b.toArray t) FB.slot_bytes_contains (wpAny_call_entry FB.slot_bytes_contains (typeIs_bytes s b.toArray t) FB.entry_bytes_contains ?_ (FB.args_bytes_contains_2 _ _))
  unfold Builtin.«bytes.__contains__»
  refine wpAny_bind (m := slotArgs _ _ _) (wpAny_of_eq (a := (Value.bytes b.toArray t, [Value.bytes [c].toArray u])) rfl ?_)
  refine wpAny_bind ?_
  unfold Bytes.containsIn
  refine wpAny_bind (wpAny_attempt (asIndex_bytes hh fun h' tk e k => ?_))
  refine wpAny_bind (m := Bytes.buffer? _ (Value.bytes b.toArray t)) (wpAny_of_eq KBy.buffer_eq ?_)
  refine wpAny_bind (m := Bytes.buffer? _ (Value.bytes [c].toArray u)) (wpAny_of_eq KBy.buffer_eq ?_)
  refine wpAny_bind (wpAny_rule (wpAny_pure (wpAny_pure ⟨_, rfl, wpAny_truthy_bool ?_⟩)))
  have e : (Bytes.find? b.toArray [c].toArray 0 b.toArray.size).isSome = b.contains c := by
    unfold modeB at hb
    simp only [Bool.or_eq_true, beq_iff_eq] at hb
    rcases hc with rfl | rfl <;> rcases hb with ((((rfl | rfl) | rfl) | rfl) | rfl) | rfl <;> decide +kernel
  rw [e]
  exact h h' tk k
theorem bcontains_int {b : List UInt8} {i : Int} {t u : Tok} {Q : Bool → Shared → Prop} (hc : i = 107 ∨ i = 118) (hb : modeB b = true)
    (h : Q (b.any fun x => x.toNat == i.toNat) s) : wpAny (model prog w) A (contains (.bytes b.toArray t) (.int i u)) Q E s := by
  refine wpAny_contains_slot (typeIs_bytes s b.toArray t) FB.slot_bytes_contains (wpAny_call_entry FB.slot_bytes_contains (typeIs_bytes s b.toArray t) FB.entry_bytes_contains ?_ (FB.args_bytes_contains_2 _ _))
  unfold Builtin.«bytes.__contains__»
  refine wpAny_bind (m := slotArgs _ _ _) (wpAny_of_eq (a := (Value.bytes b.toArray t, [Value.int i u])) rfl ?_)
  refine wpAny_bind ?_
  unfold Bytes.containsIn
  refine wpAny_bind (wpAny_attempt ?_)
  unfold asIndex
  refine wpAny_bind (m := asInt? _) (wpAny_of_eq (a := some i) rfl ?_)
  refine wpAny_pure ?_
  refine wpAny_bind (m := Bytes.buffer? _ (Value.bytes b.toArray t)) (wpAny_of_eq KBy.buffer_eq ?_)
  have e : b.toArray.contains i.toNat.toUInt8 = b.any fun x => x.toNat == i.toNat := by
    unfold modeB at hb
    simp only [Bool.or_eq_true, beq_iff_eq] at hb
    rcases hc with rfl | rfl <;> rcases hb with ((((rfl | rfl) | rfl) | rfl) | rfl) | rfl <;> decide +kernel
  rw [← e] at h
  rcases hc with rfl | rfl <;> exact wpAny_pure (wpAny_pure ⟨_, rfl, wpAny_truthy_bool h⟩)
theorem scontains {b : List Nat} {c : Nat} {t u : Tok} {Q : Bool → Shared → Prop} (hc : c = 107 ∨ c = 118) (hb : modeS b = true)
    (h : Q (b.contains c) s) : wpAny (model prog w) A (contains (.str ⟨b.toArray⟩ t) (.str ⟨[c].toArray⟩ u)) Q E s := by
  refine wpAny_contains_slot (typeIs_str s _ t) F.slot_str_contains (call_gives F.slot_str_contains (typeIs_str s _ t) F.entry_str_contains (F.args_str_contains_2 _ _) (gives_str_contains _ _ t u) (wpAny_truthy_bool ?_))
  have e : (!(Builtin.Str.occurrences ⟨b.toArray⟩ ⟨[c].toArray⟩ 0 (PySem.Str.length ⟨b.toArray⟩) 1).isEmpty) = b.contains c := by
    unfold modeS at hb
    simp only [Bool.or_eq_true, beq_iff_eq] at hb
    rcases hc with rfl | rfl <;> rcases hb with ((rfl | rfl) | rfl) | rfl <;> decide +kernel
  rw [e]; exact h
end
end Mine


section
open PySem PySem.W PySem.Calls PyProof.Rows PySem.Spec PySem.Builtin
namespace Mine
mutual
noncomputable def pyOf : V → PyData
  | .none => .none
  | .bool b => .bool b
  | .int i => .int i
  | .str s => .str ⟨s.toArray⟩
  | .tup vs => .tuple (pysOf vs)
  | .bytes _ => .none
  | .fn _ => .none
  | .obj _ => .none
noncomputable def pysOf : List V → List PyData
  | [] => []
  | v :: vs => pyOf v :: pysOf vs
end
theorem dat_ind {P : Nat → V → Prop} {Q : Nat → List V → Prop} (h0 : ∀ n, P n .none) (h1 : ∀ n b, P n (.bool b)) (h2 : ∀ n i, P n (.int i)) (h3 : ∀ n (s : List Nat), s.all (· < 1114112) = true → P n (.str s))
    (ht : ∀ n vs, xD n vs = true → Q n vs → P (n + 1) (.tup vs)) (hn : ∀ n, Q n []) (hc : ∀ n v vs, P n v → Q n vs → Q n (v :: vs)) : ∀ n, (∀ v, jM n v = true → P n v) ∧ ∀ vs, xD n vs = true → Q n vs := by
  have all : ∀ n, (∀ v, jM n v = true → P n v) → ∀ vs, xD n vs = true → Q n vs := fun n hp vs => by
    induction vs with
    | nil => exact fun _ => hn n
    | cons v vs ih => exact fun e => hc n v vs (hp v (Bool.and_eq_true_iff.mp e).1) (ih (Bool.and_eq_true_iff.mp e).2)
  intro n
  induction n with
  | zero =>
    have hp : ∀ v, jM 0 v = true → P 0 v := fun v e => by
      cases v with
      | none => exact h0 _
      | bool b => exact h1 _ b
      | int i => exact h2 _ i
      | str s => exact h3 _ s e
      | tup _ => cases e
      | bytes _ => cases e
      | fn _ => cases e
      | obj _ => cases e
    exact ⟨hp, all _ hp⟩
  | succ n ih =>
    have hp : ∀ v, jM (n + 1) v = true → P (n + 1) v := fun v e => by
      cases v with
      | none => exact h0 _
      | bool b => exact h1 _ b
      | int i => exact h2 _ i
      | str s => exact h3 _ s e
      | tup vs => exact ht n vs e (ih.2 vs e)
      | bytes _ => cases e
      | fn _ => cases e
      | obj _ => cases e
    exact ⟨hp, all _ hp⟩
section
variable {fa : Nat → Addr} {φ : Phi} {h : Heap}
theorem reads_both (n : Nat) : (∀ v, jM n v = true → ∀ x, VR fa φ h v x → ∃ as, Reads h x (pyOf v) as) ∧ ∀ vs, xD n vs = true → ∀ xs, VRs fa φ h vs xs → ∃ as, ReadsAll h xs (pysOf vs) as :=
  dat_ind (P := fun _ v => ∀ x, VR fa φ h v x → ∃ as, Reads h x (pyOf v) as) (Q := fun _ vs => ∀ xs, VRs fa φ h vs xs → ∃ as, ReadsAll h xs (pysOf vs) as)
    (fun _ x r => by cases r; exact ⟨_, .none⟩) (fun _ b x r => by cases r; exact ⟨_, .bool b⟩) (fun _ i x r => by cases r; exact ⟨_, .int i _⟩) (fun _ s _ x r => by cases r; exact ⟨_, .str _ _⟩)
    (fun n vs _ ih x r => by
      cases r with
      | tup _ as a h1 h2 rs =>
      obtain ⟨bs, q⟩ := ih _ rs
      exact ⟨_, .tuple h1 rfl rfl q⟩)
    (fun _ xs r => by cases r; exact ⟨_, .nil⟩)
    (fun _ v vs p q xs r => by
      cases r with
      | cons a r =>
      obtain ⟨as, q1⟩ := p _ a
      obtain ⟨bs, q2⟩ := q _ r
      exact ⟨_, .cons q1 q2⟩) n
end
theorem lay_both (n : Nat) : (∀ v, jM n v = true → (pyOf v).canLay0 = true ∧ (pyOf v).depth ≤ n) ∧ ∀ vs, xD n vs = true → PyData.canLayAll0 (pysOf vs) = true ∧ PyData.depthAll (pysOf vs) ≤ n :=
  dat_ind (P := fun n v => (pyOf v).canLay0 = true ∧ (pyOf v).depth ≤ n) (Q := fun n vs => PyData.canLayAll0 (pysOf vs) = true ∧ PyData.depthAll (pysOf vs) ≤ n)
    (fun _ => ⟨rfl, Nat.zero_le _⟩) (fun _ _ => ⟨rfl, Nat.zero_le _⟩) (fun _ _ => ⟨rfl, Nat.zero_le _⟩) (fun _ s e => ⟨by show PyData.strOk ⟨s.toArray⟩ = true; unfold PyData.strOk; simpa using e, Nat.zero_le _⟩)
    (fun n vs _ ih => ⟨ih.1, Nat.succ_le_succ ih.2⟩) (fun _ => ⟨rfl, Nat.zero_le _⟩) (fun _ v vs p q => ⟨Bool.and_eq_true_iff.mpr ⟨p.1, q.1⟩, Nat.max_le.mpr ⟨p.2, q.2⟩⟩) n
theorem strB (s t : List Nat) : ((⟨s.toArray⟩ : PySem.Str) == ⟨t.toArray⟩) = (s == t) := by
  by_cases e : s = t
  · subst e; rw [beq_self_eq_true, beq_self_eq_true]
  · rw [beq_false_of_ne e, beq_false_of_ne]
    intro z; apply e
    exact congrArg (fun x => x.cps.toList) z
theorem eqv_both (n : Nat) : (∀ a, jM n a = true → ∀ m b, jM m b = true → PyData.eqv (pyOf a) (pyOf b) = eqB a b) ∧ ∀ as, xD n as = true → ∀ m bs, xD m bs = true → PyData.eqvAll (pysOf as) (pysOf bs) = eqBs as bs := by
  refine dat_ind (P := fun _ a => ∀ m b, jM m b = true → PyData.eqv (pyOf a) (pyOf b) = eqB a b) (Q := fun _ as => ∀ m bs, xD m bs = true → PyData.eqvAll (pysOf as) (pysOf bs) = eqBs as bs)
    (fun _ m b hb => ?_) (fun _ a m b hb => ?_) (fun _ a m b hb => ?_) (fun _ a _ m b hb => ?_) (fun n as _ ih m b hb => ?_) (fun _ m bs hb => ?_) (fun _ a as p q m bs hb => ?_) n
  · cases b <;> first | rfl | (cases m <;> cases hb)
  · cases b <;> first | rfl | (cases m <;> cases hb)
  · cases b <;> first | rfl | (cases m <;> cases hb)
  · cases b <;> first | exact strB _ _ | rfl | (cases m <;> cases hb)
  · cases b with
    | tup bs => cases m with
      | zero => cases hb
      | succ m => exact ih m bs hb
    | none => rfl
    | bool _ => rfl
    | int _ => rfl
    | str _ => rfl
    | bytes _ => cases m <;> cases hb
    | fn _ => cases m <;> cases hb
    | obj _ => cases m <;> cases hb
  · cases bs <;> rfl
  · cases bs with
    | nil => rfl
    | cons b bs =>
      show (PyData.eqv (pyOf a) (pyOf b) && PyData.eqvAll (pysOf as) (pysOf bs)) = (eqB a b && eqBs as bs)
      rw [p m b (Bool.and_eq_true_iff.mp hb).1, q m bs (Bool.and_eq_true_iff.mp hb).2]
section
variable {G : Gd} {cx : Scope} {n : Nat}
theorem listReads {φ : Phi} {h : Heap} {a : Addr} {xs : List V} {vs : List Value} {m : Nat} {fa : Nat → Addr} (ho : h.get? a = some (listO vs m)) (r : VRs fa φ h xs vs) (hd : xD 3 xs = true) : ∃ as, Reads h (.ref a) (.list (pysOf xs)) as := by
  obtain ⟨as, q⟩ := (reads_both 3).2 _ hd _ r
  exact ⟨_, .list ho rfl rfl q⟩
set_option tactic.hygienic true in
theorem eqO_cases {P : V → V → Bool → Prop} {x y : V} {σ : H} {c : Bool} (hm : eqO x y σ = some c) (h1 : ∀ i j xs ys, listAt σ (.obj i) = some xs → listAt σ (.obj j) = some ys → xD 3 xs = true ∧ xD 3 ys = true → P (.obj i) (.obj j) (eqBs xs ys))
    (h2 : ∀ a b, P (.int a) (.int b) (a == b)) (h3 : ∀ a b, P (.bool a) (.bool b) (a == b)) (h4 : ∀ a b, P (.bytes a) (.bytes b) (a == b)) : P x y c := by
  cases x with
  | obj i =>
    cases y <;> first | (cases hm; done) | skip
    rename_i j
    replace hm : (match listAt σ (.obj i), listAt σ (.obj j) with | some xs, some ys => if xD 3 xs && xD 3 ys then some (eqBs xs ys) else .none | _, _ => .none : Option Bool) = some c := hm
    cases e1 : listAt σ (.obj i) with
    | none => rw [e1] at hm; cases hm
    | some xs =>
      cases e2 : listAt σ (.obj j) with
      | none => rw [e1, e2] at hm; cases hm
      | some ys =>
        rw [e1, e2] at hm
        by_cases hp : (xD 3 xs && xD 3 ys) = true
        · dsimp only at hm; rw [if_pos hp] at hm; cases hm; exact h1 _ _ _ _ e1 e2 (Bool.and_eq_true_iff.mp hp)
        · dsimp only at hm; rw [if_neg hp] at hm; cases hm
  | int a => cases y with
    | int b => cases hm; exact h2 _ _
    | _ => cases hm
  | bool a => cases y with
    | bool b => cases hm; exact h3 _ _
    | _ => cases hm
  | bytes a => cases y with
    | bytes b => cases hm; exact h4 _ _
    | _ => cases hm
  | _ => cases hm
theorem eqO_some {x y : V} {a b : Value} {φ : Phi} {σ : H} {s : Shared} {A : Around} {c : Bool} (rm : Room n A) (hr : HR G φ σ s.heap) (rx : VR G.fa φ s.heap x a) (ry : VR G.fa φ s.heap y b) (hm : eqO x y σ = some c) {E : Value → Shared → Prop} {Q : Value → Shared → Prop} :
    (Q (.bool c) s → wpAny (model G.prog G.w) A (compareOp .Eq a b) Q E s) ∧ (Q (.bool (!c)) s → wpAny (model G.prog G.w) A (compareOp .NotEq a b) Q E s) := by
  have hu := rm.units
  have main : ∀ (c : Bool) (da db : PyData) (as bs : List Addr), Reads s.heap a da as → Reads s.heap b db bs → da.canLay0 = true → db.canLay0 = true → da.depth ≤ 4 → PyData.eqv da db = c →
      (Q (.bool c) s → wpAny (model G.prog G.w) A (compareOp .Eq a b) Q E s) ∧ (Q (.bool (!c)) s → wpAny (model G.prog G.w) A (compareOp .NotEq a b) Q E s)   := fun c da db as bs ra rb la lb hd e => by
    have : min da.depth db.depth ≤ 4 := Nat.le_trans (Nat.min_le_left _ _) hd
    subst e
    exact ⟨fun q => SeqAt.compareEq_reads ra rb la lb (by omega) q, fun q => SeqAt.compareNe_reads ra rb la lb (by omega) q⟩
  revert rx ry
  refine eqO_cases (P := fun x y c => VR G.fa φ s.heap x a → VR G.fa φ s.heap y b → (Q (.bool c) s → wpAny (model G.prog G.w) A (compareOp .Eq a b) Q E s) ∧ (Q (.bool (!c)) s → wpAny (model G.prog G.w) A (compareOp .NotEq a b) Q E s)) hm ?_ ?_ ?_ ?_
  · intro i j xs ys e1 e2 hd rx ry
    obtain ⟨i1, p1, vs1, n1, -, -, hp1, rfl, -, ho1, r1⟩ := hr.listAt rx e1
    obtain ⟨i2, p2, vs2, n2, -, -, hp2, rfl, -, ho2, r2⟩ := hr.listAt ry e2
    obtain ⟨as, ra⟩ := listReads ho1 r1 hd.1
    obtain ⟨bs, rb⟩ := listReads ho2 r2 hd.2
    exact main _ _ _ _ _ ra rb ((lay_both 3).2 _ hd.1).1 ((lay_both 3).2 _ hd.2).1 (Nat.succ_le_succ ((lay_both 3).2 _ hd.1).2) ((eqv_both 3).2 _ hd.1 3 _ hd.2)
  · intro i j rx ry; cases rx; cases ry
    exact main _ _ _ _ _ (.int _ _) (.int _ _) rfl rfl (Nat.zero_le _) rfl
  · intro i j rx ry; cases rx; cases ry
    exact main _ _ _ _ _ (.bool _) (.bool _) rfl rfl (Nat.zero_le _) rfl
  · intro i j rx ry; cases rx; cases ry
    exact ⟨fun q => eq_bytes (by simpa using q), fun q => ne_bytes (by simpa [bne] using q)⟩
theorem cmp_eq : CmpOK G n .Eq := by
  intro φ h x y a b rx ry A σ s Q E v σ' eh rm hr hm q
  subst eh
  obtain ⟨c, hc, e⟩ := Option.map_eq_some_iff.mp hm
  cases e
  exact (eqO_some rm hr rx ry hc).1 (q _ φ s.heap s.toks (.refl ..) hr rfl)
theorem cmp_ne : CmpOK G n .NotEq := by
  intro φ h x y a b rx ry A σ s Q E v σ' eh rm hr hm q
  subst eh
  obtain ⟨c, hc, e⟩ := Option.map_eq_some_iff.mp hm
  cases e
  dsimp only [cmOf, cmpO] at hc
  obtain ⟨d, hd, e⟩ := Option.map_eq_some_iff.mp hc
  cases e
  exact (eqO_some rm hr rx ry hd).2 (q _ φ s.heap s.toks (.refl ..) hr rfl)
theorem ints_are {φ : Phi} {h : Heap} {fa : Nat → Addr} : ∀ {vs : List V} {as : List Value} {ns : List Int}, VRs fa φ h vs as → intsOf vs = some ns → IntsAre as ns
  | [], _, _, r, e => by cases r; cases e; exact .nil
  | v :: vs, _, _, r, e => by
    cases r with
    | cons a r =>
    cases v <;> first | (cases e; done) | skip
    obtain ⟨ms, e1, e2⟩ := Option.map_eq_some_iff.mp e
    cases e2
    cases a
    exact .cons _ _ (ints_are r e1)
set_option tactic.hygienic true in
theorem inO_cases {P : V → V → Bool → Prop} {x y : V} {σ : H} {c : Bool} (hm : inO x y σ = some c) (h1 : ∀ u w, (u = 107 ∨ u = 118) ∧ modeB w = true → P (.bytes [u]) (.bytes w) (w.contains u))
    (h2 : ∀ k w, (k = 107 ∨ k = 118) ∧ modeB w = true → P (.int k) (.bytes w) (w.any fun u => u.toNat == k.toNat)) (h3 : ∀ u w, (u = 107 ∨ u = 118) ∧ modeS w = true → P (.str [u]) (.str w) (w.contains u))
    (h4 : ∀ k vs ns, intsOf vs = some ns → P (.int k) (.tup vs) (ns.any (· == k))) (h5 : ∀ us i vs, listAt σ (.obj i) = some vs → (jM 3 (.tup us) && xD 3 vs) = true → P (.tup us) (.obj i) (vs.any fun y => eqB y (.tup us))) : P x y c := by
  have ite : ∀ {p : Prop} [Decidable p] {b : Bool}, (if p then some b else .none) = some c → p ∧ b = c := fun {p _ b} h => by
    by_cases hp : p
    · rw [if_pos hp] at h; cases h; exact ⟨hp, rfl⟩
    · rw [if_neg hp] at h; cases h
  cases x with
  | bytes l =>
    cases l with
    | nil => cases y <;> cases hm
    | cons u t => cases t with
      | cons _ _ => cases y <;> cases hm
      | nil =>
        cases y <;> first | (cases hm; done) | skip
        obtain ⟨e, rfl⟩ := ite hm
        exact h1 _ _ e
  | str l =>
    cases l with
    | nil => cases y <;> cases hm
    | cons u t => cases t with
      | cons _ _ => cases y <;> cases hm
      | nil =>
        cases y <;> first | (cases hm; done) | skip
        obtain ⟨e, rfl⟩ := ite hm
        exact h3 _ _ e
  | int k =>
    cases y with
    | bytes w =>
      obtain ⟨e, rfl⟩ := ite hm
      exact h2 _ _ e
    | tup vs =>
      obtain ⟨ns, e1, rfl⟩ := Option.map_eq_some_iff.mp hm
      exact h4 _ _ _ e1
    | _ => cases hm
  | tup us =>
    cases y <;> first | (cases hm; done) | skip
    rename_i i
    replace hm : (match listAt σ (.obj i) with | some vs => if jM 3 (.tup us) && xD 3 vs then some (vs.any fun y => eqB y (.tup us)) else .none | .none => .none : Option Bool) = some c := hm
    cases e1 : listAt σ (.obj i) with
    | none => rw [e1] at hm; cases hm
    | some vs =>
      rw [e1] at hm
      obtain ⟨e, rfl⟩ := ite hm
      exact h5 _ _ _ e1 e
  | _ => cases hm
theorem inO_via {a b : Value} {φ : Phi} {σ : H} {s : Shared} {A : Around} {c : Bool} {E : Value → Shared → Prop} {Q : Value → Shared → Prop} (H : ∀ (P : Bool → Shared → Prop), (∀ h' tk, Step φ s.heap φ h' → HR G φ σ h' → P c { s with heap := h', toks := tk }) → wpAny (model G.prog G.w) A (contains b a) P E s) :
    ((∀ h' tk, Step φ s.heap φ h' → HR G φ σ h' → Q (.bool c) { s with heap := h', toks := tk }) → wpAny (model G.prog G.w) A (compareOp .In a b) Q E s) ∧ ((∀ h' tk, Step φ s.heap φ h' → HR G φ σ h' → Q (.bool (!c)) { s with heap := h', toks := tk }) → wpAny (model G.prog G.w) A (compareOp .NotIn a b) Q E s) :=
  ⟨fun q => show wpAny _ _ (do return .bool (← contains b a)) Q E s from wpAny_bind (H _ fun h' tk st hr' => wpAny_pure (q h' tk st hr')),
    fun q => show wpAny _ _ (do return .bool (!(← contains b a))) Q E s from wpAny_bind (H _ fun h' tk st hr' => wpAny_pure (q h' tk st hr'))⟩
theorem inO_some {x y : V} {a b : Value} {φ : Phi} {σ : H} {s : Shared} {A : Around} {c : Bool} (rm : Room n A) (hr : HR G φ σ s.heap) (rx : VR G.fa φ s.heap x a) (ry : VR G.fa φ s.heap y b) (hm : inO x y σ = some c) {E : Value → Shared → Prop} {Q : Value → Shared → Prop} :
    ((∀ h' tk, Step φ s.heap φ h' → HR G φ σ h' → Q (.bool c) { s with heap := h', toks := tk }) → wpAny (model G.prog G.w) A (compareOp .In a b) Q E s) ∧ ((∀ h' tk, Step φ s.heap φ h' → HR G φ σ h' → Q (.bool (!c)) { s with heap := h', toks := tk }) → wpAny (model G.prog G.w) A (compareOp .NotIn a b) Q E s) := by
  have hu := rm.units
  revert rx ry
  refine inO_cases (P := fun x y c => VR G.fa φ s.heap x a → VR G.fa φ s.heap y b → ((∀ h' tk, Step φ s.heap φ h' → HR G φ σ h' → Q (.bool c) { s with heap := h', toks := tk }) → wpAny (model G.prog G.w) A (compareOp .In a b) Q E s) ∧ ((∀ h' tk, Step φ s.heap φ h' → HR G φ σ h' → Q (.bool (!c)) { s with heap := h', toks := tk }) → wpAny (model G.prog G.w) A (compareOp .NotIn a b) Q E s)) hm ?_ ?_ ?_ ?_ ?_
  · intro u w hc rx ry
    cases rx; cases ry
    exact inO_via fun P q => bcontains_bytes rm.hd hc.1 hc.2 fun h' tk k => q h' tk (.keeps k) (hr.keeps k)
  · intro k w hc rx ry
    cases rx; cases ry
    exact inO_via fun P q => bcontains_int hc.1 hc.2 (q s.heap s.toks (.refl ..) hr)
  · intro u w hc rx ry
    cases rx; cases ry
    exact inO_via fun P q => scontains hc.1 hc.2 (q s.heap s.toks (.refl ..) hr)
  · intro k vs ns e1 rx ry
    cases rx
    cases ry with
    | tup _ as a ha hn r =>
    exact inO_via fun P q => contains_tuple_ints (items := as.toArray) ⟨_, ha, rfl, 0, rfl⟩ (by simpa using ints_are r e1) (q s.heap s.toks (.refl ..) hr)
  · intro us i vs e1 hd rx ry
    rw [Bool.and_eq_true] at hd
    obtain ⟨i2, p2, vs2, n2, -, -, hp2, rfl, -, ho2, r2⟩ := hr.listAt ry e1
    obtain ⟨as, ra⟩ := listReads ho2 r2 hd.2
    obtain ⟨bs, rb⟩ := (reads_both 3).1 _ hd.1 _ rx
    have l1 := (lay_both 3).2 _ hd.2
    have l2 := (lay_both 3).1 _ hd.1
    have hmin : min (PyData.depthAll (pysOf vs)) (pyOf (.tup us)).depth ≤ 3 := Nat.le_trans (Nat.min_le_left _ _) l1.2
    have e : ((pysOf vs).any fun y => PyData.eqv y (pyOf (.tup us))) = vs.any fun y => eqB y (.tup us) := by
      have : ∀ ws : List V, xD 3 ws = true → ((pysOf ws).any fun y => PyData.eqv y (pyOf (.tup us))) = ws.any fun y => eqB y (.tup us) := by
        intro ws
        induction ws with
        | nil => intro _; rfl
        | cons u ws ih =>
          intro hu
          have hu := Bool.and_eq_true_iff.mp hu
          show (PyData.eqv (pyOf u) (pyOf (.tup us)) || _) = (eqB u (.tup us) || _)
          rw [ih hu.2, (eqv_both 3).1 _ hu.1 3 _ hd.1]
      exact this vs hd.2
    exact ⟨fun q => SeqAt.in_list_reads ra rb l1.1 l2.1 (by omega) (by rw [e]; exact q s.heap s.toks (.refl ..) hr), fun q => SeqAt.notIn_list_reads ra rb l1.1 l2.1 (by omega) (by rw [e]; exact q s.heap s.toks (.refl ..) hr)⟩
theorem cmp_in : CmpOK G n .In := by
  intro φ h x y a b rx ry A σ s Q E v σ' eh rm hr hm q
  subst eh
  obtain ⟨c, hc, e⟩ := Option.map_eq_some_iff.mp hm
  cases e
  exact (inO_some rm hr rx ry hc).1 fun h' tk st hr' => q _ φ h' tk st hr' rfl
theorem cmp_notin : CmpOK G n .NotIn := by
  intro φ h x y a b rx ry A σ s Q E v σ' eh rm hr hm q
  subst eh
  obtain ⟨c, hc, e⟩ := Option.map_eq_some_iff.mp hm
  cases e
  dsimp only [cmOf, cmpO] at hc
  obtain ⟨d, hd, e⟩ := Option.map_eq_some_iff.mp hc
  cases e
  exact (inO_some rm hr rx ry hd).2 fun h' tk st hr' => q _ φ h' tk st hr' rfl
end
end Mine


section
open PySem PySem.W PySem.Calls PyProof.Rows PySem.Spec PySem.Builtin
namespace Mine
theorem ints_pairs {as : List Value} {ns : List Int} (h : IntsAre as ns) : ∃ l : List (Int × Tok), as = l.map (fun p => .int p.1 p.2) ∧ ns = l.map (·.1) := by
  induction h with
  | nil => exact ⟨[], rfl, rfl⟩
  | cons n t _ ih => obtain ⟨l, e1, e2⟩ := ih; exact ⟨(n, t) :: l, by rw [e1]; rfl, by rw [e2]; rfl⟩
theorem pre_sum (l : List (Int × Tok)) : ∀ k, k ≤ l.length → preSum (numAt l.toArray) k = ((l.take k).map (·.1)).sum
  | 0, _ => by simp [preSum]
  | k + 1, h => by
    have hk : k < l.length := h
    rw [preSum, pre_sum l k (Nat.le_of_lt hk), List.take_add_one, List.map_append, List.sum_append]
    simp [numAt, hk]
section
variable {G : Gd} {cx : Scope} {n : Nat}
variable {e : PySem.Expr} {c : Ex V} {p pos : Pos} {i : Nat} (h1 : yE G cx n (eval e) c (VRG G)) (hs : ∀ env, starEach [e] env = [(false, eval e env)])
include h1 hs
theorem sim_sum (hx : xU cx.names "sum" = some (i, .globalImplicit)) (he : nsIn G.K mainGlobals "sum" = some none) : yE G cx n (eval (.Call (.Name "sum" p) [e] [] pos)) (sumE c) (VRG G) := by
  have := sim_bui1 (p := p) (pos := pos) (R := VRG G) (g := fun v σ => (((listAt σ v).bind intsOf).map fun ns => V.int ns.sum).map fun z => (z, σ)) h1 hs (.inl ⟨"sum", rfl⟩) (fun φ h v a r => by
    intro A σ s Q E b σ' eh rm hr hm q
    subst eh
    obtain ⟨z, e0, e⟩ := Option.map_eq_some_iff.mp hm
    cases e
    obtain ⟨ns, e1, e⟩ := Option.map_eq_some_iff.mp e0
    cases e
    obtain ⟨xs, e2, e3⟩ := Option.bind_eq_some_iff.mp e1
    obtain ⟨i', pp, vs, m, ei, hs', hp', rfl, -, ho, rs⟩ := hr.listAt r e2
    obtain ⟨l, e4, e5⟩ := ints_pairs (ints_are rs e3)
    subst e4
    have hl : s.heap.IsList pp.1 (intItems l.toArray) := by
      have := xP ho
      rwa [show (l.map fun p => Value.int p.1 p.2).toArray = intItems l.toArray by simp [intItems]] at this
    refine sum_intListG rm.hd hl fun h' tk t' k => ?_
    rw [show preSum (numAt l.toArray) l.toArray.size = ns.sum by rw [List.size_toArray, pre_sum l _ (Nat.le_refl _), List.take_length, e5]]
    exact q _ φ h' tk (.keeps k) (hr.keeps k) (.int _ _)) hx he (by decide +kernel) (by decide) (by decide)
  unfold sumE
  simpa only [readE_lift] using this
set_option tactic.hygienic true in
theorem sim_repr (hx : xU cx.names "repr" = some (i, .globalImplicit)) (he : nsIn G.K mainGlobals "repr" = some none) : yE G cx n (eval (.Call (.Name "repr" p) [e] [] pos)) (reprE c) (VRG G) := by
  have := sim_bui1 (p := p) (pos := pos) (R := VRG G) (g := fun v σ => ((reprO v).map V.str).map fun z => (z, σ)) h1 hs (.inl ⟨"repr", rfl⟩) (fun φ h v a r => by
    intro A σ s Q E b σ' eh rm hr hm q
    subst eh
    obtain ⟨z, e0, e⟩ := Option.map_eq_some_iff.mp hm
    cases e
    obtain ⟨l, e1, e⟩ := Option.map_eq_some_iff.mp e0
    cases e
    unfold reprO at e1
    split at e1
    · rename_i k
      cases r with
      | int _ t =>
      repeat' split at e1
      all_goals first
        | (cases e1; done)
        | (subst_vars; cases e1; refine P.repr_of_int (by decide) ?_; exact q _ φ s.heap _ (.refl ..) hr (.str _ _))
    · cases r; cases e1
      refine P.repr_of_bool ?_
      exact q _ φ s.heap _ (.refl ..) hr (.str _ _)
    · rename_i b
      cases r with
      | bytes _ t =>
      repeat' split at e1
      · subst_vars; cases e1
        exact call_repr_gives (typeIs_bytes s _ t) slot_brepr entry_brepr (args_brepr _) (gives_brepr_k t) (q _ φ s.heap _ (.refl ..) hr (.str _ _)) rfl (wO (by decide))
      · subst_vars; cases e1
        exact call_repr_gives (typeIs_bytes s _ t) slot_brepr entry_brepr (args_brepr _) (gives_brepr_tail t) (q _ φ s.heap _ (.refl ..) hr (.str _ _)) rfl (wO (by decide))
      · subst_vars; cases e1
        exact call_repr_gives (typeIs_bytes s _ t) slot_brepr entry_brepr (args_brepr _) (gives_brepr_text t) (q _ φ s.heap _ (.refl ..) hr (.str _ _)) rfl (wO (by decide))
      · cases e1
    · cases e1) hx he (by decide +kernel) (by decide) (by decide)
  unfold reprE
  simpa only [readE_lift] using this
end
end Mine


section
open PySem PySem.W PySem.Calls PyProof.Rows PySem.Spec PySem.Builtin
namespace Mine
noncomputable def asciiT : PySem.Str := ⟨[97, 115, 99, 105, 105].toArray⟩
theorem gives_enc {x : List Nat} (t u : Tok) (hx : modeS x = true) : Gives («str.encode» ⟨[.str ⟨x.toArray⟩ t, .str asciiT u], []⟩) (.bytes (x.map UInt8.ofNat).toArray) := by
  unfold modeS at hx
  simp only [Bool.or_eq_true, beq_iff_eq] at hx
  rcases hx with ((rfl | rfl) | rfl) | rfl <;> exact .of_eq (by kernel_rfl)
section
variable {G : Gd} {cx : Scope} {n : Nat}
theorem bm_call {β : Type} {o : PySem.Expr} {nm : PySem.Str} {apos pos : Pos} {a : Ex V} {es : List PySem.Expr} {cs : List (Ex V)} {id : String} {k : V → Ex β} {k2 : V → List V → Ex β} {pl : Env → Sem Bool} (h1 : yE G cx n (eval o) a (VRG G)) (ha : Args G cx n es cs)
    (hg : ∀ {A : Around} {φ : Phi} {σ : H} {s : Shared} {Q : Value × List Value → Shared → Prop} {E : Value → Shared → Prop} {v : V} {x : Value} {ρ : Rho} {b : β} {σ' : H} {env : Env}, HR G φ σ s.heap → VR G.fa φ s.heap v x → k v ρ σ = some (b, σ') → Q (.builtin id, [x]) s → wpAny (model G.prog G.w) A (getMethod x nm (pl env)) Q E s)
    (hk : ∀ {v : V} {ρ : Rho} {σ : H} {b : β} {σ' : H}, k v ρ σ = some (b, σ') → yD (seqE cs) (k2 v) ρ σ = some (b, σ'))
    (heq : ∀ env, eval (.Call (.Attribute o nm apos) es [] pos) env = (do
      let ov ← eval o env
      standAt apos.atName
      let (f, first) ← holding [ov] (getMethod ov nm (pl env))
      callWith pos f first (backTo pos (starEach es env)) (backToKw pos (keywordEach [] env))))
    {A : Around} {env : Env} {φ : Phi} {ρ : Rho} {σ σ' : H} {b : β} {s : Shared} {Q : Value → Shared → Prop} {E : Value → Shared → Prop} (rm : Room n A) (er : EnvR G cx env φ ρ s.heap) (hr : HR G φ σ s.heap) (hm : yD a k ρ σ = some (b, σ'))
    (q : ∀ v x vs as φ' σ₁ h' tk, Step φ s.heap φ' h' → HR G φ' σ₁ h' → VR G.fa φ' h' v x → VRs G.fa φ' h' vs as → k2 v vs ρ σ₁ = some (b, σ') → wpAny (model G.prog G.w) A (call (.builtin id) (x :: as)) Q E { s with heap := h', toks := tk }) :
    wpAny (model G.prog G.w) A (eval (.Call (.Attribute o nm apos) es [] pos) env) Q E s := by
  refine methodCall_KW (pl := pl env) (yO h1 rm er hr hm fun x x' φ₁ σ₁ h₁ tk₁ st₁ er₁ hr₁ r₁ hm₁ => ?_) (heq env)
  refine hg hr₁ r₁ hm₁ ?_
  refine Calls.callWith_builtin (ha.plain pos env) (ha.eval (yO ha.sim rm er₁ hr₁ (hk hm₁) fun as vs φ₂ σ₂ h₂ tk₂ st₂ er₂ hr₂ r₂ hm₂ => ?_))
  exact q x' x vs as φ₂ σ₂ h₂ tk₂ (st₁.trans st₂) hr₂ (r₁.step st₂) r₂ hm₂
theorem get_list {nm : PySem.Str} {id : String} {pl : Sem Bool} {A : Around} {φ : Phi} {σ : H} {s : Shared} {Q : Value × List Value → Shared → Prop} {E : Value → Shared → Prop} {v : V} {x : Value} (xU : Slot "list" nm id) (hty : typeOf (.builtin id) = pure (.type "method_descriptor"))
    (hr : HR G φ σ s.heap) (r : VR G.fa φ s.heap v x) {xs : List V} (hl : listAt σ v = some xs) (q : Q (.builtin id, [x]) s) : wpAny (model G.prog G.w) A (getMethod x nm pl) Q E s := by
  obtain ⟨i1, p1, vs1, n1, -, -, hp1, rfl, -, ho1, r1⟩ := hr.listAt r hl
  exact getMethod_list_of xU (xP ho1) q (hty := hty) (hd := ⟨_, ho1, rfl⟩)
section
variable {o e : PySem.Expr} {a c : Ex V} {apos pos : Pos} {pl : Env → Sem Bool} (h1 : yE G cx n (eval o) a (VRG G)) (h2 : yE G cx n (eval e) c (VRG G)) (hs : ∀ env, starEach [e] env = [(false, eval e env)])
include h1 h2 hs
set_option tactic.hygienic true in
theorem sim_append (heq : ∀ env, eval (.Call (.Attribute o "append" apos) [e] [] pos) env = (do
      let ov ← eval o env
      standAt apos.atName
      let (f, first) ← holding [ov] (getMethod ov "append" (pl env))
      callWith pos f first (backTo pos (starEach [e] env)) (backToKw pos (keywordEach [] env)))) : yE G cx n (eval (.Call (.Attribute o "append" apos) [e] [] pos)) (xZ a c) (VRG G) := by
  intro A env φ ρ σ s Q E v σ' rm er hr hm q
  unfold xZ at hm
  refine bm_call (id := "list.append") (k2 := fun x vs => match vs with
      | [y] => jL fun σ => match x with
        | .obj i => if i = 0 then .none else match listAt σ x with
          | some xs => if okLen (xs ++ [y]) then some (V.none, σ.set i (.list (xs ++ [y]))) else .none
          | _ => .none
        | _ => .none
      | _ => noE) h1 (.cons h2 (fun env => by rw [hs env]; rfl) .nil) ?_ ?_ heq rm er hr hm ?_
  · intro A φ σ s Q E v x ρ b σ' env hr r hm q
    obtain ⟨_, σ₁, e1, hm⟩ := xY hm
    unfold isL at e1
    obtain ⟨e1, rfl⟩ := xH e1
    obtain ⟨xs, e2, -⟩ := Option.map_eq_some_iff.mp e1
    exact get_list F.slot_list_append F.type_list_append hr r e2 q
  · intro v ρ σ b σ' hm
    obtain ⟨_, σ₁, e1, hm2⟩ := xY hm
    unfold isL at e1
    obtain ⟨_, e3⟩ := xH e1
    subst e3
    rw [seq1]
    exact hm2
  · intro w x vs as φ' σ₁ h' tk st hr' rw_ rs hm
    split at hm
    · rename_i y
      cases rs with
      | cons r1 rs => cases rs with
        | nil =>
          dsimp only [jL] at hm
          split at hm
          · rename_i i
            split at hm
            · cases hm
            rename_i hi0
            split at hm
            · rename_i xs e1
              split at hm
              · rename_i hok
                cases hm
                obtain ⟨i1, p1, vs1, n1, ei, hs1, hp1, rfl, h2eq, ho1, r1'⟩ := hr'.listAt rw_ e1
                cases ei
                have hlen := of_decide_eq_true hok
                rw [List.length_append, List.length_singleton] at hlen
                refine append_at (s := { s with heap := h', toks := tk }) ho1 (fun h₂ sb ho₂ => ?_) (wO (by rw [List.size_toArray, ← r1'.length]; exact Nat.le_of_lt ‹_›))
                have kt : ∀ v x, VR G.fa φ' h' v x → VR G.fa φ' h₂ v x := fun v x r => r.mono (.refl _) fun b us e nn => ⟨(sb.2 b fun z => by subst z; rw [ho1] at e; exact list_not_tup e).trans e, nn⟩
                have kts : ∀ v x, VRs G.fa φ' h' v x → VRs G.fa φ' h₂ v x := fun v x r => r.mono (.refl _) fun b us e nn => ⟨(sb.2 b fun z => by subst z; rw [ho1] at e; exact list_not_tup e).trans e, nn⟩
                obtain ⟨hr₂, st₂⟩ := hr'.put (m := .list (xs ++ [y])) hi0 hp1 (.inl rfl) sb ⟨h2eq, _, _, by rw [ho₂]; simp; rfl, VRs.append (.cons (kt _ _ r1) .nil) (kts _ _ r1')⟩
                exact q _ φ' h₂ tk (st.trans st₂) hr₂ .none
              · cases hm
            · cases hm
          · cases hm
    · cases hm
set_option tactic.hygienic true in
theorem sim_extend (heq : ∀ env, eval (.Call (.Attribute o "extend" apos) [e] [] pos) env = (do
      let ov ← eval o env
      standAt apos.atName
      let (f, first) ← holding [ov] (getMethod ov "extend" (pl env))
      callWith pos f first (backTo pos (starEach [e] env)) (backToKw pos (keywordEach [] env)))) : yE G cx n (eval (.Call (.Attribute o "extend" apos) [e] [] pos)) (extendE a c) (VRG G) := by
  intro A env φ ρ σ s Q E v σ' rm er hr hm q
  unfold extendE at hm
  refine bm_call (id := "list.extend") (k2 := fun x vs => match vs with
      | [y] => jL fun σ => match x with
        | .obj i => if i = 0 then .none else match listAt σ x, listAt σ y with
          | some xs, some ys => if okLen (xs ++ ys) then some (V.none, σ.set i (.list (xs ++ ys))) else .none
          | _, _ => .none
        | _ => .none
      | _ => noE) h1 (.cons h2 (fun env => by rw [hs env]; rfl) .nil) ?_ ?_ heq rm er hr hm ?_
  · intro A φ σ s Q E v x ρ b σ' env hr r hm q
    obtain ⟨_, σ₁, e1, hm⟩ := xY hm
    unfold isL at e1
    obtain ⟨e1, rfl⟩ := xH e1
    obtain ⟨xs, e2, -⟩ := Option.map_eq_some_iff.mp e1
    exact get_list F.slot_list_extend F.type_list_extend hr r e2 q
  · intro v ρ σ b σ' hm
    obtain ⟨_, σ₁, e1, hm2⟩ := xY hm
    unfold isL at e1
    obtain ⟨_, e3⟩ := xH e1
    subst e3
    rw [seq1]
    exact hm2
  · intro w x vs as φ' σ₁ h' tk st hr' rw_ rs hm
    split at hm
    · rename_i y
      cases rs with
      | cons r1 rs => cases rs with
        | nil =>
          dsimp only [jL] at hm
          split at hm
          · rename_i i
            split at hm
            · cases hm
            rename_i hi0
            split at hm
            · rename_i xs ys e1 e2
              split at hm
              · rename_i hok
                cases hm
                obtain ⟨i1, p1, vs1, n1, ei, hs1, hp1, rfl, h2eq, ho1, r1'⟩ := hr'.listAt rw_ e1
                cases ei
                obtain ⟨i2, p2, vs2, n2, -, -, hp2, rfl, -, ho2, r2'⟩ := hr'.listAt r1 e2
                have hlen := of_decide_eq_true hok
                rw [List.length_append] at hlen
                have hsz : vs1.toArray.size + vs2.toArray.size ≤ sizeLine := wO (by rw [List.size_toArray, List.size_toArray, ← r1'.length, ← r2'.length]; assumption)
                refine call_meets PySem.F.slot_list_extend ⟨_, ho1, rfl⟩ PySem.F.entry_list_extend (PySem.F.args_list_extend_2 _ _) (AutoSeq1.list_extend_list_list_0 p1.1 vs1.toArray n1 p2.1 vs2.toArray n2 (extend_door hsz) (Nat.le_trans (Nat.le_add_right _ _) hsz) (Nat.le_succ_of_le hsz)) ⟨ho1, ho2, ?_⟩
                have ho' : ∃ k, (h'.update p1.1 (Obj.mapSeq fun x => x ++ vs2.toArray)).get? p1.1 = some (listO (vs1 ++ vs2) k) := by
                  rw [Heap.get?_update_self _ ho1 (by rw [mapSeq_app]; rfl), mapSeq_app]
                  exact ⟨_, by simp; rfl⟩
                obtain ⟨k, ho'⟩ := ho'
                have sb : Heap.SameBut p1.1 h' (h'.update p1.1 (Obj.mapSeq fun x => x ++ vs2.toArray)) := Heap.SameBut.update ..
                have kts : ∀ v x, VRs G.fa φ' h' v x → VRs G.fa φ' (h'.update p1.1 (Obj.mapSeq fun x => x ++ vs2.toArray)) v x := fun v x r => r.mono (.refl _) fun b us e nn => ⟨(sb.2 b fun z => by subst z; rw [ho1] at e; exact list_not_tup e).trans e, nn⟩
                obtain ⟨hr₂, st₂⟩ := hr'.put (m := .list (xs ++ ys)) hi0 hp1 (.inl rfl) sb ⟨h2eq, _, _, ho', VRs.append (kts _ _ r2') (kts _ _ r1')⟩
                exact q _ φ' _ tk (st.trans st₂) hr₂ .none
              · cases hm
            · cases hm
          · cases hm
    · cases hm
set_option tactic.hygienic true in
theorem sim_find (heq : ∀ env, eval (.Call (.Attribute o "find" apos) [e] [] pos) env = (do
      let ov ← eval o env
      standAt apos.atName
      let (f, first) ← holding [ov] (getMethod ov "find" (pl env))
      callWith pos f first (backTo pos (starEach [e] env)) (backToKw pos (keywordEach [] env)))) : yE G cx n (eval (.Call (.Attribute o "find" apos) [e] [] pos)) (findE a c) (VRG G) := by
  intro A env φ ρ σ s Q E v σ' rm er hr hm q
  unfold findE at hm
  refine bm_call (id := "bytes.find") (k2 := fun x vs => match x, vs with
      | .bytes b, [.bytes [c]] => if (c == 0) && modeB b then pureE (.int (-1)) else noE
      | _, _ => noE) h1 (.cons h2 (fun env => by rw [hs env]; rfl) .nil) ?_ ?_ heq rm er hr hm ?_
  · intro A φ σ s Q E v x ρ b σ' env hr r hm q
    cases v <;> first | (cases hm; done) | skip
    cases r
    exact getMethod_builtin (typeIs_bytes _ _ _) FB.plainAttrs_bytes slot_bfind type_bfind (fun _ e => nomatch e) q
  · intro v ρ σ b σ' hm
    cases v <;> first | (cases hm; done) | skip
    rw [seq1, ← hm]
    dsimp only
    congr 1
    funext y
    cases y <;> try rfl
    rename_i l
    rcases l with _ | ⟨u, _ | ⟨w, r⟩⟩ <;> rfl
  · intro w x vs as φ' σ₁ h' tk st hr' rw_ rs hm
    split at hm
    · rename_i b u
      split at hm
      · rename_i hc
        rw [Bool.and_eq_true] at hc
        obtain rfl := beq_iff_eq.mp hc.1
        cases hm
        cases rw_ with
        | bytes _ t =>
        cases rs with
        | cons r1 rs => cases rs with
          | nil => cases r1 with
            | bytes _ t2 =>
            exact call_gives slot_bfind (typeIs_bytes _ _ _) entry_bfind (args_bfind _ _) (gives_bfind t t2 hc.2) (q _ φ' h' _ st hr' (.int _ _))
      · cases hm
    · cases hm
end
theorem strs_pairs {fa : Nat → Addr} {φ : Phi} {h : Heap} : ∀ {xs : List V} {vs : List Value} {ss : List (List Nat)}, VRs fa φ h xs vs → strsOf xs = some ss → ∃ l : List (PySem.Str × Tok), vs = strValues l ∧ l.map (·.1) = ss.map fun s => (⟨s.toArray⟩ : PySem.Str)
  | [], _, _, r, e => by cases r; cases e; exact ⟨[], rfl, rfl⟩
  | v :: vs, _, _, r, e => by
    cases r with
    | cons a r =>
    cases v <;> first | (cases e; done) | skip
    obtain ⟨ms, e1, e2⟩ := Option.map_eq_some_iff.mp e
    cases e2
    cases a with
    | str s t =>
    obtain ⟨l, e3, e4⟩ := strs_pairs r e1
    exact ⟨(⟨_⟩, t) :: l, by rw [e3]; rfl, by rw [List.map_cons, e4, List.map_cons]⟩
theorem glued_empty (ss : List (List Nat)) : PySem.Builtin.Str.glued ⟨[].toArray⟩ (ss.map fun s => (⟨s.toArray⟩ : PySem.Str)) = ⟨ss.flatten.toArray⟩ := by
  have fold : ∀ (ss : List (List Nat)) (acc : Array Nat), (ss.map fun s => (⟨s.toArray⟩ : PySem.Str)).foldl (fun acc p => acc ++ (⟨[].toArray⟩ : PySem.Str).cps ++ p.cps) acc = acc ++ ss.flatten.toArray := by
    intro ss
    induction ss with
    | nil => intro acc; simp
    | cons s ss ih => intro acc; rw [List.map_cons, List.foldl_cons, ih]; simp
  unfold PySem.Builtin.Str.glued
  cases ss with
  | nil => rfl
  | cons s ss =>
    rw [List.map_cons, List.drop_succ_cons, List.drop_zero, fold]
    simp
theorem joinFit {ss : List (List Nat)} (h : ss.flatten.length ≤ 1000) : JoinOk ⟨[].toArray⟩ (ss.map fun s => (⟨s.toArray⟩ : PySem.Str)) = true := by
  have fold : ∀ (ss : List (List Nat)) (n : Nat), (ss.map fun s => (⟨s.toArray⟩ : PySem.Str)).foldl (· + ·.length + (⟨[].toArray⟩ : PySem.Str).length) n = n + ss.flatten.length := by
    intro ss
    induction ss with
    | nil => intro n; simp
    | cons s ss ih =>
      intro n
      rw [List.map_cons, List.foldl_cons, ih]
      show n + s.toArray.size + ([] : List Nat).toArray.size + _ = _
      simp; exact (Nat.add_assoc _ _ _)
  unfold JoinOk Builtin.Str.tooLong
  rw [← Array.foldl_toList, fold]
  simp only [Bool.not_eq_true', decide_eq_false_iff_not]
  have := wO (k := 0 + ss.flatten.length) (Nat.le_trans (Nat.add_le_add_left ‹_› _) (by decide))
  exact Nat.not_lt_of_le ‹_›
theorem sim_join {e : PySem.Expr} {c : Ex V} {kk : Nat} {p apos pos : Pos} {pl : Env → Sem Bool} {x0 : PySem.Str} (hx0 : x0.cps.toList = []) (h2 : yE G cx n (eval e) c (VRG G)) (hs : ∀ env, starEach [e] env = [(false, eval e env)]) (heq : ∀ env, eval (PySem.Expr.Call (PySem.Expr.Attribute (PySem.Expr.Constant (.str x0) kk p) "join" apos) [e] [] pos) env = (do
      let ov ← eval (PySem.Expr.Constant (.str x0) kk p) env
      standAt apos.atName
      let (f, first) ← holding [ov] (getMethod ov "join" (pl env))
      callWith pos f first (backTo pos (starEach [e] env)) (backToKw pos (keywordEach [] env)))) : yE G cx n (eval (PySem.Expr.Call (PySem.Expr.Attribute (PySem.Expr.Constant (.str x0) kk p) "join" apos) [e] [] pos)) (joinE c) (VRG G) := by
  intro A env φ ρ σ s Q E v σ' rm er hr hm q
  refine bm_call (id := "str.join") (a := cE (.str [])) (k := fun v => match v with | .str [] => joinE c | _ => noE) (k2 := fun x vs => match x, vs with
      | .str [], [y] => readE fun σ => ((listAt σ y).bind strsOf).bind fun ss => if decide (ss.length ≤ 1000) && decide (ss.flatten.length ≤ 1000) then some (V.str ss.flatten) else none
      | _, _ => noE) (sim_str hx0) (.cons h2 (fun env => by rw [hs env]; rfl) .nil) ?_ ?_ heq rm er hr (show joinE c ρ σ = _ from hm) ?_
  · intro A φ σ s Q E v x ρ b σ' env hr r hm q
    split at hm
    · cases r
      exact GM.join q
    · cases hm
  · intro v ρ σ b σ' hm
    split at hm
    · rw [seq1]; exact hm
    · cases hm
  · intro w x vs as φ' σ₁ h' tk st hr' rw_ rs hm
    split at hm
    · rename_i y
      obtain ⟨e1, rfl⟩ := xH hm
      obtain ⟨ss, e2, e3⟩ := Option.bind_eq_some_iff.mp e1
      obtain ⟨xs, e4, e5⟩ := Option.bind_eq_some_iff.mp e2
      split at e3
      · rename_i hd
        cases e3
        rw [Bool.and_eq_true] at hd
        cases rw_ with
        | str _ t =>
        cases rs with
        | cons r1 rs => cases rs with
          | nil =>
            obtain ⟨i2, p2, vs2, n2, -, -, hp2, rfl, -, ho2, r2⟩ := hr'.listAt r1 e4
            obtain ⟨l, e6, e7⟩ := strs_pairs r2 e5
            subst e6
            refine SC.join (xP ho2) e7 (joinFit (of_decide_eq_true hd.2)) fun t' k => ?_
            show Q (.str (PySem.Builtin.Str.glued _ _) t') _
            rw [glued_empty]
            exact q _ φ' h' k st hr' (.str _ _)
      · cases e3
    · cases hm
set_option tactic.hygienic true in
theorem sim_encode {o : PySem.Expr} {a : Ex V} {kk : Nat} {p apos pos : Pos} {pl : Env → Sem Bool} {x0 : PySem.Str} (hx0 : x0 = asciiT) (h1 : yE G cx n (eval o) a (VRG G)) (hs : ∀ env, starEach [PySem.Expr.Constant (.str x0) kk p] env = [(false, eval (PySem.Expr.Constant (.str x0) kk p) env)]) (heq : ∀ env, eval (PySem.Expr.Call (PySem.Expr.Attribute o "encode" apos) [PySem.Expr.Constant (.str x0) kk p] [] pos) env = (do
      let ov ← eval o env
      standAt apos.atName
      let (f, first) ← holding [ov] (getMethod ov "encode" (pl env))
      callWith pos f first (backTo pos (starEach [PySem.Expr.Constant (.str x0) kk p] env)) (backToKw pos (keywordEach [] env)))) : yE G cx n (eval (PySem.Expr.Call (PySem.Expr.Attribute o "encode" apos) [PySem.Expr.Constant (.str x0) kk p] [] pos)) (encodeE a) (VRG G) := by
  subst hx0
  intro A env φ ρ σ s Q E v σ' rm er hr hm q
  unfold encodeE at hm
  refine bm_call (id := "str.encode") (k2 := fun x vs => match x, vs with
      | .str s, [.str y] => if modeS s && (y == [97, 115, 99, 105, 105]) then pureE (V.bytes (s.map UInt8.ofNat)) else noE
      | _, _ => noE) h1 (.cons (c := cE (.str [97, 115, 99, 105, 105])) (sim_str rfl) (fun env => by rw [hs env]; rfl) .nil) ?_ ?_ heq rm er hr hm ?_
  · intro A φ σ s Q E v x ρ b σ' env hr r hm q
    cases v <;> first | (cases hm; done) | skip
    cases r
    exact GM.of (.str _ _) (typeIs_str _ _ _) F.slot_str_encode F.type_str_encode GM.noRef q
  · intro v ρ σ b σ' hm
    cases v <;> first | (cases hm; done) | skip
    rename_i s
    rw [seq1, ← hm]
    show (if modeS s && _ then _ else _ : Ex V) ρ σ = (if modeS s then _ else _ : Ex V) ρ σ
    cases modeS s <;> rfl
  · intro w x vs as φ' σ₁ h' tk st hr' rw_ rs hm
    split at hm
    · rename_i s y
      split at hm
      · rename_i hc
        rw [Bool.and_eq_true] at hc
        obtain rfl := beq_iff_eq.mp hc.2
        cases hm
        cases rw_ with
        | str _ t =>
        cases rs with
        | cons r1 rs => cases rs with
          | nil => cases r1 with
            | str _ t2 =>
            refine call_gives F.slot_str_encode (typeIs_str _ _ _) F.entry_str_encode (F.args_str_encode_2 _ _) (gives_enc t t2 hc.1) ⟨?_, q _ φ' h' _ st hr' (.bytes _ _)⟩
            have hl : s.length ≤ 2 := by
              have := hc.1
              unfold modeS at this
              simp only [Bool.or_eq_true, beq_iff_eq] at this
              rcases this with ((rfl | rfl) | rfl) | rfl <;> decide
            exact wO (by simp; exact Nat.le_trans ‹_› (by decide))
      · cases hm
    · cases hm
end
end Mine


section
open PySem PySem.W PySem.Calls PyProof.Rows PySem.Spec PySem.Builtin
namespace Mine
section
variable {G : Gd} {cx : Scope} {n : Nat}
noncomputable def tyB (G : Gd) (t : Ty) (c : Value) : Bool :=
  kitOne G.K (.type "int") c == some (t == .int) && kitOne G.K (.type "bool") c == some (t == .int || t == .bool) && kitOne G.K (.type "NoneType") c == some false && kitOne G.K (.type "str") c == some false && kitOne G.K (.type "bytes") c == some (t == .bytes) &&
  kitOne G.K (.ref (G.ca .table)) c == some (t == .heap || t == .table) && kitOne G.K (.ref (G.ca .udata)) c == some (t == .heap || t == .udata) && kitOne G.K (.ref (G.ca .pyclo)) c == some (t == .heap || t == .pyclo) && kitOne G.K (.ref (G.ca .node)) c == some false && kitOne G.K (.ref (G.ca .dead)) c == some (t == .dead)
structure KitC (G : Gd) (c : Cl) : Prop where
  hg : plainGet G.K (G.ca c) "__class__" = true
  hd : hasDictIn G.K (G.ca c) = true
  ha : findIn G.K (.ref (G.ca c)) "__class__" = some (some (.builtin "object.__class__"))
  hn : specialIn G.K (.builtin "object.__class__") "__get__" = some (some (.builtin "getset_descriptor.__get__"))
  tk : takesIn G.K (.builtin "object.__class__") = some true
  hm : mroIn G.K (G.ca c) (.type "object") = some true
set_option tactic.hygienic true in
theorem kit_of {φ : Phi} {σ : H} {h : Heap} {v : V} {x : Value} {t0 : Ty} {b0 : Bool} (hC : ∀ c, KitC G c) (hr : HR G φ σ h) (r : VR G.fa φ h v x) (h0 : isTy v t0 σ = some b0) :
    ∃ T P, KitX G.K x T P ∧ P h ∧ x ≠ .builtin "__main__.__loader__#opaque" ∧ ∀ t c b, tyB G t c = true → isTy v t σ = some b → kitOne G.K T c = some b := by
  have un : ∀ {t c}, tyB G t c = true → kitOne G.K (.type "int") c = some (t == .int) ∧ kitOne G.K (.type "bool") c = some (t == .int || t == .bool) ∧ kitOne G.K (.type "NoneType") c = some false ∧ kitOne G.K (.type "str") c = some false ∧ kitOne G.K (.type "bytes") c = some (t == .bytes) ∧
      kitOne G.K (.ref (G.ca .table)) c = some (t == .heap || t == .table) ∧ kitOne G.K (.ref (G.ca .udata)) c = some (t == .heap || t == .udata) ∧ kitOne G.K (.ref (G.ca .pyclo)) c = some (t == .heap || t == .pyclo) ∧ kitOne G.K (.ref (G.ca .node)) c = some false ∧ kitOne G.K (.ref (G.ca .dead)) c = some (t == .dead) := fun {t c} z => by
    unfold tyB at z
    simp only [Bool.and_eq_true, beq_iff_eq] at z
    obtain ⟨⟨⟨⟨⟨⟨⟨⟨⟨a, b⟩, c⟩, d⟩, e⟩, f⟩, g⟩, h⟩, i⟩, j⟩ := z
    exact ⟨a, b, c, d, e, f, g, h, i, j⟩
  cases v with
  | none => cases r; exact ⟨_, _, kitx_none, trivial, (fun e => nomatch e), fun t c b z e => by cases e; exact (un z).2.2.1⟩
  | bool d => cases r; exact ⟨_, _, kitx_bool, trivial, (fun e => nomatch e), fun t c b z e => by cases e; exact (un z).2.1⟩
  | int d => cases r; exact ⟨_, _, kitx_int, trivial, (fun e => nomatch e), fun t c b z e => by cases e; exact (un z).1⟩
  | str d => cases r; exact ⟨_, _, kitx_str, trivial, (fun e => nomatch e), fun t c b z e => by cases e; exact (un z).2.2.2.1⟩
  | bytes d => cases r; exact ⟨_, _, kitx_bytes, trivial, (fun e => nomatch e), fun t c b z e => by cases e; exact (un z).2.2.2.2.1⟩
  | fn k => cases h0
  | tup vs => cases h0
  | obj i =>
    have go : ∀ c fs, σ[i]? = some (.inst c fs) → (∀ t b, isTy (.obj i) t σ = some b → ∀ d, tyB G t d = true → kitOne G.K (.ref (G.ca c)) d = some b) →
        ∃ T P, KitX G.K x T P ∧ P h ∧ x ≠ .builtin "__main__.__loader__#opaque" ∧ ∀ t c b, tyB G t c = true → isTy (.obj i) t σ = some b → kitOne G.K T c = some b := fun c fs hi hh => by
      obtain ⟨p, es, k, hp, rfl, ho', hd, fr, I⟩ := hr.inst r hi
      have C := hC c
      exact ⟨_, _, kitx_own C.hg C.hd C.ha C.hn C.tk C.hm, I, (fun e => nomatch e), fun t d b z e => hh t b e d z⟩
    have h0' := h0
    unfold isTy at h0'
    dsimp only at h0'
    split at h0' <;> first | (cases h0'; done) | skip
    all_goals rename_i fs hi; refine go _ fs hi fun t b e d z => ?_; unfold isTy at e; dsimp only at e; rw [hi] at e; cases e
    · exact (un z).2.2.2.2.2.1
    · exact (un z).2.2.2.2.2.2.1
    · exact (un z).2.2.2.2.2.2.2.1
    · exact (un z).2.2.2.2.2.2.2.2.2
    · exact (un z).2.2.2.2.2.2.2.2.1
noncomputable def TyN (G : Gd) (cx : Scope) (e : PySem.Expr) (c : Value) : Prop :=
  ∀ (A : Around) (env : Env) (φ : Phi) (ρ : Rho) (σ : H) (s : Shared) (Q : Value → Shared → Prop) (E : Value → Shared → Prop), EnvR G cx env φ ρ s.heap → HR G φ σ s.heap → Q c s → wpAny (model G.prog G.w) A (eval e env) Q E s
theorem tyn_bui {x : PySem.Str} {pos : Pos} {i : Nat} {a : Value} (hx : xU cx.names x = some (i, .globalImplicit)) (he : nsIn G.K mainGlobals x = some none) (hb : bootBuiltins x = some a) (hn : x ≠ "__name__") (hd : (x == ("__debug__" : PySem.Str)) = false) : TyN G cx (.Name x pos) a :=
  fun A env φ ρ σ s Q E er hr q => name_bui er hr hx he hb hn hd q
theorem wA {x : PySem.Str} {pos : Pos} {i : Nat} {a : Value} (hx : xU cx.names x = some (i, .globalImplicit)) (he : nsIn G.K mainGlobals x = some (some a)) (hd : (x == ("__debug__" : PySem.Str)) = false) : TyN G cx (.Name x pos) a :=
  fun A env φ ρ σ s Q E er hr q => name_glob er hr hx he hd q
inductive TyL (G : Gd) (cx : Scope) : List PySem.Expr → List Ty → List Value → Prop where
  | nil : TyL G cx [] [] []
  | cons {e : PySem.Expr} {es : List PySem.Expr} {t : Ty} {ts : List Ty} {c : Value} {cs : List Value} : TyN G cx e c → tyB G t c = true → (∀ env, starEach (e :: es) env = (false, eval e env) :: starEach es env) → TyL G cx es ts cs → TyL G cx (e :: es) (t :: ts) (c :: cs)
theorem TyL.sim {es : List PySem.Expr} {ts : List Ty} {cs : List Value} {pos : Pos} (a : TyL G cx es ts cs) : ∀ (A : Around) (env : Env) (φ : Phi) (ρ : Rho) (σ : H) (s : Shared) (Q : List Value → Shared → Prop) (E : Value → Shared → Prop), EnvR G cx env φ ρ s.heap → HR G φ σ s.heap → Q cs s → wpAny (model G.prog G.w) A (spliced (backTo pos (starEach es env))) Q E s := by
  induction a with
  | nil => intro A env φ ρ σ s Q E er hr q; exact spliced_nil q
  | @cons e es t ts c cs h _ hs _ ih =>
    intro A env φ ρ σ s Q E er hr q
    rw [hs env]
    show wpAny _ _ (spliced ((false, eval e env) :: backTo pos (starEach es env))) _ _ _
    exact spliced_cons (h A env φ ρ σ s _ E er hr (ih A env φ ρ σ s _ E er hr q))
theorem TyL.any {es : List PySem.Expr} {ts : List Ty} {cs : List Value} {σ : H} {v : V} {T : Value} (a : TyL G cx es ts cs) (hT : ∀ t c b, tyB G t c = true → isTy v t σ = some b → kitOne G.K T c = some b) : ∀ {b : Bool}, isTys v ts σ = some b → kitAny G.K T cs = some b := by
  induction a with
  | nil => intro b e; exact e
  | @cons e es t ts c cs _ hb _ _ ih =>
    intro b e
    rw [isTys_c] at e
    unfold kitAny
    cases q : isTy v t σ with
    | none => rw [q] at e; cases e
    | some d =>
      rw [q] at e
      rw [hT _ _ _ hb q]
      cases d with
      | true => exact e
      | false => exact ih e
theorem TyL.len {es : List PySem.Expr} {ts : List Ty} {cs : List Value} (a : TyL G cx es ts cs) : cs.length = es.length ∧ ts.length = es.length := by
  induction a with
  | nil => exact ⟨rfl, rfl⟩
  | cons _ _ _ _ ih => exact ⟨congrArg (· + 1) ih.1, congrArg (· + 1) ih.2⟩
section
variable {e : PySem.Expr} {c : Ex V} {p pos : Pos} {i : Nat} (h1 : yE G cx n (eval e) c (VRG G)) (hC : ∀ c, KitC G c) (hx : xU cx.names "isinstance" = some (i, .globalImplicit)) (he : nsIn G.K mainGlobals "isinstance" = some none)
include hx he
theorem isi_go {te : PySem.Expr} {A : Around} {env : Env} {φ : Phi} {ρ : Rho} {σ : H} {s : Shared} {Q : Value → Shared → Prop} {E : Value → Shared → Prop} (er : EnvR G cx env φ ρ s.heap) (hr : HR G φ σ s.heap) (hs : ∀ env, starEach [e, te] env = (false, eval e env) :: starEach [te] env) (hs2 : ∀ env, starEach [te] env = [(false, eval te env)])
    (q : wpAny (model G.prog G.w) A (eval e env) (fun x s₁ => wpAny (model G.prog G.w) A (eval te env) (fun y s₂ => wpAny (model G.prog G.w) A (call (.builtin "isinstance") [x, y]) Q E s₂) E s₁) E s) : wpAny (model G.prog G.w) A (eval (.Call (.Name "isinstance" p) [e, te] [] pos) env) Q E s := by
  rw [arm_eval_Call_Name']
  refine wpAny_bind (name_bui er hr hx he (a := .builtin "isinstance") (by decide +kernel) (by decide) (by decide) ?_)
  rw [hs env, hs2 env]
  refine Calls.callWith_builtin rfl (Calls.evalArgs_plain (Calls.spliced_cons (wpAny_mono q (fun x s₁ hq => ?_) fun _ _ z => z)))
  exact Calls.spliced_cons (wpAny_mono hq (fun y s₂ hq2 => Calls.spliced_nil hq2) fun _ _ z => z)
include h1 hC
theorem xI {te : PySem.Expr} {t : Ty} {d : Value} (ht : TyN G cx te d) (hb : tyB G t d = true) (hs : ∀ env, starEach [e, te] env = (false, eval e env) :: starEach [te] env) (hs2 : ∀ env, starEach [te] env = [(false, eval te env)]) : yE G cx n (eval (.Call (.Name "isinstance" p) [e, te] [] pos)) (jC c [t]) (VRG G) := by
  intro A env φ ρ σ s Q E v σ' rm er hr hm q
  refine isi_go hx he er hr hs hs2 (yO h1 rm er hr hm fun x x' φ₁ σ₁ h₁ tk₁ st₁ er₁ hr₁ r₁ hm₁ => ?_)
  refine ht A env φ₁ ρ σ₁ { s with heap := h₁, toks := tk₁ } _ E er₁ hr₁ ?_
  obtain ⟨e1, rfl⟩ := xH hm₁
  obtain ⟨b, e2, e3⟩ := Option.map_eq_some_iff.mp e1
  subst e3
  have e3 : isTy x' t σ' = some b := by
    rw [isTys_c] at e2
    cases q : isTy x' t σ' with
    | none => rw [q] at e2; cases e2
    | some d =>
      rw [q] at e2
      cases d with
      | true => exact e2
      | false => exact e2
  obtain ⟨T, P, Z, hP, hx', hT⟩ := kit_of hC hr₁ r₁ e3
  exact kia_one Z hr₁.inK hP (hT _ _ _ hb e3) hx' fun tk => q _ φ₁ h₁ tk st₁ hr₁ (.bool b)
theorem sim_isiT {te : List PySem.Expr} {k : Nat} {tp : Pos} {t : Ty} {ts : List Ty} {ds : List Value} (ht : TyL G cx te (t :: ts) ds) (hl : te.length ≤ 1000) (hs : ∀ env, starEach [e, .Tuple te k tp] env = (false, eval e env) :: starEach [.Tuple te k tp] env) (hs2 : ∀ env, starEach [.Tuple te k tp] env = [(false, eval (.Tuple te k tp) env)]) :
    yE G cx n (eval (.Call (.Name "isinstance" p) [e, .Tuple te k tp] [] pos)) (jC c (t :: ts)) (VRG G) := by
  intro A env φ ρ σ s Q E v σ' rm er hr hm q
  refine isi_go hx he er hr hs hs2 (yO h1 rm er hr hm fun x x' φ₁ σ₁ h₁ tk₁ st₁ er₁ hr₁ r₁ hm₁ => ?_)
  refine Tuple_ (ht.sim A env φ₁ ρ σ₁ { s with heap := h₁, toks := tk₁ } _ E er₁ hr₁ ?_)
  have k2 : ∀ b o, h₁.get? b = some o → (h₁.push (tupO ds)).get? b = some o := fun _ _ e => Heap.get?_push_of_some _ e
  refine wpAny_newTuple ?_ (wO (by rw [ht.len.1]; exact Nat.le_trans ‹_› (by decide)))
  obtain ⟨e1, rfl⟩ := xH hm₁
  obtain ⟨b, e2, e3⟩ := Option.map_eq_some_iff.mp e1
  subst e3
  have hr₂ := hr₁.keeps k2
  have r₂ := r₁.step (.keeps k2)
  obtain ⟨d, e3⟩ : ∃ d, isTy x' t σ' = some d := by
    rw [isTys_c] at e2
    cases q : isTy x' t σ' with
    | none => rw [q] at e2; cases e2
    | some d => exact ⟨d, rfl⟩
  obtain ⟨T, P, Z, hP, hx', hT⟩ := kit_of hC hr₂ r₂ e3
  exact kia_tup (s := { s with heap := h₁.push (tupO ds), toks := tk₁ }) Z hr₂.inK hP (its := ds) (n := 0) (Heap.get?_push_size h₁ rfl) (ht.any hT e2) hx' fun tk => q _ φ₁ _ tk (st₁.trans (.keeps k2)) hr₂ (.bool b)
end
end
end Mine


section
open PySem PySem.W PySem.Calls PyProof.Rows PySem.Spec PySem.Builtin
namespace Mine
theorem cellsFrom_has : ∀ (names : List (PySem.Str × NameKind)) (n : Nat) (acc : List (PySem.Str × Addr)) (x : PySem.Str), ((x, NameKind.cell) ∈ names ∨ (acc.lookup x).isSome = true) → ((cellsFrom n names acc).lookup x).isSome = true
  | [], n, acc, x, h => by
    rcases h with h | h
    · cases h
    · exact h
  | (y, k) :: r, n, acc, x, h => by
    unfold cellsFrom
    by_cases hk : k = .cell
    · subst hk
      simp only [beq_self_eq_true, if_true]
      refine cellsFrom_has r (n + 1) _ x ?_
      rcases h with h | h
      · rcases List.mem_cons.mp h with e | h
        · cases e; exact .inr (by rw [List.lookup_cons, beq_self_eq_true]; rfl)
        · exact .inl h
      · refine .inr ?_
        rw [List.lookup_cons]
        split
        · rfl
        · exact h
    · rw [if_neg (by simpa using hk)]
      refine cellsFrom_has r n acc x ?_
      rcases h with h | h
      · rcases List.mem_cons.mp h with e | h
        · cases e; exact absurd rfl hk
        · exact .inl h
      · exact .inr h
theorem bindL_other {kd : PySem.Str → Option NameKind} : ∀ {b : List (PySem.Str × Value)} {m : PySem.Str → Option Value} {x : PySem.Str}, x ∉ b.map (·.1) → bindL kd b m x = m x
  | [], _, _, _ => rfl
  | (n, v) :: r, m, x, h => by
    unfold bindL
    rw [List.map_cons, List.mem_cons] at h
    rw [bindL_other (b := r) fun z => h (.inr z)]
    split
    · exact if_neg fun z => h (.inl z)
    · rfl
theorem bindC_other {kd : PySem.Str → Option NameKind} : ∀ {b : List (PySem.Str × Value)} {m : PySem.Str → Option Value} {x : PySem.Str}, x ∉ b.map (·.1) → bindC kd b m x = m x
  | [], _, _, _ => rfl
  | (n, v) :: r, m, x, h => by
    unfold bindC
    rw [List.map_cons, List.mem_cons] at h
    rw [bindC_other (b := r) fun z => h (.inr z)]
    split
    · rfl
    · exact if_neg fun z => h (.inl z)
theorem bindL_at {kd : PySem.Str → Option NameKind} : ∀ {b : List (PySem.Str × Value)} {m : PySem.Str → Option Value} {i : Nat} {x : PySem.Str} {v : Value}, (b.map (·.1)).Nodup → b[i]? = some (x, v) → kd x = some .local → bindL kd b m x = some v
  | (n, u) :: r, m, 0, x, v, hn, e, hk => by
    cases e
    rw [List.map_cons, List.nodup_cons] at hn
    unfold bindL
    rw [bindL_other hn.1, if_pos hk]
    exact if_pos rfl
  | (n, u) :: r, m, i + 1, x, v, hn, e, hk => by
    rw [List.map_cons, List.nodup_cons] at hn
    unfold bindL
    exact bindL_at (b := r) (i := i) hn.2 e hk
theorem bindC_at {kd : PySem.Str → Option NameKind} : ∀ {b : List (PySem.Str × Value)} {m : PySem.Str → Option Value} {i : Nat} {x : PySem.Str} {v : Value}, (b.map (·.1)).Nodup → b[i]? = some (x, v) → kd x ≠ some .local → bindC kd b m x = some v
  | (n, u) :: r, m, 0, x, v, hn, e, hk => by
    cases e
    rw [List.map_cons, List.nodup_cons] at hn
    unfold bindC
    rw [bindC_other hn.1, if_neg hk]
    exact if_pos rfl
  | (n, u) :: r, m, i + 1, x, v, hn, e, hk => by
    rw [List.map_cons, List.nodup_cons] at hn
    unfold bindC
    exact bindC_at (b := r) (i := i) hn.2 e hk
noncomputable def parB (scope : Scope) : Nat → List PySem.Str → Bool
  | _, [] => true
  | i, x :: r => (match xU scope.names x with | some (j, k) => j == i && (k == .local || k == .cell) | none => false) && parB scope (i + 1) r
noncomputable def defB (scope : Scope) (names : List PySem.Str) : Bool := scope.kind == .function && !scope.isCoroutine && !scope.isGenerator && parB scope 0 names && scope.names.all fun x => !(x.2 == .free)
set_option tactic.hygienic true in
theorem parB_at {scope : Scope} : ∀ {j : Nat} {names : List PySem.Str}, parB scope j names = true → ∀ {i : Nat} {x : PySem.Str}, names[i]? = some x → ∃ k, xU scope.names x = some (j + i, k) ∧ (k = .local ∨ k = .cell)
  | j, y :: r, h, 0, x, e => by
    cases e
    unfold parB at h
    rw [Bool.and_eq_true] at h
    have h1 := h.1
    split at h1
    · rename_i j' k hs
      rw [Bool.and_eq_true, Bool.or_eq_true] at h1
      exact ⟨k, by rw [hs, beq_iff_eq.mp h1.1]; rfl, h1.2.imp beq_iff_eq.mp beq_iff_eq.mp⟩
    · cases h1
  | j, y :: r, h, i + 1, x, e => by
    unfold parB at h
    rw [Bool.and_eq_true] at h
    obtain ⟨k, h1, h2⟩ := parB_at h.2 (i := i) (x := x) e
    exact ⟨k, by rw [h1]; congr 2; exact Nat.add_right_comm _ _ _, h2⟩
theorem parB_nodup {scope : Scope} {names : List PySem.Str} (h : parB scope 0 names = true) : names.Nodup := by
  refine List.pairwise_iff_getElem.mpr fun i j hi hj hij e => ?_
  obtain ⟨k, h1, _⟩ := parB_at h (List.getElem?_eq_getElem hi)
  obtain ⟨k', h2, _⟩ := parB_at h (List.getElem?_eq_getElem hj)
  rw [e, h2] at h1
  have := (Prod.mk.inj (Option.some.inj h1)).1
  omega
section
variable {G : Gd} {cx : Scope} {n : Nat}
theorem VRs.keeps {fa : Nat → Addr} {φ : Phi} {h h' : Heap} (k : ∀ b o, h.get? b = some o → h'.get? b = some o) {vs : List V} {as : List Value} (r : VRs fa φ h vs as) : VRs fa φ h' vs as := r.mono (.refl _) fun a us e nn => ⟨k _ _ e, nn⟩
theorem simf_def {f : Addr} {oc : Value} {od : Option Addr} {osl : Array (Option Value)} {name qual : PySem.Str} {params : Arguments} {body : List Stmt} {scope : Scope} {dV kV doc pm cdv ct : Value} {an : Option Addr} {names : List PySem.Str} {ds : List V} {dvs : List Value} {st : St}
    (ho : G.K.lookup f = some ⟨oc, od, .func (fnOf name qual params body scope dV kV doc pm an cdv ct), osl⟩) (hcd : codeIn G.K cdv qual = true) (hp : defB scope names = true)
    (hbind : ∀ (s : Shared) (as : List Value), as.length ≤ names.length → names.length ≤ as.length + dvs.length → G.K.In s.heap → BindsTo s (fnOf name qual params body scope dV kV doc pm an cdv ct) ⟨as, []⟩ (names.zip (as ++ dvs.drop (dvs.length - (names.length - as.length)))))
    (hds : ∀ φ h, VRs G.fa φ h ds dvs) (hs : SimS G scope n (execs body) st) : yU G (n + 1) (.ref f) (fnD names.length scope.names.length ds st) := by
  intro φ vs as A σ s R v σ' rv rm hr hm q
  unfold fnD at hm
  split at hm
  · rename_i hc
    have hlv := rv.length
    have hld := (hds φ s.heap).length
    rw [hlv, hld] at hc
    unfold defB at hp
    simp only [Bool.and_eq_true] at hp
    obtain ⟨⟨⟨⟨p1, p2⟩, p3⟩, p4⟩, p5⟩ := hp
    have p2' : scope.isCoroutine = false := by simpa using p2
    have p3' : scope.isGenerator = false := by simpa using p3
    have nd := parB_nodup p4
    generalize hals : as ++ dvs.drop (dvs.length - (names.length - as.length)) = als
    have hall : als.length = names.length := by rw [← hals, List.length_append, List.length_drop]; omega
    have hbn : (names.zip als).map (·.1) = names := by
      rw [List.map_fst_zip]
      exact Nat.le_of_eq (Eq.symm ‹_›)
    have rvs : ∀ h', (∀ b o, s.heap.get? b = some o → h'.get? b = some o) → VRs G.fa φ h' (vs ++ ds.drop (ds.length - (names.length - vs.length))) als := fun h' k => by
      rw [← hals, hlv, hld]
      exact VRs.append (VRs.drop _ (hds φ h')) (rv.keeps k)
    have hkind : ∀ x ∈ names.zip als, scope.names.lookup x.1 = some .local ∨ (scope.names.lookup x.1 = some .cell ∧ ((cellsFrom (s.heap.objs.size + 1) scope.names []).lookup x.1).isSome = true) := fun x hx => by
      have hx1 : x.1 ∈ names := (List.of_mem_zip hx).1
      obtain ⟨i, hi⟩ := List.mem_iff_getElem?.mp hx1
      obtain ⟨k, h1, h2⟩ := parB_at p4 hi
      rcases h2 with rfl | rfl
      · exact .inl (slot_kind h1)
      · exact .inr ⟨slot_kind h1, cellsFrom_has _ _ _ _ (.inl (List.mem_of_getElem? (slot_mem h1)))⟩
    have hcr := codeRec_of hr.inK hcd
    refine codeAny_call_function (fd := fnOf name qual params body scope dV kV doc pm an cdv ct) rm.depth (hr.inK _ _ ho) rfl p2' p3' rfl hcr (hbind s as (by omega) (by omega) hr.inK _ _ _ _ ?_)
    rw [hals]
    refine wpAny_newFunctionEnv_cells (beq_iff_eq.mp p1) hkind fun env he s' x => ?_
    refine ⟨hr.nolimit.keeps x.toInCall.keep, codeAny_func ?_⟩
    have hEs : env.scope = scope := by rw [he]; rfl
    have hEl : env.locals = s.heap.objs.size := by rw [he]; rfl
    have hEc : env.cells = cellsFrom (s.heap.objs.size + 1) scope.names [] := by rw [he]; rfl
    have none_of : ∀ a, s.heap.objs.size ≤ a → s.heap.get? a = none := fun a ha => Heap.get?_none_of_le ha
    have fresh : ∀ a, Own env a → s.heap.get? a = none := fun a o => by
      rcases o with rfl | ⟨y, hy⟩
      · exact none_of _ (by rw [hEl]; exact Nat.le_refl _)
      · have := x.above y a (mem_of_lookup hy)
        rw [hEl] at this
        exact none_of _ (Nat.le_of_lt this)
    have hr' := hr.keeps x.toInCall.keep
    have er : EnvR G scope env φ ((vs ++ ds.drop (ds.length - (names.length - vs.length))).map some ++ List.replicate (scope.names.length - names.length) none) s'.heap := by
      refine ⟨hEs, beq_iff_eq.mp p1, by rw [he]; rfl, by rw [he]; rfl, fun a o => (hr.fresh (fresh a o)).1, fun a o => (hr.fresh (fresh a o)).2, ⟨_, x.toInCall.ns⟩, fun y c hc => ⟨⟨_, x.cell y c hc⟩, fun z => ?_⟩, fun y z c hy hz => name_of_addr x.apart (mem_of_lookup hy) (mem_of_lookup hz), fun y hy => ?_, fun i y k w h1 h2 => ?_⟩
      · have := x.above y c (mem_of_lookup hc); rw [z] at this; exact Nat.lt_irrefl _ this
      · rcases hy with hy | hy
        · obtain ⟨i, hi⟩ := lookup_slot hy
          have := cellsFrom_has scope.names (s.heap.objs.size + 1) [] y (.inl (List.mem_of_getElem? (slot_mem hi)))
          rw [← hEc] at this
          exact Option.isSome_iff_exists.mp this
        · obtain ⟨i, hi⟩ := lookup_slot hy
          have := List.all_eq_true.mp p5 _ (List.mem_of_getElem? (slot_mem hi))
          simp at this
      · have hi : i < names.length := by
          rcases Nat.lt_or_ge i names.length with z | z
          · exact z
          · have hl : ((vs ++ ds.drop (ds.length - (names.length - vs.length))).map some).length ≤ i := by
              rw [List.length_map, (rvs s.heap fun _ _ e => e).length, hall]; exact z
            rw [List.getElem?_append_right hl] at h2
            rw [List.getElem?_replicate] at h2
            split at h2 <;> cases h2
        have hl : i < ((vs ++ ds.drop (ds.length - (names.length - vs.length))).map some).length := by
          rw [List.length_map, (rvs s.heap fun _ _ e => e).length, hall]; exact hi
        rw [List.getElem?_append_left hl, List.getElem?_map] at h2
        obtain ⟨w', hw, e⟩ := Option.map_eq_some_iff.mp h2
        cases e
        obtain ⟨b, hb, rb⟩ := (rvs s'.heap x.toInCall.keep).get hw
        obtain ⟨k', h3, h4⟩ := parB_at p4 (List.getElem?_eq_getElem hi)
        rw [Nat.zero_add] at h3
        have hxy := slot_inj h1 h3
        have hz : (names.zip als)[i]? = some (y, b) := by
          rw [List.getElem?_zip_eq_some]
          exact ⟨by rw [hxy]; exact List.getElem?_eq_getElem hi, hb⟩
        have hk : env.kindOf y = some k := by show env.scope.names.lookup y = _; rw [hEs]; exact slot_kind h1
        rw [← hxy, h1] at h3
        have hkk : k = k' := (Prod.mk.inj (Option.some.inj h3)).2
        rcases h4 with e | e
        · rw [← hkk] at e
          subst e
          exact .inl ⟨hk, _, b, x.toInCall.ns, bindL_at (by rw [hbn]; exact nd) hz hk, rb⟩
        · rw [← hkk] at e
          subst e
          have hc := cellsFrom_has scope.names (s.heap.objs.size + 1) [] y (.inl (List.mem_of_getElem? (slot_mem h1)))
          rw [← hEc] at hc
          obtain ⟨c, hc⟩ := Option.isSome_iff_exists.mp hc
          refine .inr ⟨.inl hk, c, b, hc, ?_, rb⟩
          have := x.cell y c hc
          rwa [bindC_at (by rw [hbn]; exact nd) hz (by rw [hk]; exact fun z => by cases z)] at this
    obtain ⟨hh, tk, e1⟩ := x.toInCall.same
    have fin : ∀ (fl : Fl) (ρ' : Rho) (σ'' : H) (v' : V), st _ σ = some (fl, ρ', σ'') → (v' = match fl with | .ret u => u | _ => V.none) → (fl = .next ∨ ∃ u, fl = .ret u) → σ'' = σ' → v' = v →
        wpAny (model G.prog G.w) (A.deeper env) (execs body env) (fun f s' => R (.ok (.ret (match f with | .ret v => v | _ => .none))) s') (fun e s' => wpAny (model G.prog G.w) (A.deeper env) (leaving env e) (fun _ s'' => R (.error e) s'') (fun e' s'' => R (.error e') s'') s') s' := fun fl ρ' σ'' v' e2 e3 e4 e5 e6 => by
      subst e5 e6
      refine hs _ env φ _ σ s' _ _ fl ρ' σ'' (rm.deeper env) er hr' e2 fun fl' φ' h' tk' sx er' hr'' rf => ?_
      have stp := StepX.back (h₀ := s.heap) x.toInCall.keep fresh sx
      have e7 : ({ s' with heap := h', toks := tk' } : Shared) = { s with heap := h', toks := tk' } := by rw [e1]
      rw [e7]
      rcases e4 with rfl | ⟨u, rfl⟩
      · cases rf; subst e3; exact q _ φ' h' tk' stp hr'' .none
      · cases rf with
        | ret r => subst e3; exact q _ φ' h' tk' stp hr'' r
    split at hm
    · rename_i e2; cases hm; exact fin _ _ _ _ e2 rfl (.inl rfl) rfl rfl
    · rename_i e2; cases hm; exact fin _ _ _ _ e2 rfl (.inr ⟨_, rfl⟩) rfl rfl
    · cases hm
  · cases hm
end
end Mine


section
namespace Mine
noncomputable def f_is_number : Fn := fnD 1 4 [] (zI [
  yM (andE (jC (zC 0) [.int]) (notE (jC (zC 0) [.bool])))])
noncomputable def f_type_of : Fn := fnD 1 13 [] (zI [
  ifS (zX (zC 0) [(.is, (cE .none))]) (zI [
    yM (cE (.int 0))]) (zI []),
  ifS (xO (jC (zC 0) [.bool])) (zI [
    yM (cE (.int 1))]) (zI []),
  ifS (xO (jC (zC 0) [.int])) (zI [
    yM (cE (.int 3))]) (zI []),
  ifS (xO (jC (zC 0) [.bytes])) (zI [
    yM (cE (.int 4))]) (zI []),
  ifS (xO (jC (zC 0) [.other])) (zI [
    yM (cE (.int 2))]) (zI []),
  ifS (xO (jC (zC 0) [.heap])) (zI [
    yM (zL (zC 0) .kind)]) (zI []),
  yM (cE (.int (-1)))])
noncomputable def wZ : Fn := fnD 1 3 [] (zI [
  yM (jC (zC 0) [.heap])])
noncomputable def xG : Fn := fnD 2 8 [] (zI [
  zQ (zG 2) (zR f_type_of [(zC 0)]),
  ifS (zX (zC 2) [(.ne, (zR f_type_of [(zC 1)]))]) (zI [
    yM (cE (.bool false))]) (zI []),
  ifS (zX (zC 2) [(.eq, (cE (.int 0)))]) (zI [
    yM (cE (.bool true))]) (zI []),
  ifS (zX (zC 2) [(.isin, (wU [(cE (.int 1)), (cE (.int 3)), (cE (.int 4))]))]) (zI [
    yM (cmpE (zC 0) [(.eq, (zC 1))])]) (zI []),
  yM (cmpE (zL (zC 0) .number) [(.eq, (zL (zC 1) .number))])])
noncomputable def f_string_hash : Fn := fnD 1 6 [] (zI [
  zQ (jB [(zG 1), (zG 2)]) (wU [(yX .band (wB (zC 0)) (cE (.int 4294967295))), (wB (zC 0))]),
  zQ (zG 3) (yX .add (yX .shr (wB (zC 0)) (cE (.int 5))) (cE (.int 1))),
  whileS (zX (zC 2) [(.ge, (zC 3))]) (zI [
    zQ (zG 1) (yX .band (yX .bxor (zC 1) (yX .add (yX .add (yX .shl (zC 1) (cE (.int 5))) (yX .shr (zC 1) (cE (.int 2)))) (yB (zC 0) (yX .sub (zC 2) (cE (.int 1)))))) (cE (.int 4294967295))),
    zQ (zG 2) (yX .sub (zC 2) (zC 3))]),
  yM (zC 1)])
noncomputable def f_log2 : Fn := fnD 1 2 [] (zI [
  zQ (zG 1) (negE (cE (.int 1))),
  whileS (zX (zC 0) [(.gt, (cE (.int 0)))]) (zI [
    zQ (zG 0) (yX .shr (zC 0) (cE (.int 1))),
    zQ (zG 1) (yX .add (zC 1) (cE (.int 1)))]),
  yM (zC 1)])
noncomputable def f_ceil_log2 : Fn := fnD 1 2 [] (zI [
  yM (yX .add (zR f_log2 [(yX .sub (zC 0) (cE (.int 1)))]) (cE (.int 1)))])
noncomputable def f_HeapObject_init : Fn := fnD 3 3 [] (zI [
  zQ (yQ (zC 0) .number) (zC 1),
  zQ (yQ (zC 0) .mark) (cE (.int 0)),
  zQ (yQ (zC 0) .size) (zC 2)])
noncomputable def f_PyClosure_init : Fn := fnD 5 8 [] (zI [
  yR (zR f_HeapObject_init [(zC 0), (cE (.int 0)), (yX .add (cE (.int 6)) (wB (zC 3)))]),
  zQ (yQ (zC 0) .function) (zC 1),
  zQ (yQ (zC 0) .name) (zC 2),
  zQ (yQ (zC 0) .upvals) (zC 3),
  zQ (yQ (zC 0) .env) (zC 4)])
noncomputable def f_Userdata_init : Fn := fnD 4 6 [] (zI [
  yR (zR f_HeapObject_init [(zC 0), (cE (.int 0)), (cE (.int 5))]),
  zQ (yQ (zC 0) .value) (zC 1),
  zQ (yQ (zC 0) .mta) (zC 2),
  zQ (yQ (zC 0) .env) (zC 3),
  zQ (yQ (zC 0) .is_finalized) (cE (.bool false))])
noncomputable def f_DeadKey_init : Fn := fnD 2 2 [] (zI [
  zQ (yQ (zC 0) .number) (zC 1)])
noncomputable def f_Node_init : Fn := fnD 1 1 [] (zI [
  zQ (yQ (zC 0) .key) (cE .none),
  zQ (yQ (zC 0) .value) (cE .none),
  zQ (yQ (zC 0) .next) (negE (cE (.int 1)))])
noncomputable def f_moved_to : Fn := fnD 2 2 [] (zI [
  zQ (yQ (zC 1) .key) (zL (zC 0) .key),
  zQ (yQ (zC 1) .value) (zL (zC 0) .value),
  zQ (yQ (zC 1) .next) (zL (zC 0) .next)])
noncomputable def wY : Fn := fnD 1 2 [] (zI [
  yM (iteE (xO (zR f_is_number [(zC 0)])) (zC 0) (negE (cE (.int 1))))])
noncomputable def f_compute_sizes : Fn := fnD 2 7 [] (zI [
  zQ (zG 2) (cE (.int 0)),
  zQ (zG 3) (cE (.int 0)),
  zQ (zG 4) (cE (.int 0)),
  zQ (zG 5) (cE (.int 1)),
  forS (xJ (zC 0)) (zG 6) (zI [
    ifS (zX (yX .fdiv (zC 5) (cE (.int 2))) [(.ge, (zC 1))]) (zI [
      brkS]) (zI []),
    ifS (zX (zC 6) [(.gt, (cE (.int 0)))]) (zI [
      augS 2 .add (zC 6),
      ifS (zX (zC 2) [(.gt, (yX .fdiv (zC 5) (cE (.int 2))))]) (zI [
        zQ (zG 4) (zC 5),
        zQ (zG 3) (zC 2)]) (zI [])]) (zI []),
    ifS (zX (zC 2) [(.eq, (zC 1))]) (zI [
      brkS]) (zI []),
    augS 5 .mul (cE (.int 2))]),
  yM (wU [(zC 4), (zC 3)])])
noncomputable def f_count_key : Fn := fnD 2 6 [] (zI [
  zQ (zG 2) (zR wY [(zC 0)]),
  ifS (zX (cE (.int 0)) [(.lt, (zC 2)), (.le, (cE (.int 67108864)))]) (zI [
    noS,
    yM (cE (.int 1))]) (zI []),
  yM (cE (.int 0))])
noncomputable def xF : Fn := fnD 2 9 [] (zI [
  zQ (zG 2) (wB (zL (zC 0) .nodes)),
  ifS (xO (jC (zC 1) [.bool])) (zI [
    yM (yX .band (noE) (yX .sub (zC 2) (cE (.int 1))))]) (zI []),
  ifS (xO (jC (zC 1) [.int])) (zI [
    yM (yX .mod (zC 1) (yX .bor (yX .sub (zC 2) (cE (.int 1))) (cE (.int 1))))]) (zI []),
  ifS (xO (jC (zC 1) [.bytes])) (zI [
    yM (yX .band (zR f_string_hash [(zC 1)]) (yX .sub (zC 2) (cE (.int 1))))]) (zI []),
  yM (yX .mod (zL (zC 1) .number) (yX .bor (yX .sub (zC 2) (cE (.int 1))) (cE (.int 1))))])
noncomputable def wX : Fn := fnD 2 5 [] (zI [
  ifS (orT (zX (wB (zL (zC 0) .nodes)) [(.eq, (cE (.int 0)))]) (zX (zC 1) [(.is, (cE .none))])) (zI [
    yM (negE (cE (.int 1)))]) (zI []),
  zQ (zG 2) (yT .table xF (zC 0) [(zC 1)]),
  whileS (zX (zC 2) [(.ge, (cE (.int 0)))]) (zI [
    ifS (xO (zR xG [(zL (yB (zL (zC 0) .nodes) (zC 2)) .key), (zC 1)])) (zI [
      yM (zC 2)]) (zI []),
    zQ (zG 2) (zL (yB (zL (zC 0) .nodes) (zC 2)) .next)]),
  yM (negE (cE (.int 1)))])
noncomputable def f_free_position : Fn := fnD 1 1 [] (zI [
  whileS (zX (zL (zC 0) .free) [(.gt, (cE (.int 0)))]) (zI [
    augF (zC 0) .free .sub (cE (.int 1)),
    ifS (zX (zL (yB (zL (zC 0) .nodes) (zL (zC 0) .free)) .key) [(.is, (cE .none))]) (zI [
      yM (zL (zC 0) .free)]) (zI [])]),
  yM (negE (cE (.int 1)))])
noncomputable def f_get_int : Fn := fnD 2 4 [] (zI [
  ifS (zX (cE (.int 1)) [(.le, (zC 1)), (.le, (wB (zL (zC 0) .array)))]) (zI [
    yM (yB (zL (zC 0) .array) (yX .sub (zC 1) (cE (.int 1))))]) (zI []),
  zQ (zG 2) (yT .table wX (zC 0) [(zC 1)]),
  yM (iteE (zX (zC 2) [(.lt, (cE (.int 0)))]) (cE .none) (zL (yB (zL (zC 0) .nodes) (zC 2)) .value))])
noncomputable def f_get_text : Fn := fnD 2 3 [] (zI [
  zQ (zG 2) (yT .table wX (zC 0) [(zC 1)]),
  yM (iteE (zX (zC 2) [(.lt, (cE (.int 0)))]) (cE .none) (zL (yB (zL (zC 0) .nodes) (zC 2)) .value))])
noncomputable def f_get : Fn := fnD 2 4 [] (zI [
  ifS (zX (zC 1) [(.is, (cE .none))]) (zI [
    yM (cE .none)]) (zI []),
  ifS (xO (zR f_is_number [(zC 1)])) (zI [
    yM (yT .table f_get_int (zC 0) [(zC 1)])]) (zI []),
  zQ (zG 2) (yT .table wX (zC 0) [(zC 1)]),
  yM (iteE (zX (zC 2) [(.lt, (cE (.int 0)))]) (cE .none) (zL (yB (zL (zC 0) .nodes) (zC 2)) .value))])
noncomputable def f_new_key (rh pa : Fn) : Fn := fnD 4 9 [] (zI [
  ifS (zX (wB (zL (zC 0) .nodes)) [(.eq, (cE (.int 0)))]) (zI [
    yR (yT .table rh (zC 0) [(zC 1), (zC 3)]),
    yR (yT .table pa (zC 0) [(zC 1), (zC 2), (zC 3)]),
    yM (cE .none)]) (zI []),
  zQ (zG 4) (yT .table xF (zC 0) [(zC 1)]),
  zQ (zG 5) (yB (zL (zC 0) .nodes) (zC 4)),
  ifS (zX (zL (zC 5) .value) [(.isnot, (cE .none))]) (zI [
    zQ (zG 6) (yT .table f_free_position (zC 0) []),
    ifS (zX (zC 6) [(.lt, (cE (.int 0)))]) (zI [
      yR (yT .table rh (zC 0) [(zC 1), (zC 3)]),
      yR (yT .table pa (zC 0) [(zC 1), (zC 2), (zC 3)]),
      yM (cE .none)]) (zI []),
    zQ (zG 7) (yT .table xF (zC 0) [(zL (zC 5) .key)]),
    ifS (zX (zC 7) [(.ne, (zC 4))]) (zI [
      whileS (zX (zL (yB (zL (zC 0) .nodes) (zC 7)) .next) [(.ne, (zC 4))]) (zI [
        zQ (zG 7) (zL (yB (zL (zC 0) .nodes) (zC 7)) .next)]),
      zQ (yQ (yB (zL (zC 0) .nodes) (zC 7)) .next) (zC 6),
      yR (yT .node f_moved_to (zC 5) [(yB (zL (zC 0) .nodes) (zC 6))]),
      zQ (yQ (zC 5) .next) (negE (cE (.int 1))),
      zQ (yQ (zC 5) .value) (cE .none)]) (zI [
      zQ (yQ (yB (zL (zC 0) .nodes) (zC 6)) .next) (zL (zC 5) .next),
      zQ (yQ (zC 5) .next) (zC 6),
      zQ (zG 5) (yB (zL (zC 0) .nodes) (zC 6))])]) (zI []),
  zQ (yQ (zC 5) .key) (zC 1),
  zQ (yQ (zC 5) .value) (zC 2),
  ifS (zX (zC 3) [(.isnot, (cE .none))]) (zI [
    yR (noE)]) (zI [])])
noncomputable def f_put_again (nk : Fn) : Fn := fnD 4 7 [] (zI [
  zQ (zG 4) (zR wY [(zC 1)]),
  ifS (zX (cE (.int 1)) [(.le, (zC 4)), (.le, (wB (zL (zC 0) .array)))]) (zI [
    zQ (itemA (zL (zC 0) .array) (yX .sub (zC 4) (cE (.int 1)))) (zC 2)]) (zI [
    yR (yT .table nk (zC 0) [(zC 1), (zC 2), (zC 3)])])])
noncomputable def f_put_back (nk : Fn) : Fn := fnD 4 7 [] (zI [
  zQ (zG 4) (zR wY [(zC 1)]),
  ifS (zX (cE (.int 1)) [(.le, (zC 4)), (.le, (wB (zL (zC 0) .array)))]) (zI [
    zQ (itemA (zL (zC 0) .array) (yX .sub (zC 4) (cE (.int 1)))) (zC 2)]) (zI [
    yR (yT .table nk (zC 0) [(zC 1), (zC 2), (zC 3)])])])
noncomputable def f_count_array : Fn := fnD 2 12 [] (zI [
  zQ (zG 2) (cE (.int 0)),
  zQ (zG 3) (cE (.int 1)),
  zQ (zG 4) (cE (.int 1)),
  forS (rngI (cE (.int 0)) (yX .add (cE (.int 26)) (cE (.int 1)))) (zG 5) (zI [
    zQ (zG 6) (minE (zC 4) (wB (zL (zC 0) .array))),
    ifS (zX (zC 3) [(.gt, (zC 6))]) (zI [
      brkS]) (zI []),
    zQ (zG 7) (cE (.int 0)),
    whileS (zX (zC 3) [(.le, (zC 6))]) (zI [
      ifS (zX (yB (zL (zC 0) .array) (yX .sub (zC 3) (cE (.int 1)))) [(.isnot, (cE .none))]) (zI [
        augS 7 .add (cE (.int 1))]) (zI []),
      augS 3 .add (cE (.int 1))]),
    noS,
    augS 2 .add (zC 7),
    augS 4 .mul (cE (.int 2))]),
  yM (zC 2)])
noncomputable def f_count_nodes : Fn := fnD 2 6 [] (zI [
  zQ (zG 2) (cE (.int 0)),
  zQ (zG 3) (cE (.int 0)),
  forS (xJ (zL (zC 0) .nodes)) (zG 4) (zI [
    ifS (zX (zL (zC 4) .value) [(.isnot, (cE .none))]) (zI [
      augS 3 .add (zR f_count_key [(zL (zC 4) .key), (zC 1)]),
      augS 2 .add (cE (.int 1))]) (zI [])]),
  yM (wU [(zC 2), (zC 3)])])
noncomputable def f_make_nodes : Fn := fnD 2 7 [] (zI [
  ifS (zX (zC 1) [(.gt, (cE (.int 1048576)))]) (zI [
    noS]) (zI []),
  zQ (yQ (zC 0) .nodes) (xM []),
  zQ (yQ (zC 0) .log_nodes) (cE (.int 0)),
  ifS (zX (zC 1) [(.gt, (cE (.int 0)))]) (zI [
    zQ (yQ (zC 0) .log_nodes) (zR f_ceil_log2 [(zC 1)]),
    zQ (yQ (zC 0) .nodes) (xR (rngI (cE (.int 0)) (yX .shl (cE (.int 1)) (zL (zC 0) .log_nodes))) [none, none, none] (zG 1) [] (newE .node f_Node_init []))]) (zI []),
  zQ (yQ (zC 0) .free) (wB (zL (zC 0) .nodes))])
noncomputable def f_weigh : Fn := fnD 2 6 [] (zI [
  ifS (zX (zC 1) [(.isnot, (cE .none))]) (zI [
    yR (noE)]) (zI [
    zQ (yQ (zC 0) .size) (yX .add (yX .add (cE (.int 56)) (yX .mul (cE (.int 16)) (wB (zL (zC 0) .array)))) (yX .mul (cE (.int 32)) (wB (zL (zC 0) .nodes))))])])
noncomputable def f_resize (pb : Fn) : Fn := fnD 4 15 [V.none] (zI [
  ifS (orT (zX (zC 1) [(.gt, (cE (.int 4194304)))]) (zX (zC 2) [(.gt, (cE (.int 1048576)))])) (zI [
    noS]) (zI []),
  zQ (zG 4) (zL (zC 0) .nodes),
  zQ (zG 5) (tailE (zL (zC 0) .array) (zC 1)),
  zQ (yQ (zC 0) .array) (headE (zL (zC 0) .array) (zC 1)),
  whileS (zX (wB (zL (zC 0) .array)) [(.lt, (zC 1))]) (zI [
    yR (xZ (zL (zC 0) .array) (cE .none))]),
  yR (yT .table f_make_nodes (zC 0) [(zC 2)]),
  forS (enmI (zC 5)) (jB [(zG 6), (zG 7)]) (zI [
    ifS (zX (zC 7) [(.isnot, (cE .none))]) (zI [
      yR (yT .table pb (zC 0) [(yX .add (yX .add (zC 1) (zC 6)) (cE (.int 1))), (zC 7), (zC 3)])]) (zI [])]),
  forS (revI (zC 4)) (zG 8) (zI [
    ifS (zX (zL (zC 8) .value) [(.isnot, (cE .none))]) (zI [
      yR (yT .table pb (zC 0) [(zL (zC 8) .key), (zL (zC 8) .value), (zC 3)])]) (zI [])]),
  yR (yT .table f_weigh (zC 0) [(zC 3)])])
noncomputable def f_rehash (rs : Fn) : Fn := fnD 3 13 [] (zI [
  zQ (zG 3) (yX .mul (xM [(cE (.int 0))]) (yX .add (cE (.int 26)) (cE (.int 1)))),
  zQ (zG 4) (yT .table f_count_array (zC 0) [(zC 3)]),
  zQ (zG 5) (zC 4),
  zQ (jB [(zG 6), (zG 7)]) (yT .table f_count_nodes (zC 0) [(zC 3)]),
  augS 5 .add (yX .add (zC 6) (cE (.int 1))),
  augS 4 .add (yX .add (zC 7) (zR f_count_key [(zC 1), (zC 3)])),
  zQ (jB [(zG 8), (zG 9)]) (zR f_compute_sizes [(zC 3), (zC 4)]),
  yR (yT .table rs (zC 0) [(zC 8), (yX .sub (zC 5) (zC 9)), (zC 2)])])
noncomputable def nk0 : Fn := f_new_key noF noF
noncomputable def pb0 : Fn := f_put_back nk0
noncomputable def pa0 : Fn := f_put_again nk0
noncomputable def rs0 : Fn := f_resize pb0
noncomputable def rh0 : Fn := f_rehash rs0
noncomputable def nk1 : Fn := f_new_key rh0 pa0
noncomputable def f_put (nk : Fn) : Fn := fnD 4 8 [] (zI [
  zQ (zG 4) (zR wY [(zC 1)]),
  ifS (zX (cE (.int 1)) [(.le, (zC 4)), (.le, (wB (zL (zC 0) .array)))]) (zI [
    zQ (itemA (zL (zC 0) .array) (yX .sub (zC 4) (cE (.int 1)))) (zC 2)]) (zI [
    zQ (zG 5) (yT .table wX (zC 0) [(zC 1)]),
    ifS (zX (zC 5) [(.ge, (cE (.int 0)))]) (zI [
      zQ (yQ (yB (zL (zC 0) .nodes) (zC 5)) .value) (zC 2)]) (zI [
      yR (yT .table nk (zC 0) [(zC 1), (zC 2), (zC 3)])])]),
  ifS (zX (zC 3) [(.isnot, (cE .none))]) (zI [
    yR (noE)]) (zI [])])
noncomputable def f_set (pt : Fn) : Fn := fnD 4 5 [] (zI [
  zQ (yQ (zC 0) .flags) (cE (.int 0)),
  ifS (zX (zC 1) [(.is, (cE .none))]) (zI [
    noS]) (zI []),
  yR (yT .table pt (zC 0) [(zC 1), (zC 2), (zC 3)])])
noncomputable def pt1 : Fn := f_put nk1
noncomputable def set1 : Fn := f_set pt1
noncomputable def jH : Fn := fnD 4 6 [] (zI [
  yR (zR f_HeapObject_init [(zC 0), (zC 1), (cE (.int 56))]),
  zQ (yQ (zC 0) .mta) (cE .none),
  zQ (yQ (zC 0) .flags) (cE (.int 0)),
  zQ (yQ (zC 0) .weak) (cE (.bytes [])),
  zQ (yQ (zC 0) .array) (xM []),
  zQ (yQ (zC 0) .nodes) (xM []),
  zQ (yQ (zC 0) .log_nodes) (cE (.int 0)),
  zQ (yQ (zC 0) .free) (cE (.int 0)),
  ifS (orT (zX (zC 2) [(.gt, (cE (.int 0)))]) (zX (zC 3) [(.gt, (cE (.int 0)))])) (zI [
    yR (yT .table rs0 (zC 0) [(zC 2), (zC 3)])]) (zI [])])
noncomputable def xS : Fn := fnD 2 12 [] (zI [
  ifS (zX (zC 1) [(.is, (cE .none))]) (zI [
    yM (negE (cE (.int 1)))]) (zI []),
  zQ (zG 2) (zR wY [(zC 1)]),
  ifS (zX (cE (.int 1)) [(.le, (zC 2)), (.le, (wB (zL (zC 0) .array)))]) (zI [
    yM (yX .sub (zC 2) (cE (.int 1)))]) (zI []),
  zQ (zG 3) (iteE (zX (wB (zL (zC 0) .nodes)) [(.gt, (cE (.int 0)))]) (yT .table xF (zC 0) [(zC 1)]) (negE (cE (.int 1)))),
  whileS (zX (zC 3) [(.ge, (cE (.int 0)))]) (zI [
    zQ (zG 4) (zL (yB (zL (zC 0) .nodes) (zC 3)) .key),
    ifS (xO (zR xG [(zC 4), (zC 1)])) (zI [
      yM (yX .add (wB (zL (zC 0) .array)) (zC 3))]) (zI []),
    ifS (andT (xO (jC (zC 4) [.dead])) (andT (xO (zR wZ [(zC 1)])) (zX (zL (zC 4) .number) [(.eq, (zL (zC 1) .number))]))) (zI [
      yM (yX .add (wB (zL (zC 0) .array)) (zC 3))]) (zI []),
    zQ (zG 3) (zL (yB (zL (zC 0) .nodes) (zC 3)) .next)]),
  noS])
noncomputable def f_next : Fn := fnD 2 6 [] (zI [
  zQ (zG 2) (yX .add (yT .table xS (zC 0) [(zC 1)]) (cE (.int 1))),
  whileS (zX (zC 2) [(.lt, (wB (zL (zC 0) .array)))]) (zI [
    ifS (zX (yB (zL (zC 0) .array) (zC 2)) [(.isnot, (cE .none))]) (zI [
      yM (wU [(yX .add (zC 2) (cE (.int 1))), (yB (zL (zC 0) .array) (zC 2))])]) (zI []),
    augS 2 .add (cE (.int 1))]),
  zQ (zG 3) (yX .sub (zC 2) (wB (zL (zC 0) .array))),
  whileS (zX (zC 3) [(.lt, (wB (zL (zC 0) .nodes)))]) (zI [
    zQ (zG 4) (yB (zL (zC 0) .nodes) (zC 3)),
    ifS (zX (zL (zC 4) .value) [(.isnot, (cE .none))]) (zI [
      yM (wU [(zL (zC 4) .key), (zL (zC 4) .value)])]) (zI []),
    augS 3 .add (cE (.int 1))]),
  yM (cE .none)])
noncomputable def f_bury : Fn := fnD 2 5 [] (zI [
  zQ (zG 2) (yB (zL (zC 0) .nodes) (zC 1)),
  zQ (yQ (zC 2) .value) (cE .none),
  ifS (xO (zR wZ [(zL (zC 2) .key)])) (zI [
    zQ (yQ (zC 2) .key) (newE .dead f_DeadKey_init [(zL (zL (zC 2) .key) .number)])]) (zI [])])
noncomputable def f_weak_mode : Fn := fnD 1 7 [] (zI [
  zQ (zG 1) (iteE (zX (zC 0) [(.is, (cE .none))]) (cE .none) (yT .table f_get_text (zC 0) [(cE (.bytes [95, 95, 109, 111, 100, 101]))])),
  ifS (notT (xO (jC (zC 1) [.bytes]))) (zI [
    yM (cE (.bytes []))]) (zI []),
  zQ (jB [(zG 2), (zG 3)]) (wU [(findE (zC 1) (cE (.bytes [0]))), (cE (.bytes []))]),
  zQ (zG 1) (iteE (zX (zC 2) [(.lt, (cE (.int 0)))]) (zC 1) (headE (zC 1) (zC 2))),
  forS (xJ (wU [(cE (.bytes [107])), (cE (.bytes [118]))])) (zG 4) (zI [
    ifS (zX (zC 4) [(.isin, (zC 1))]) (zI [
      zQ (zG 3) (yX .add (zC 3) (zC 4))]) (zI [])]),
  yM (zC 3)])
noncomputable def f_is_white : Fn := fnD 1 2 [] (zI [
  yM (cmpE (zL (zC 0) .mark) [(.lt, (cE (.int 2)))])])
noncomputable def f_is_lost : Fn := fnD 3 4 [] (zI [
  yM (orE (zR f_is_white [(zC 0)]) (andE (zC 2) (notE (zC 1))))])
noncomputable def f_is_object : Fn := fnD 1 9 [] (zI [
  yM (jC (zC 0) [.table, .other, .pyclo, .udata, .other, .other, .other])])
noncomputable def wG : Fn := fnD 1 3 [] (zI [
  yM (andE (zR f_is_object [(zC 0)]) (zR f_is_lost [(zC 0), (cE (.bool true)), (cE (.bool false))]))])
noncomputable def f_is_lost_value : Fn := fnD 1 5 [] (zI [
  ifS (notT (xO (zR f_is_object [(zC 0)]))) (zI [
    yM (cE (.bool false))]) (zI []),
  yM (zR f_is_lost [(zC 0), (cE (.bool false)), (andE (jC (zC 0) [.udata]) (zL (zC 0) .is_finalized))])])
noncomputable def applyV (f : V) : Fn := match f with | .fn 0 => wG | .fn 1 => f_is_lost_value | _ => noF
noncomputable def callVE (f : Ex V) (args : List (Ex V)) : Ex V := yD f fun g => yD (seqE args) fun vs => jL (applyV g vs)
noncomputable def f_lost_places : Fn := fnD 2 4 [] (zI [
  yM (xR (rngI (cE (.int 0)) (wB (zC 0))) [none, none, some 1, some 0] (zG 1) [(xO (callVE (zC 2) [(yB (zC 3) (zC 1))]))] (zC 1))])
noncomputable def f_lost_entries : Fn := fnD 3 9 [] (zI [
  zQ (zG 3) (xM []),
  forS (rngI (cE (.int 0)) (wB (zC 0))) (zG 4) (zI [
    zQ (jB [(zG 5), (zG 6)]) (yB (zC 0) (zC 4)),
    ifS (andT (zX (zC 6) [(.isnot, (cE .none))]) (orT (xO (callVE (zC 1) [(zC 5)])) (xO (callVE (zC 2) [(zC 6)])))) (zI [
      yR (xZ (zC 3) (zC 4))]) (zI [])]),
  yM (zC 3)])
noncomputable def f_kept_of_entry : Fn := fnD 3 4 [] (zI [
  zQ (zG 3) (iteE (zX (cE (.bytes [107])) [(.isin, (zC 2))]) (xM []) (xM [(zC 0)])),
  ifS (zX (cE (.bytes [118])) [(.notin, (zC 2))]) (zI [
    yR (xZ (zC 3) (zC 1))]) (zI []),
  yM (zC 3)])
noncomputable def f_objects_of : Fn := fnD 1 1 [] (zI [
  yM (xR (xJ (zC 0)) [none, none, none] (zG 1) [(xO (zR f_is_object [(zC 1)]))] (zC 1))])
noncomputable def f_table_children : Fn := fnD 1 8 [] (zI [
  zQ (yQ (zC 0) .weak) (zR f_weak_mode [(zL (zC 0) .mta)]),
  zQ (zG 1) (xM [(zL (zC 0) .mta)]),
  ifS (zX (cE (.bytes [118])) [(.notin, (zL (zC 0) .weak))]) (zI [
    yR (extendE (zC 1) (zL (zC 0) .array))]) (zI []),
  forS (rngI (cE (.int 0)) (wB (zL (zC 0) .nodes))) (zG 2) (zI [
    zQ (zG 3) (yB (zL (zC 0) .nodes) (zC 2)),
    ifS (zX (zL (zC 3) .value) [(.is, (cE .none))]) (zI [
      yR (yT .table f_bury (zC 0) [(zC 2)])]) (zI [
      yR (extendE (zC 1) (zR f_kept_of_entry [(zL (zC 3) .key), (zL (zC 3) .value), (zL (zC 0) .weak)]))])]),
  yM (zC 1)])
noncomputable def f_children_of : Fn := fnD 1 12 [] (zI [
  ifS (xO (jC (zC 0) [.table])) (zI [
    yM (zR f_objects_of [(zR f_table_children [(zC 0)])])]) (zI []),
  noS,
  noS,
  noS,
  noS,
  noS,
  noS,
  noS])
noncomputable def f_table_size : Fn := fnD 1 5 [] (zI [
  yM (yX .add (yX .add (cE (.int 8)) (yX .mul (cE (.int 1)) (wB (zL (zC 0) .array)))) (yX .mul (cE (.int 2)) (wB (zL (zC 0) .nodes))))])
noncomputable def f_clear_table : Fn := fnD 1 8 [] (zI [
  ifS (zX (cE (.bytes [118])) [(.isin, (zL (zC 0) .weak))]) (zI [
    forS (xJ (zR f_lost_places [(zL (zC 0) .array), (cE (.fn 1))])) (zG 1) (zI [
      zQ (itemA (zL (zC 0) .array) (zC 1)) (cE .none)])]) (zI []),
  zQ (zG 2) (xR (xJ (zL (zC 0) .nodes)) [none, none] (zG 1) [] (wU [(zL (zC 1) .key), (zL (zC 1) .value)])),
  forS (xJ (zR f_lost_entries [(zC 2), (cE (.fn 0)), (cE (.fn 1))])) (zG 3) (zI [
    yR (yT .table f_bury (zC 0) [(zC 3)])])])
noncomputable def f_without : Fn := fnD 2 2 [] (zI [
  yM (xR (xJ (zC 0)) [none, none, some 1] (zG 1) [(zX (zL (zC 1) .number) [(.ne, (zL (zC 2) .number))])] (zC 1))])
noncomputable def f__law_sack : Fn := fnD 1 3 [] (zI [
  zQ (zG 1) (xR (xJ (headE (zC 0) (cE (.int 60)))) [none, none, none] (zG 1) [] (absE (zC 1))),
  yM (xM [(zC 1), (yX .mod (sumE (zC 1)) (cE (.int 71))), (cE (.int 0))])])
noncomputable def yG : Fn := fnD 2 4 [] (zI [
  zQ (zG 2) (yB (zC 0) (cE (.int 2))),
  zQ (itemA (zC 0) (cE (.int 2))) (yX .add (zC 2) (cE (.int 1))),
  yM (yX .mod (iteE (zX (zC 2) [(.lt, (wB (yB (zC 0) (cE (.int 0)))))]) (yB (yB (zC 0) (cE (.int 0))) (zC 2)) (yX .add (yX .add (yB (zC 0) (cE (.int 1))) (yX .mul (cE (.int 5)) (zC 2))) (yX .fdiv (zC 2) (cE (.int 2))))) (zC 1))])
noncomputable def f__law_objects : Fn := fnD 1 12 [] (zI [
  zQ (zG 1) (xM [(newE .table jH [(cE (.int 20)), (cE (.int 0)), (cE (.int 0))]), (newE .table jH [(cE (.int 21)), (cE (.int 0)), (cE (.int 0))]), (newE .udata f_Userdata_init [(cE (.str [120])), (cE .none), (cE .none)]), (newE .udata f_Userdata_init [(cE (.str [121])), (cE .none), (cE .none)])]),
  zQ (zG 1) (yX .add (zC 1) (xM [(newE .pyclo f_PyClosure_init [(cE .none), (cE (.bytes [102])), (xM []), (cE .none)]), (newE .pyclo f_PyClosure_init [(cE .none), (cE (.bytes [103])), (xM []), (cE .none)])])),
  forS (enmI (zC 1)) (jB [(zG 2), (zG 3)]) (zI [
    zQ (jB [(yQ (zC 3) .number), (yQ (zC 3) .mark)]) (wU [(yX .add (cE (.int 20)) (zC 2)), (yB (xM [(cE (.int 0)), (cE (.int 1)), (cE (.int 2)), (cE (.int 3))]) (zR yG [(zC 0), (cE (.int 4))]))]),
    ifS (xO (jC (zC 3) [.udata])) (zI [
      zQ (yQ (zC 3) .is_finalized) (cmpE (zR yG [(zC 0), (cE (.int 3))]) [(.eq, (cE (.int 0)))])]) (zI [])]),
  yM (zC 1)])
noncomputable def f__law_meta : Fn := fnD 1 6 [] (zI [
  zQ (zG 1) (zR yG [(zC 0), (cE (.int 7))]),
  ifS (zX (zC 1) [(.eq, (cE (.int 6)))]) (zI [
    yM (wU [(cE .none), (cE (.str []))])]) (zI []),
  zQ (jB [(zG 2), (zG 3)]) (wU [(newE .table jH [(cE (.int 40)), (cE (.int 0)), (cE (.int 0))]), (xM [(cE (.bytes [107])), (cE (.bytes [118])), (cE (.bytes [107, 118])), (cE (.bytes [118, 107])), (cE (.bytes [120])), (cE (.int 5))])]),
  yR (yT .table set1 (zC 2) [(cE (.bytes [95, 95, 109, 111, 100, 101])), (yB (zC 3) (zC 1)), (cE .none)]),
  yM (wU [(zC 2), (joinE (xR (xJ (cE (.str [107, 118]))) [none, none, none, none, none, some 1, some 3] (zG 1) [(andT (xO (jC (yB (zC 6) (zC 5)) [.bytes])) (zX (ordE (zC 1)) [(.isin, (yB (zC 6) (zC 5)))]))] (zC 1)))])])
noncomputable def yK : Fn := fnD 1 4 [] (zI [
  yM (iteE (xO (jC (zC 0) [.heap])) (wU [(cE (.str [111, 98, 106, 101, 99, 116])), (zL (zC 0) .number)]) (wU [(cE (.str [112, 108, 97, 105, 110])), (reprE (zC 0))]))])
noncomputable def yC : Fn := fnD 2 6 [] (zI [
  ifS (notT (xO (jC (zC 0) [.heap]))) (zI [
    yM (cE (.bool false))]) (zI []),
  yM (orE (cmpE (zL (zC 0) .mark) [(.lt, (cE (.int 2)))]) (andE (notE (zC 1)) (andE (jC (zC 0) [.udata]) (zL (zC 0) .is_finalized))))])
noncomputable def f__law_kept : Fn := fnD 3 10 [] (zI [
  zQ (zG 3) (iteE (zX (zL (zC 0) .mta) [(.is, (cE .none))]) (xM []) (xM [(zL (zC 0) .mta)])),
  forS (xJ (zC 1)) (jB [(zG 4), (zG 5)]) (zI [
    zQ (zG 6) (andE (jC (zC 4) [.int]) (cmpE (zC 4) [(.lt, (cE (.int 4)))])),
    ifS (andT (notT (xO (zC 6))) (zX (cE (.str [107])) [(.notin, (zC 2))])) (zI [
      yR (xZ (zC 3) (zC 4))]) (zI []),
    ifS (zX (cE (.str [118])) [(.notin, (zC 2))]) (zI [
      yR (xZ (zC 3) (zC 5))]) (zI [])]),
  yM (sortedE (xR (xJ (zC 3)) [none, none, none, none] (zG 1) [(xO (jC (zC 1) [.heap]))] (zL (zC 1) .number)))])
noncomputable def f__law_walked : Fn := fnD 1 7 [] (zI [
  zQ (jB [(zG 1), (zG 2)]) (wU [(xM []), (cE .none)]),
  forS (rngI (cE (.int 0)) (cE (.int 30))) (zG 3) (zI [
    zQ (zG 4) (yT .table f_next (zC 0) [(zC 2)]),
    ifS (zX (zC 4) [(.is, (cE .none))]) (zI [
      yM (zC 1)]) (zI []),
    zQ (zG 2) (yB (zC 4) (cE (.int 0))),
    yR (xZ (zC 1) (wU [(zR yK [(zC 2)]), (zR yK [(yB (zC 4) (cE (.int 1)))])]))]),
  yM (cE .none)])
noncomputable def f__law_lists_right : Fn := fnD 2 10 [] (zI [
  zQ (zG 2) (yX .add (xR (rngI (cE (.int 0)) (zR yG [(zC 1), (cE (.int 5))])) [none, none, none, some 0, some 1] (zG 1) [] (yB (zC 3) (zR yG [(zC 4), (cE (.int 6))]))) (xM [(cE (.str [116, 101, 120, 116])), (cE (.int 4))])),
  ifS (zX (zR f_lost_places [(zC 2), (cE (.fn 1))]) [(.ne, (xR (enmI (zC 2)) [none, none, none, none] (jB [(zG 1), (zG 2)]) [(xO (zR yC [(zC 2), (cE (.bool false))]))] (zC 1)))]) (zI [
    yM (cE (.bool false))]) (zI []),
  zQ (zG 3) (yB (zC 0) (zR yG [(zC 1), (cE (.int 6))])),
  yM (cmpE (xR (xJ (zR f_without [(zC 0), (zC 3)])) [none, none] (zG 1) [] (zL (zC 1) .number)) [(.eq, (xR (xJ (zC 0)) [none, none, some 3] (zG 1) [(zX (zL (zC 1) .number) [(.ne, (zL (zC 2) .number))])] (zL (zC 1) .number)))])])
noncomputable def f_law : Fn := fnD 1 33 [] (zI [
  zQ (zG 1) (zR f__law_sack [(zC 0)]),
  zQ (jB [(jB [(zG 2), (zG 3)]), (zG 4)]) (wU [(zR f__law_meta [(zC 1)]), (zR f__law_objects [(zC 1)])]),
  zQ (jB [(zG 5), (zG 6)]) (wU [(newE .table jH [(cE (.int 30)), (cE (.int 3)), (cE (.int 8))]), (xM [])]),
  zQ (yQ (zC 5) .mta) (zC 2),
  zQ (zG 7) (yX .add (xM [(cE (.bytes [116, 97, 105, 108])), (cE (.int 7)), (cE (.bool true)), (cE (.bytes [116, 101, 120, 116]))]) (zC 4)),
  forS (xJ (yX .add (xM [(cE (.int 1)), (cE (.int 2)), (cE (.int 3)), (cE (.bytes [107])), (cE (.int 100))]) (revE (zC 4)))) (zG 8) (zI [
    ifS (zX (zR yG [(zC 1), (cE (.int 3))]) [(.gt, (cE (.int 0)))]) (zI [
      zQ (zG 9) (yB (zC 7) (zR yG [(zC 1), (cE (.int 10))])),
      yR (yT .table set1 (zC 5) [(zC 8), (zC 9), (cE .none)]),
      yR (xZ (zC 6) (wU [(zC 8), (zC 9)]))]) (zI [])]),
  ifS (orT (zX (zR f_table_size [(zC 5)]) [(.ne, (yX .add (yX .add (cE (.int 8)) (wB (zL (zC 5) .array))) (yX .mul (cE (.int 2)) (wB (zL (zC 5) .nodes)))))]) (zX (wB (zL (zC 5) .array)) [(.ne, (cE (.int 3)))])) (zI [
    yM (cE (.bool false))]) (zI []),
  ifS (orT (zX (sortedE (xR (xJ (zR f_children_of [(zC 5)])) [none, none] (zG 1) [] (zL (zC 1) .number))) [(.ne, (zR f__law_kept [(zC 5), (zC 6), (zC 3)]))]) (zX (zL (zC 5) .weak) [(.ne, (encodeE (zC 3)))])) (zI [
    yM (cE (.bool false))]) (zI []),
  ifS (orT (zX (xR (xJ (zC 4)) [none, none, none] (zG 1) [] (zR yC [(zC 1), (cE (.bool true))])) [(.ne, (xR (xJ (zC 4)) [none, none, none] (zG 1) [] (zR wG [(zC 1)])))]) (xO (zR wG [(cE (.bytes [116, 101, 120, 116]))]))) (zI [
    yM (cE (.bool false))]) (zI []),
  yR (zR f_clear_table [(zC 5)]),
  zQ (jB [(zG 10), (zG 11)]) (wU [(xM []), (xM [])]),
  forS (xJ (zC 6)) (jB [(zG 8), (zG 9)]) (zI [
    zQ (zG 12) (andE (jC (zC 8) [.int]) (cmpE (zC 8) [(.lt, (cE (.int 4)))])),
    zQ (zG 13) (iteE (xO (zC 12)) (andE (cmpE (cE (.str [118])) [(.isin, (zC 3))]) (zR yC [(zC 9), (cE (.bool false))])) (orE (zR yC [(zC 8), (cE (.bool true))]) (zR yC [(zC 9), (cE (.bool false))]))),
    yR (xZ (iteE (xO (zC 13)) (zC 11) (zC 10)) (wU [(zC 8), (zC 9)]))]),
  ifS (zX (xR (xJ (zC 11)) [none, none, none, some 5] (jB [(zG 1), (zG 2)]) [(zX (yT .table f_get (zC 3) [(zC 1)]) [(.isnot, (cE .none))])] (zC 1)) [(.ne, (xM []))]) (zI [
    yM (cE (.bool false))]) (zI []),
  ifS (zX (sortedE (zR f__law_walked [(zC 5)])) [(.ne, (sortedE (xR (xJ (zC 10)) [none, none, none, none] (jB [(zG 1), (zG 2)]) [] (wU [(zR yK [(zC 1)]), (zR yK [(zC 2)])]))))]) (zI [
    yM (cE (.bool false))]) (zI []),
  forS (xJ (zC 11)) (jB [(zG 8), (zG 9)]) (zI [
    ifS (orT (notT (xO (jC (zC 8) [.int]))) (zX (zC 8) [(.gt, (cE (.int 3)))])) (zI [
      zQ (zG 14) (yT .table f_next (zC 5) [(zC 8)]),
      ifS (andT (zX (zC 14) [(.isnot, (cE .none))]) (zX (zR yK [(yB (zC 14) (cE (.int 0)))]) [(.notin, (xR (xJ (zC 10)) [none, none, none, none] (jB [(zG 1), (zG 2)]) [] (zR yK [(zC 1)])))])) (zI [
        yM (cE (.bool false))]) (zI [])]) (zI [])]),
  yM (zR f__law_lists_right [(zC 4), (zC 1)])])
end Mine


section
open PySem PySem.W PySem.Calls PyProof.Rows PySem.Spec PySem.Builtin
namespace Mine
section
variable {G : Gd} {cx : Scope} {n : Nat}
theorem sim_and3 {x y z : PySem.Expr} {a b c : Ex V} {pos : Pos} (h1 : yE G cx n (eval x) a (VRG G)) (h2 : yE G cx n (eval (.BoolOp .And [y, z] pos)) (andE b c) (VRG G)) : yE G cx n (eval (.BoolOp .And [x, y, z] pos)) (andE a (andE b c)) (VRG G) := by
  intro A env φ ρ σ s Q E v σ' rm er hr hm q
  refine BoolOp_and (yO h1 rm er hr hm fun x x' φ₁ σ₁ h₁ tk₁ st₁ er₁ hr₁ r₁ hm₁ => ?_)
  split at hm₁
  · cases r₁
    exact xV (h2 A env φ₁ ρ σ₁ { s with heap := h₁, toks := tk₁ } Q E v σ' rm er₁ hr₁ hm₁ fun y φ₂ h₂ tk₂ st₂ hr₂ r₂ => q _ φ₂ h₂ tk₂ (st₁.trans st₂) hr₂ r₂)
  · cases r₁; cases hm₁
    exact xV (q _ φ₁ h₁ tk₁ st₁ hr₁ (.bool _))
  · cases hm₁
theorem simf_no {f : Value} : yU G n f noF := fun _ _ _ _ _ _ _ _ _ _ _ _ hm => nomatch hm
theorem yL {x : PySem.Str} {pos : Pos} {i : Nat} {v : Int} (hx : xU cx.names x = some (i, .globalImplicit)) (he : ∃ t, nsIn G.K mainGlobals x = some (some (.int v t))) (hd : (x == ("__debug__" : PySem.Str)) = false) : yE G cx n (eval (.Name x pos)) (cE (.int v)) (VRG G) := by
  obtain ⟨t, he⟩ := he
  exact sim_glob hx he (fun _ _ => .int _ _) hd
theorem sim_globF {x : PySem.Str} {pos : Pos} {i k : Nat} (hx : xU cx.names x = some (i, .globalImplicit)) (he : nsIn G.K mainGlobals x = some (some (.ref (G.fa k)))) (hd : (x == ("__debug__" : PySem.Str)) = false) : yE G cx n (eval (.Name x pos)) (cE (.fn k)) (VRG G) :=
  sim_glob hx he (fun _ _ => .fn _) hd
theorem sim_init {x : PySem.Str} {p apos pos : Pos} {i : Nat} {C f : Addr} {F : Fn} {es : List PySem.Expr} {cs : List (Ex V)} {mc : Value} (ha : Args G cx n es cs) (hF : yU G n (.ref f) F) (hx : xU cx.names x = some (i, .globalImplicit)) (he : nsIn G.K mainGlobals x = some (some (.ref C))) (hk : keepIn G.K (.ref f) = true) (hd : (x == ("__debug__" : PySem.Str)) = false)
    (hg : specialIn G.K (.ref C) "__getattribute__" = some (some (.builtin "type.__getattribute__"))) (hr : readsIn G.K C mc = true) (hc : findCls G.K (.ref C) mc "__init__" = some (.val (.ref f))) (pl : Env → Sem Bool)
    (heq : ∀ env, eval (.Call (.Attribute (.Name x p) "__init__" apos) es [] pos) env = (do
      let ov ← eval (.Name x p) env
      standAt apos.atName
      let (f, first) ← holding [ov] (getMethod ov "__init__" (pl env))
      callWith pos f first (backTo pos (starEach es env)) (backToKw pos (keywordEach [] env)))) :
    yE G cx n (eval (.Call (.Attribute (.Name x p) "__init__" apos) es [] pos)) (zR F cs) (VRG G) := by
  intro A env φ ρ σ s Q E v σ' rm er hr' hm q
  refine methodCall_KW (pl := pl env) (name_glob er hr' hx he hd ?_) (heq env)
  refine method_cls hr'.inK hg (cls_value hr'.inK hr hc rfl ?_)
  exact sim_calls (s := { s with toks := s.toks + 1 }) (us := []) (first := []) hk ha hF rm er hr' .nil hm q
theorem sim_callV {x : PySem.Str} {p pos : Pos} {i : Nat} {k : NameKind} {es : List PySem.Expr} {cs : List (Ex V)} (ha : Args G cx n es cs) (h0 : yU G n (.ref (G.fa 0)) wG) (h1 : yU G n (.ref (G.fa 1)) f_is_lost_value) (k0 : keepIn G.K (.ref (G.fa 0)) = true) (k1 : keepIn G.K (.ref (G.fa 1)) = true)
    (hx : xU cx.names x = some (i, k)) (hd : (x == ("__debug__" : PySem.Str)) = false) (hcd : (x == ("__classdict__" : PySem.Str)) = false) : yE G cx n (eval (.Call (.Name x p) es [] pos)) (callVE (zC i) cs) (VRG G) := by
  intro A env φ ρ σ s Q E v σ' rm er hr hm q
  rw [arm_eval_Call_Name']
  unfold callVE at hm
  refine wpAny_bind (yO (zA (G := G) (n := n) hx hd hcd) rm er hr hm fun a g φ₁ σ₁ h₁ tk₁ st₁ er₁ hr₁ r₁ hm₁ => ?_)
  obtain ⟨vs, σ₂, e1, e2⟩ := xY hm₁
  have e2' : applyV g vs σ₂ = some (v, σ') := e2
  have go : ∀ (f : Addr) (F : Fn), keepIn G.K (.ref f) = true → yU G n (.ref f) F → yD (seqE cs) (fun vs => jL (F vs)) ρ σ₁ = some (v, σ') → a = .ref f → wpAny (model G.prog G.w) A (callWith pos a [] (backTo pos (starEach es env)) (backToKw pos (keywordEach [] env))) Q E { s with heap := h₁, toks := tk₁ } := fun f F hk hF hm e => by
    subst e
    exact sim_calls (s := { s with heap := h₁, toks := tk₁ }) (us := []) (first := []) hk ha hF rm er₁ hr₁ .nil hm fun a φ' h' tk st hr' r => q a φ' h' tk (st₁.trans st) hr' r
  unfold applyV at e2'
  split at e2'
  · cases r₁; exact go _ _ k0 h0 hm₁ rfl
  · cases r₁; exact go _ _ k1 h1 hm₁ rfl
  · cases e2'
end
noncomputable def yZ (k : Nat) (l : List Stmt) : Stmt := l.getD k (.Pass default)
noncomputable def fdBody : Stmt → List Stmt
  | .FunctionDef _ _ b .. => b
  | _ => []
noncomputable def jN : Stmt → Scope
  | .FunctionDef _ _ _ _ _ _ sc .. => sc
  | _ => default
noncomputable def fdArgs : Stmt → Arguments
  | .FunctionDef _ a .. => a
  | _ => default
noncomputable def wC : Stmt → List Stmt
  | .ClassDef _ _ _ b .. => b
  | _ => []
noncomputable def fdNames (s : Stmt) : List PySem.Str := (fdArgs s).args.map (·.arg)
noncomputable def yY (G : Gd) (f : Addr) (name qual : PySem.Str) (st : Stmt) : Prop :=
  ∃ (oc : Value) (od : Option Addr) (osl : Array (Option Value)) (kV doc pm cdv ct : Value) (an : Option Addr), G.K.lookup f = some ⟨oc, od, .func (fnOf name qual (fdArgs st) (fdBody st) (jN st) .none kV doc pm an cdv ct), osl⟩ ∧ codeIn G.K cdv qual = true
noncomputable def DefAtD (G : Gd) (f : Addr) (name qual : PySem.Str) (st : Stmt) (dvs : List Value → Prop) : Prop :=
  ∃ (oc : Value) (od : Option Addr) (osl : Array (Option Value)) (kV doc pm cdv ct : Value) (an : Option Addr) (T : Addr) (o : Obj) (items : List Value) (k : Nat), G.K.lookup f = some ⟨oc, od, .func (fnOf name qual (fdArgs st) (fdBody st) (jN st) (.ref T) kV doc pm an cdv ct), osl⟩ ∧ codeIn G.K cdv qual = true ∧
    G.K.lookup T = some o ∧ o.data = .seq items.toArray k ∧ dvs items
noncomputable def BindN (np : Nat) (P : List Value → Prop) : Prop := match np with
  | 1 => ∀ a, P [a]
  | 2 => ∀ a b, P [a, b]
  | 3 => ∀ a b c, P [a, b, c]
  | 4 => ∀ a b c d, P [a, b, c, d]
  | 5 => ∀ a b c d e, P [a, b, c, d, e]
  | _ => False
theorem BindN.at {np : Nat} {P : List Value → Prop} (h : BindN np P) (as : List Value) (l : as.length = np) : P as := by
  subst l
  cases as with
  | nil => exact h.elim
  | cons a as => cases as with
    | nil => exact h a
    | cons b as => cases as with
      | nil => exact h a b
      | cons c as => cases as with
        | nil => exact h a b c
        | cons d as => cases as with
          | nil => exact h a b c d
          | cons e as => cases as with
            | nil => exact h a b c d e
            | cons f as => exact h.elim
section
variable {G : Gd} {n : Nat}
theorem zZ {f : Addr} {name qual : PySem.Str} {st : Stmt} {np ns : Nat} {t : St} (D : yY G f name qual st) (hp : defB (jN st) (fdNames st) = true) (hnp : (fdNames st).length = np) (hns : (jN st).names.length = ns)
    (hb : BindN np fun as => ∀ (kV doc pm cdv ct : Value) (an : Option Addr), bindArgs (fnOf name qual (fdArgs st) (fdBody st) (jN st) .none kV doc pm an cdv ct) ⟨as, []⟩ = pure ((fdNames st).zip as))
    (hs : SimS G (jN st) n (execs (fdBody st)) t) : yU G (n + 1) (.ref f) (fnD np ns [] t) := by
  obtain ⟨oc, od, osl, kV, doc, pm, cdv, ct, an, h1, h2⟩ := D
  subst hnp hns
  refine simf_def (dvs := []) h1 h2 hp (fun s as l1 l2 _ => ?_) (fun _ _ => .nil) hs
  have hl : as.length = (fdNames st).length := Nat.le_antisymm l1 l2
  rw [List.drop_nil, List.append_nil]
  exact .of_eq (hb.at as hl kV doc pm cdv ct an)
theorem simf_goD {f : Addr} {name qual : PySem.Str} {st : Stmt} {dvs : List Value → Prop} {np ns : Nat} {t : St} (D : DefAtD G f name qual st dvs) (hp : defB (jN st) (fdNames st) = true) (hnp : (fdNames st).length = np) (hns : (jN st).names.length = ns)
    (hb : ∀ items, dvs items → BindN np fun as => ∀ (T : Addr) (kV doc pm cdv ct : Value) (an : Option Addr), ∃ k, bindArgs (fnOf name qual (fdArgs st) (fdBody st) (jN st) (.ref T) kV doc pm an cdv ct) ⟨as, []⟩ = seqItems? (.ref T) >>= k ∧ k (some items.toArray) = pure ((fdNames st).zip as))
    (hs : SimS G (jN st) n (execs (fdBody st)) t) : yU G (n + 1) (.ref f) (fnD np ns [] t) := by
  obtain ⟨oc, od, osl, kV, doc, pm, cdv, ct, an, T, o, items, k, h1, h2, h3, h4, h5⟩ := D
  subst hnp hns
  refine simf_def (dvs := []) h1 h2 hp (fun s as l1 l2 X => ?_) (fun _ _ => .nil) hs
  have hl : as.length = (fdNames st).length := Nat.le_antisymm l1 l2
  rw [List.drop_nil, List.append_nil]
  obtain ⟨kk, e1, e2⟩ := (hb items h5).at as hl T kV doc pm cdv ct an
  exact .of_defaults rfl (X _ _ h3) h4 e1 e2
theorem simf_goN {f : Addr} {name qual : PySem.Str} {st : Stmt} {np ns : Nat} {t : St} (D : DefAtD G f name qual st fun l => l = [.none]) (hp : defB (jN st) (fdNames st) = true) (hnp : (fdNames st).length = np + 1) (hns : (jN st).names.length = ns)
    (hb : BindN np fun as => ∀ (T : Addr) (kV doc pm cdv ct : Value) (an : Option Addr), ∃ k, bindArgs (fnOf name qual (fdArgs st) (fdBody st) (jN st) (.ref T) kV doc pm an cdv ct) ⟨as, []⟩ = seqItems? (.ref T) >>= k ∧ k (some #[.none]) = pure ((fdNames st).zip (as ++ [.none])))
    (hb' : BindN (np + 1) fun as => ∀ (T : Addr) (kV doc pm cdv ct : Value) (an : Option Addr), ∃ k, bindArgs (fnOf name qual (fdArgs st) (fdBody st) (jN st) (.ref T) kV doc pm an cdv ct) ⟨as, []⟩ = seqItems? (.ref T) >>= k ∧ k (some #[.none]) = pure ((fdNames st).zip as))
    (hs : SimS G (jN st) n (execs (fdBody st)) t) : yU G (n + 1) (.ref f) (fnD (np + 1) ns [V.none] t) := by
  obtain ⟨oc, od, osl, kV, doc, pm, cdv, ct, an, T, o, items, k, h1, h2, h3, h4, h5⟩ := D
  subst h5
  rw [← hnp, ← hns]
  refine simf_def (dvs := [.none]) h1 h2 hp (fun s as l1 l2 X => ?_) (fun _ _ => .cons .none .nil) hs
  rw [hnp] at l1 l2
  rw [hnp]
  have l2' : np ≤ as.length := Nat.le_of_succ_le_succ l2
  rcases Nat.lt_or_ge np as.length with z | z
  · have hl : as.length = np + 1 := Nat.le_antisymm l1 z
    obtain ⟨kk, e1, e2⟩ := hb'.at as hl T kV doc pm cdv ct an
    rw [hl, Nat.sub_self]
    have e3 : as ++ ([Value.none] : List Value).drop (([Value.none] : List Value).length - 0) = as := by simp
    rw [e3]
    exact .of_defaults rfl (X _ _ h3) h4 e1 e2
  · have hl : as.length = np := Nat.le_antisymm z l2'
    obtain ⟨kk, e1, e2⟩ := hb.at as hl T kV doc pm cdv ct an
    rw [hl]
    have e3 : ([Value.none] : List Value).drop (([Value.none] : List Value).length - (np + 1 - np)) = [.none] := by
      rw [show np + 1 - np = 1 by omega]; rfl
    rw [e3]
    exact .of_defaults rfl (X _ _ h3) h4 e1 e2
end
end Mine


section
open PySem PySem.W PyProof.Rows
namespace Mine
noncomputable def runT {α : Type} (lt : Nat → Nat → Bool) : KasT α → α
  | .ret a => a
  | .ask i j k => runT lt (k (lt i j))
theorem runT_bind {α β : Type} (lt : Nat → Nat → Bool) (f : α → KasT β) : ∀ t : KasT α, runT lt (t.bind f) = runT lt (f (runT lt t))
  | .ret a => rfl
  | .ask i j k => runT_bind lt f (k (lt i j))
noncomputable def gt (p : Array Nat) (i : Nat) : Nat := p.getD i 0
structure Ord (lt : Nat → Nat → Bool) : Prop where
  tot : ∀ a b, a ≠ b → lt a b = !(lt b a)
  trans : ∀ a b c, lt a b = true → lt b c = true → lt a c = true
noncomputable def Dis (p : Array Nat) : Prop := ∀ i j, i < p.size → j < p.size → gt p i = gt p j → i = j
section
variable {lt : Nat → Nat → Bool} (O : Ord lt)
include O
theorem Ord.of_not {a b : Nat} (h : lt a b = false) (n : a ≠ b) : lt b a = true := by
  have := O.tot b a (Ne.symm n); rw [h] at this; exact this
theorem Ord.no {a b : Nat} (h : lt a b = true) (n : a ≠ b) : lt b a = false := by
  have := O.tot b a (Ne.symm n); rw [h] at this; exact this
noncomputable def Srt (lt : Nat → Nat → Bool) (p : Array Nat) (m : Nat) : Prop := ∀ i j, i < j → j < m → lt (gt p i) (gt p j) = true
omit O in
theorem sa (n f : Nat) : n + 1 + f = n + (f + 1) := Nat.succ_add_eq_add_succ n f
omit O in
theorem asc_spec (p : Array Nat) : ∀ (f n : Nat), n ≤ runT lt (kas_asc p f n) ∧ runT lt (kas_asc p f n) ≤ n + f ∧ (∀ i, n ≤ i → i < runT lt (kas_asc p f n) → lt (gt p i) (gt p (i - 1)) = false) ∧
    (runT lt (kas_asc p f n) < n + f → lt (gt p (runT lt (kas_asc p f n))) (gt p (runT lt (kas_asc p f n) - 1)) = true)
  | 0, n => ⟨Nat.le_refl _, Nat.le_refl _, fun i h1 h2 => absurd h2 (Nat.not_lt.mpr h1), fun h => absurd h (Nat.lt_irrefl _)⟩
  | f + 1, n => by
    have e : runT lt (kas_asc p (f + 1) n) = if lt (gt p n) (gt p (n - 1)) = true then n else runT lt (kas_asc p f (n + 1)) := by
      show runT lt (if lt (gt p n) (gt p (n - 1)) = true then KasT.ret n else kas_asc p f (n + 1)) = _
      split <;> rfl
    rw [e]
    by_cases hc : lt (gt p n) (gt p (n - 1)) = true
    · rw [if_pos hc]
      exact ⟨Nat.le_refl _, Nat.le_add_right _ _, fun i h1 h2 => absurd h2 (Nat.not_lt.mpr h1), fun _ => hc⟩
    · rw [if_neg hc]
      obtain ⟨h1, h2, h3, h4⟩ := asc_spec p f (n + 1)
      refine ⟨Nat.le_of_succ_le h1, Nat.le_trans h2 (Nat.le_of_eq (sa n f)), fun i a b => ?_, fun h => h4 (Nat.lt_of_lt_of_eq h (sa n f).symm)⟩
      by_cases hi : i = n
      · subst hi; exact Bool.eq_false_iff.mpr hc
      · exact h3 i (Nat.lt_of_le_of_ne a (Ne.symm hi)) b
theorem srt_of_adj {p : Array Nat} {m : Nat} (hd : Dis p) (hm : m ≤ p.size) (h : ∀ i, 1 ≤ i → i < m → lt (gt p i) (gt p (i - 1)) = false) : Srt lt p m := by
  have adj : ∀ i, i + 1 < m → lt (gt p i) (gt p (i + 1)) = true := fun i hi =>
    O.of_not (h (i + 1) (Nat.le_add_left 1 i) hi) fun z => absurd (hd (i + 1) i (Nat.lt_of_lt_of_le hi hm) (Nat.lt_of_succ_lt (Nat.lt_of_lt_of_le hi hm)) z) (Nat.succ_ne_self i)
  intro i j
  induction j with
  | zero => exact fun hij => absurd hij (Nat.not_lt_zero i)
  | succ j ih =>
    intro hij hj
    rcases Nat.lt_or_eq_of_le (Nat.le_of_lt_succ hij) with h | rfl
    · exact O.trans _ _ _ (ih h (Nat.lt_of_succ_lt hj)) (adj j hj)
    · exact adj i hj
omit O in
theorem pred_ne {n : Nat} (h : 1 ≤ n) : n ≠ n - 1 := Nat.ne_of_gt (Nat.sub_lt h Nat.one_pos)
theorem desc_spec (p : Array Nat) (hd : Dis p) : ∀ (f n : Nat), 1 ≤ n → n + f ≤ p.size → ∃ m, runT lt (kas_desc f p n 0) = (p, m, 0) ∧ n ≤ m ∧ m ≤ n + f ∧ ∀ i, n ≤ i → i < m → lt (gt p i) (gt p (i - 1)) = true
  | 0, n, _, _ => ⟨n, rfl, Nat.le_refl _, Nat.le_refl _, fun i h1 h2 => absurd h2 (Nat.not_lt.mpr h1)⟩
  | f + 1, n, h1, h2 => by
    have e : runT lt (kas_desc (f + 1) p n 0) = if lt (gt p n) (gt p (n - 1)) = true then runT lt (kas_desc f p (n + 1) 0) else if lt (gt p (n - 1)) (gt p n) = true then (p, n, 0) else runT lt (kas_desc f p (n + 1) (0 + 1)) := by
      show runT lt (if lt (gt p n) (gt p (n - 1)) = true then (if 0 > 0 then _ else kas_desc f p (n + 1) 0) else KasT.ask (p.getD (n - 1) 0) (p.getD n 0) fun d => if d = true then KasT.ret (p, n, 0) else kas_desc f p (n + 1) (0 + 1)) = _
      split
      · rw [if_neg (by decide)]
      · show runT lt (if lt (gt p (n - 1)) (gt p n) = true then KasT.ret (p, n, 0) else kas_desc f p (n + 1) (0 + 1)) = _
        split <;> rfl
    rw [e]
    by_cases hc : lt (gt p n) (gt p (n - 1)) = true
    · rw [if_pos hc]
      obtain ⟨m, a, b, c, d⟩ := desc_spec p hd f (n + 1) (Nat.le_add_left 1 n) (Nat.le_trans (Nat.le_of_eq (sa n f)) h2)
      refine ⟨m, a, Nat.le_of_succ_le b, Nat.le_trans c (Nat.le_of_eq (sa n f)), fun i x y => ?_⟩
      by_cases hi : i = n
      · subst hi; exact hc
      · exact d i (Nat.lt_of_le_of_ne x (Ne.symm hi)) y
    · rw [if_neg hc]
      have hn : n < p.size := Nat.lt_of_lt_of_le (Nat.lt_add_of_pos_right (Nat.succ_pos f)) h2
      have hlt : lt (gt p (n - 1)) (gt p n) = true := O.of_not (Bool.eq_false_iff.mpr hc) fun z =>
        absurd (hd n (n - 1) hn (Nat.lt_of_le_of_lt (Nat.sub_le n 1) hn) z) (pred_ne h1)
      rw [if_pos hlt]
      exact ⟨n, rfl, Nat.le_refl _, Nat.le_add_right _ _, fun i x y => absurd y (Nat.not_lt.mpr x)⟩
omit O in
theorem gt_rev {p : Array Nat} {n : Nat} (hn : n ≤ p.size) (k : Nat) : gt (kas_rev p 0 n) k = if k < n then gt p (n - 1 - k) else gt p k := by
  have e := getElem?_mirror_all (i := 0) hn k
  unfold gt kas_rev
  simp only [Array.getD_eq_getD_getElem?]
  rw [e]
  by_cases hk : k < n
  · rw [if_pos ⟨Nat.zero_le _, hk⟩, if_pos hk, Nat.zero_add]
  · rw [if_neg (fun z => hk z.2), if_neg hk]
omit O in
theorem dis_perm {p q : Array Nat} (h : p.Perm q) (hd : q.toList.Nodup) : Dis p := by
  have hp : p.toList.Nodup := (Array.perm_iff_toList_perm.mp h).nodup_iff.mpr hd
  intro i j hi hj e
  unfold gt at e
  simp only [Array.getD_eq_getD_getElem?, Array.getElem?_eq_getElem hi, Array.getElem?_eq_getElem hj, Option.getD_some] at e
  have e' : p.toList[i]'(by simpa using hi) = p.toList[j]'(by simpa using hj) := by simpa using e
  have hpw := List.pairwise_iff_getElem.mp hp
  rcases Nat.lt_trichotomy i j with h1 | h1 | h1
  · exact absurd e' (hpw i j (by simpa using hi) (by simpa using hj) h1)
  · exact h1
  · exact absurd e'.symm (hpw j i (by simpa using hj) (by simpa using hi) h1)
theorem count_spec (p : Array Nat) (nrem : Nat) (hn : 1 ≤ nrem) (hs : nrem ≤ p.size) (hd : Dis p) : ∃ m q, runT lt (kas_count nrem p) = (m, q) ∧ 1 ≤ m ∧ m ≤ nrem ∧ q.Perm p ∧ (Dis q → Srt lt q m) := by
  unfold kas_count
  rw [runT_bind]
  obtain ⟨h1, h2, h3, h4⟩ := asc_spec (lt := lt) p (nrem - 1) 1
  generalize runT lt (kas_asc p (nrem - 1) 1) = n at h1 h2 h3 h4
  rw [Nat.add_sub_cancel' hn] at h2 h4
  have adj : Srt lt p n := srt_of_adj O hd (Nat.le_trans h2 hs) h3
  by_cases e1 : n = nrem
  · subst e1
    rw [if_pos (beq_self_eq_true n)]
    exact ⟨n, p, rfl, h1, Nat.le_refl _, Array.Perm.refl _, fun _ => adj⟩
  · rw [if_neg (by simpa using e1)]
    by_cases e2 : n > 1
    · rw [if_pos e2]
      have hlt : lt (gt p 0) (gt p (n - 1)) = true := adj 0 (n - 1) (Nat.sub_pos_of_lt e2) (Nat.sub_lt h1 Nat.one_pos)
      show ∃ m q, runT lt (if lt (gt p 0) (gt p (n - 1)) = true then KasT.ret (n, p) else kas_descPart n nrem (kas_rev p 0 n)) = (m, q) ∧ _
      rw [if_pos hlt]
      exact ⟨n, p, rfl, h1, h2, Array.Perm.refl _, fun _ => adj⟩
    · rw [if_neg e2]
      obtain rfl : n = 1 := Nat.le_antisymm (Nat.le_of_not_lt e2) h1
      have h12 : 1 + 1 ≤ nrem := Nat.lt_of_le_of_ne hn e1
      have h0 : lt (gt p 1) (gt p 0) = true := h4 h12
      unfold kas_descPart
      rw [runT_bind]
      obtain ⟨m, e3, a, b, c⟩ := desc_spec O p hd (nrem - (1 + 1)) (1 + 1) (by decide) (by rw [Nat.add_sub_cancel' h12]; exact hs)
      rw [Nat.add_sub_cancel' h12] at b
      rw [e3]
      dsimp only
      rw [if_neg (by decide)]
      unfold kas_tail3
      rw [runT_bind]
      obtain ⟨k1, k2, k3, k4⟩ := asc_spec (lt := lt) (kas_rev p 0 m) (nrem - m) m
      generalize runT lt (kas_asc (kas_rev p 0 m) (nrem - m) m) = l at k1 k2 k3 k4
      rw [Nat.add_sub_cancel' b] at k2
      have hperm : (kas_rev p 0 m).Perm p := mirror_perm _ _ _ _
      refine ⟨l, kas_rev p 0 m, rfl, Nat.le_trans (Nat.le_of_succ_le a) k1, k2, hperm, fun hd' => ?_⟩
      have hsz : (kas_rev p 0 m).size = p.size := mirror_size _ _ _ _
      have hmS : m ≤ p.size := Nat.le_trans b hs
      refine srt_of_adj O hd' (by rw [hsz]; exact Nat.le_trans k2 hs) fun i x y => ?_
      by_cases hi : i < m
      · rw [gt_rev hmS, gt_rev hmS, if_pos hi, if_pos (Nat.lt_of_le_of_lt (Nat.sub_le i 1) hi), Nat.sub_sub m 1 (i - 1), Nat.add_sub_cancel' x, Nat.sub_right_comm m 1 i]
        have u1 : 1 ≤ m - i := Nat.sub_pos_of_lt hi
        have u2 : m - i < m := Nat.sub_lt (Nat.lt_of_le_of_lt (Nat.zero_le i) hi) x
        generalize m - i = u at u1 u2
        have hdesc : lt (gt p u) (gt p (u - 1)) = true := by
          by_cases h2 : u = 1
          · rw [h2]; exact h0
          · exact c u (Nat.lt_of_le_of_ne u1 (Ne.symm h2)) u2
        exact O.no hdesc fun z => absurd (hd _ _ (Nat.lt_of_lt_of_le u2 hmS) (Nat.lt_of_le_of_lt (Nat.sub_le u 1) (Nat.lt_of_lt_of_le u2 hmS)) z) (pred_ne u1)
      · exact k3 i (Nat.le_of_not_lt hi) y
theorem place_spec (p : Array Nat) (k : Nat) (hk : k < p.size) (hd : Dis p) (hs : Srt lt p k) : ∀ (f l r : Nat), l ≤ r → r ≤ k → r - l ≤ f → (∀ i, i < l → lt (gt p i) (gt p k) = true) → (∀ i, r ≤ i → i < k → lt (gt p k) (gt p i) = true) →
    ∃ x, runT lt (kas_place p k f l r) = x ∧ x ≤ k ∧ (∀ i, i < x → lt (gt p i) (gt p k) = true) ∧ (∀ i, x ≤ i → i < k → lt (gt p k) (gt p i) = true)
  | 0, l, r, h1, h2, h3, ha, hb => ⟨l, rfl, Nat.le_trans h1 h2, ha, fun i x y => hb i (Nat.le_trans (Nat.le_of_sub_eq_zero (Nat.le_zero.mp h3)) x) y⟩
  | f + 1, l, r, h1, h2, h3, ha, hb => by
    by_cases hlr : l ≥ r
    · refine ⟨l, ?_, Nat.le_trans h1 h2, ha, fun i x y => hb i (Nat.le_trans hlr x) y⟩
      unfold kas_place; rw [if_pos hlr]; rfl
    · have e : runT lt (kas_place p k (f + 1) l r) = if lt (gt p k) (gt p ((l + r) / 2)) = true then runT lt (kas_place p k f l ((l + r) / 2)) else runT lt (kas_place p k f ((l + r) / 2 + 1) r) := by
        show runT lt (if l ≥ r then KasT.ret l else KasT.ask (p.getD k 0) (p.getD ((l + r) / 2) 0) fun c => if c = true then kas_place p k f l ((l + r) / 2) else kas_place p k f ((l + r) / 2 + 1) r) = _
        rw [if_neg hlr]
        exact apply_ite (runT lt) _ _ _
      rw [e]
      have m1 : l ≤ (l + r) / 2 := (Nat.le_div_iff_mul_le Nat.two_pos).mpr (by rw [Nat.mul_two]; exact Nat.add_le_add_left h1 l)
      have m2 : (l + r) / 2 < r := (Nat.div_lt_iff_lt_mul Nat.two_pos).mpr (by rw [Nat.mul_two]; exact Nat.add_lt_add_right (Nat.lt_of_not_le hlr) r)
      generalize (l + r) / 2 = u at m1 m2
      have m3 : u < k := Nat.lt_of_lt_of_le m2 h2
      by_cases hc : lt (gt p k) (gt p u) = true
      · rw [if_pos hc]
        refine place_spec p k hk hd hs f l u m1 (Nat.le_of_lt m3) (Nat.le_of_lt_succ (Nat.lt_of_lt_of_le (Nat.sub_lt_sub_right m1 m2) h3)) ha fun i x y => ?_
        by_cases hi : i = u
        · subst hi; exact hc
        · exact O.trans _ _ _ hc (hs _ _ (Nat.lt_of_le_of_ne x (Ne.symm hi)) y)
      · rw [if_neg hc]
        have hc' : lt (gt p u) (gt p k) = true := O.of_not (Bool.eq_false_iff.mpr hc) fun z => absurd (hd _ _ hk (Nat.lt_trans m3 hk) z) (Nat.ne_of_gt m3)
        refine place_spec p k hk hd hs f (u + 1) r m2 h2 (Nat.le_of_lt_succ (Nat.lt_of_lt_of_le (Nat.sub_lt_sub_left (Nat.lt_of_not_le hlr) (Nat.lt_succ_of_le m1)) h3)) (fun i x => ?_) hb
        by_cases hi : i = u
        · subst hi; exact hc'
        · exact O.trans _ _ _ (hs i u (Nat.lt_of_le_of_ne (Nat.le_of_lt_succ x) hi) m3) hc'
theorem bin_spec : ∀ (f : Nat) (p : Array Nat) (k : Nat), k + f ≤ p.size → p.toList.Nodup → Srt lt p k → ∃ q, runT lt (kas_bin f p k) = q ∧ q.Perm p ∧ Srt lt q (k + f)
  | 0, p, k, _, _, hs => ⟨p, rfl, Array.Perm.refl _, hs⟩
  | f + 1, p, k, hk, hn, hs => by
    have hd : Dis p := dis_perm (Array.Perm.refl _) hn
    have e : kas_bin (f + 1) p k = (kas_place p k k 0 k).bind fun l => kas_bin f (bubble p k (k - l)) (k + 1) := rfl
    rw [e, runT_bind]
    have hkS : k < p.size := Nat.lt_of_lt_of_le (Nat.lt_add_of_pos_right (Nat.succ_pos f)) hk
    obtain ⟨x, ex, hx, ha, hb⟩ := place_spec O p k hkS hd hs k 0 k (Nat.zero_le _) (Nat.le_refl _) (Nat.sub_le k 0) (fun i h => absurd h (Nat.not_lt_zero _)) (fun i a b => absurd b (Nat.not_lt.mpr a))
    rw [ex]
    have hperm : (bubble p k (k - x)).Perm p := bubble_perm _ _ _
    have hg : ∀ i, gt (bubble p k (k - x)) i = if i = x then gt p k else if x < i ∧ i ≤ k then gt p (i - 1) else gt p i := fun i => by
      have eb := getElem?_bubble (xs := p) (src := k) hkS (k - x) (Nat.sub_le k x) i
      unfold gt
      simp only [Array.getD_eq_getD_getElem?]
      rw [eb, Nat.sub_sub_self hx]
      split
      · rfl
      · split <;> rfl
    have hs' : Srt lt (bubble p k (k - x)) (k + 1) := by
      intro i j hij hj
      have hjk := Nat.le_of_lt_succ hj
      have hj1 : j - 1 < k := Nat.lt_of_lt_of_le (Nat.sub_lt (Nat.lt_of_le_of_lt (Nat.zero_le i) hij) Nat.one_pos) hjk
      rw [hg, hg]
      by_cases i1 : i = x
      · subst i1
        rw [if_pos rfl, if_neg (Nat.ne_of_gt hij), if_pos ⟨hij, hjk⟩]
        exact hb _ (Nat.le_sub_one_of_lt hij) hj1
      · rw [if_neg i1]
        by_cases j1 : j = x
        · subst j1
          rw [if_pos rfl, if_neg fun z => absurd (Nat.lt_trans z.1 hij) (Nat.lt_irrefl _)]
          exact ha _ hij
        · rw [if_neg j1]
          by_cases ii : x < i
          · rw [if_pos ⟨ii, Nat.le_trans (Nat.le_of_lt hij) hjk⟩, if_pos ⟨Nat.lt_trans ii hij, hjk⟩]
            exact hs _ _ (Nat.sub_lt_sub_right (Nat.lt_of_le_of_lt (Nat.zero_le x) ii) hij) hj1
          · rw [if_neg fun z => ii z.1]
            by_cases jj : x < j
            · rw [if_pos ⟨jj, hjk⟩]
              exact hs _ _ (Nat.lt_of_lt_of_le (Nat.lt_of_le_of_ne (Nat.le_of_not_lt ii) i1) (Nat.le_sub_one_of_lt jj)) hj1
            · rw [if_neg fun z => jj z.1]
              exact hs _ _ hij (Nat.lt_of_lt_of_le (Nat.lt_of_le_of_ne (Nat.le_of_not_lt jj) j1) hx)
    obtain ⟨q, e1, e2, e3⟩ := bin_spec f (bubble p k (k - x)) (k + 1) (by rw [bubble_size]; exact Nat.le_trans (Nat.le_of_eq (sa k f)) hk) ((Array.perm_iff_toList_perm.mp hperm).nodup_iff.mpr hn) hs'
    exact ⟨q, e1, e2.trans hperm, by rw [← sa k f]; exact e3⟩
theorem kas_sorts {n : Nat} (hn : 1 ≤ n) : ∃ q, runT lt (kas_sort n) = q ∧ q.Perm (List.toArray (List.range n)) ∧ Srt lt q n := by
  have hd0 : (List.toArray (List.range n)).toList.Nodup := List.nodup_range
  have hsz : (List.toArray (List.range n)).size = n := List.length_range
  unfold kas_sort
  rw [runT_bind]
  obtain ⟨m, q, e1, h1, h2, h3, h4⟩ := count_spec O (List.toArray (List.range n)) n hn (Nat.le_of_eq hsz.symm) (dis_perm (Array.Perm.refl _) hd0)
  rw [e1]
  dsimp only
  have hs := h4 (dis_perm h3 hd0)
  by_cases hm : m < n
  · rw [if_pos hm, Nat.max_eq_left h1]
    obtain ⟨r, e2, e3, e4⟩ := bin_spec O (n - m) q m (by rw [Nat.add_sub_cancel' h2, h3.size_eq, hsz]; exact Nat.le_refl _) ((Array.perm_iff_toList_perm.mp h3).nodup_iff.mpr hd0) hs
    exact ⟨r, e2, e3.trans h3, by rw [Nat.add_sub_cancel' h2] at e4; exact e4⟩
  · rw [if_neg hm]
    obtain rfl : n = m := Nat.le_antisymm (Nat.le_of_not_lt hm) h2
    exact ⟨q, rfl, h3, hs⟩
end
end Mine


section
open PySem PySem.W PySem.Calls PyProof.Rows PySem.Spec PySem.Builtin
namespace Mine
section
variable {prog : Program} {w : World} {A : Around} {E : Value → Shared → Prop} {s : Shared}
noncomputable def LexW (prog : Program) (w : World) (A : Around) (E : Value → Shared → Prop) (fin : Value) (Q : Value → Shared → Prop) : List (Value × Value) → Shared → Prop
  | [], s => Q fin s
  | (p, q) :: r, s => wpAny (model prog w) A (eqBool p q) (fun e s' => if e = true then LexW prog w A E fin Q r s' else wpAny (model prog w) A (richCompare .Lt p q) Q E s') E s
theorem lex_loop {fin : Value} {Q : Value → Shared → Prop} {R : Option PySem.Fin × Unit → Shared → Prop} {body : Value × Value → Option PySem.Fin × Unit → Sem (ForInStep (Option PySem.Fin × Unit))}
    (hb : ∀ p q (s : Shared) (R' : ForInStep (Option PySem.Fin × Unit) → Shared → Prop),
      wpAny (model prog w) A (eqBool p q) (fun e s' => if e = true then R' (.yield (none, ())) s' else wpAny (model prog w) A (richCompare .Lt p q) (fun v s'' => R' (.done (some (.done (.ret v)), ())) s'') E s') E s →
      wpAny (model prog w) A (body (p, q) (none, ())) R' E s)
    (h1 : ∀ s, Q fin s → R (none, ()) s) (h2 : ∀ v s, Q v s → R (some (.done (.ret v)), ()) s) : ∀ (l : List (Value × Value)) (s : Shared), LexW prog w A E fin Q l s →
      wpAny (model prog w) A (forIn l (none, ()) body) R E s
  | [], s, h => by rw [List.forIn_nil]; exact wpAny_pure (h1 s h)
  | (p, q) :: r, s, h => by
    rw [List.forIn_cons]
    refine wpAny_bind (hb p q s _ (wpAny_mono h (fun e s' he => ?_) fun _ _ x => x))
    cases e with
    | true => exact lex_loop hb h1 h2 r s' he
    | false => exact wpAny_mono he (fun v s'' hv => wpAny_pure (h2 v s'' hv)) fun _ _ x => x
theorem tup_lt {x y : Addr} {xs ys : List Value} {Q : Value → Shared → Prop} (hx : s.heap.get? x = some (tupO xs)) (hy : s.heap.get? y = some (tupO ys)) (hu : A.units < cLine)
    (h : LexW prog w A.in1 E (Builtin.Tuple.tupleCompareSizes .Lt xs.length ys.length) (fun v s' => v ≠ .notImplemented ∧ Q v s') (xs.zip ys) s) :
    wpAny (model prog w) A (richCompare .Lt (.ref x) (.ref y)) Q E s := by
  have tx : s.TypeIs (.ref x) "tuple" := ⟨_, hx, rfl⟩
  have ty : s.TypeIs (.ref y) "tuple" := ⟨_, hy, rfl⟩
  refine wpAny_richCompare_same_room tx ty F.slot_tuple_lt ?_ hu
  refine wpAny_call_entry F.slot_tuple_lt tx F.entry_tuple_lt ?_ (F.args_tuple_lt_2 _ _)
  show wpAny _ _ (isInstance (.ref y) (.type "tuple") >>= _) _ _ s
  refine wpAny_bind (wpAny_isInstance ty isSubtype_tuple_tuple ?_)
  simp only [Bool.not_true, Bool.false_eq_true, if_false]
  refine wpAny_bind (wpAny_tupleItemsOf hx rfl ?_)
  refine wpAny_bind (wpAny_tupleItemsOf hy rfl ?_)
  refine wpAny_bind (lex_loop (fin := Builtin.Tuple.tupleCompareSizes .Lt xs.length ys.length) (fun p q s' R' h' => ?_) (fun s' hq => ?_) (fun v s' hq => ?_) _ s h)
  · dsimp only
    refine wpAny_bind (wpAny_mono h' (fun e s'' he => ?_) fun _ _ x => x)
    cases e with
    | true =>
      simp only [Bool.not_true, Bool.false_eq_true, if_false]
      exact wpAny_pure he
    | false =>
      simp only [Bool.not_false, if_true]
      refine wpAny_bind (wpAny_rule ?_)
      refine wpAny_bind (wpAny_mono he (fun v s3 hv => ?_) fun _ _ x => x)
      exact wpAny_bind (wpAny_pure (wpAny_pure hv))
  · exact wpAny_pure ⟨_, rfl, by simpa using hq⟩
  · exact wpAny_pure ⟨_, rfl, hq⟩
end
end Mine


section
open PySem PySem.W PySem.Calls PyProof.Rows PySem.Spec PySem.Builtin
namespace Mine
noncomputable def InR {α : Type} (n : Nat) (P : α → Prop) : KasT α → Prop
  | .ret a => P a
  | .ask i j k => i < n ∧ j < n ∧ ∀ b, InR n P (k b)
theorem InR.bind {α β : Type} {n : Nat} {P : α → Prop} {Q : β → Prop} {f : α → KasT β} : ∀ {t : KasT α}, InR n P t → (∀ a, P a → InR n Q (f a)) → InR n Q (t.bind f)
  | .ret a, h, k => k a h
  | .ask i j t, h, k => ⟨h.1, h.2.1, fun b => InR.bind (h.2.2 b) k⟩
noncomputable def Bd (n : Nat) (p : Array Nat) : Prop := 0 < n ∧ ∀ x ∈ p.toList, x < n
theorem Bd.get {n : Nat} {p : Array Nat} (h : Bd n p) (i : Nat) : p.getD i 0 < n := by
  by_cases hi : i < p.size
  · rw [show p.getD i 0 = p[i] by simp [Array.getD, hi]]
    exact h.2 _ (by simp)
  · rw [show p.getD i 0 = 0 by simp [Array.getD, hi]]; exact h.1
theorem Bd.perm {n : Nat} {p q : Array Nat} (h : Bd n p) (e : q.Perm p) : Bd n q :=
  ⟨h.1, fun x hx => h.2 x ((Array.perm_iff_toList_perm.mp e).mem_iff.mp hx)⟩
theorem Bd.rev {n : Nat} {p : Array Nat} (h : Bd n p) (i j : Nat) : Bd n (kas_rev p i j) := h.perm (mirror_perm _ _ _ _)
theorem inr_asc {n : Nat} {p : Array Nat} (h : Bd n p) : ∀ (f k : Nat), InR n (fun _ => True) (kas_asc p f k)
  | 0, k => trivial
  | f + 1, k => ⟨h.get _, h.get _, fun b => by cases b; exact inr_asc h f (k + 1); trivial⟩
theorem inr_desc {n : Nat} : ∀ (f : Nat) (p : Array Nat) (k q : Nat), Bd n p → InR n (fun r : Array Nat × Nat × Nat => Bd n r.1) (kas_desc f p k q)
  | 0, p, k, q, h => h
  | f + 1, p, k, q, h => ⟨h.get _, h.get _, fun b => by
    cases b
    · exact ⟨h.get _, h.get _, fun d => by cases d; exact inr_desc f p (k + 1) (q + 1) h; exact h⟩
    · show InR n _ (if q > 0 then kas_desc f (kas_rev p (k - (q + 1)) k) (k + 1) 0 else kas_desc f p (k + 1) 0)
      split
      · exact inr_desc f _ _ _ (h.rev _ _)
      · exact inr_desc f _ _ _ h⟩
theorem inr_tail3 {n : Nat} {p : Array Nat} (h : Bd n p) (k m : Nat) : InR n (fun r : Nat × Array Nat => Bd n r.2) (kas_tail3 k m p) :=
  (inr_asc (h.rev _ _) _ _).bind fun _ _ => h.rev _ _
theorem inr_descPart {n : Nat} {p : Array Nat} (h : Bd n p) (k m : Nat) : InR n (fun r : Nat × Array Nat => Bd n r.2) (kas_descPart k m p) :=
  (inr_desc _ _ _ _ h).bind fun r hr => by
    split
    · exact inr_tail3 (hr.rev _ _) _ _
    · exact inr_tail3 hr _ _
theorem inr_count {n : Nat} {p : Array Nat} (h : Bd n p) (m : Nat) : InR n (fun r : Nat × Array Nat => Bd n r.2) (kas_count m p) :=
  (inr_asc h _ _).bind fun r _ => by
    split
    · exact h
    · split
      · exact ⟨h.get _, h.get _, fun b => by cases b; exact inr_descPart (h.rev _ _) _ _; exact h⟩
      · exact inr_descPart h _ _
theorem inr_place {n : Nat} {p : Array Nat} (h : Bd n p) (k : Nat) : ∀ (f l r : Nat), InR n (fun _ => True) (kas_place p k f l r)
  | 0, l, r => trivial
  | f + 1, l, r => by
    unfold kas_place
    split
    · trivial
    · exact ⟨h.get _, h.get _, fun b => by cases b; exact inr_place h k f _ _; exact inr_place h k f _ _⟩
theorem inr_bin {n : Nat} : ∀ (f : Nat) (p : Array Nat) (k : Nat), Bd n p → InR n (fun _ => True) (kas_bin f p k)
  | 0, p, k, h => trivial
  | f + 1, p, k, h => (inr_place h k _ _ _).bind fun l _ => inr_bin f _ _ (h.perm (bubble_perm _ _ _))
theorem inr_sort {n : Nat} (hn : 0 < n) : InR n (fun _ => True) (kas_sort n) :=
  (inr_count (n := n) (p := List.toArray (List.range n)) ⟨hn, fun x hx => by simpa using hx⟩ n).bind fun r hr => by
    split
    · exact inr_bin _ _ _ hr
    · trivial
theorem wp_runT {α : Type} {n : Nat} {P : α → Prop} {lt : Nat → Nat → Bool} {cmp : Nat → Nat → (Bool → Shared → Prop) → Shared → Prop} {s : Shared}
    (hc : ∀ i j C, i < n → j < n → C (lt i j) s → cmp i j C s) {Q : α → Shared → Prop} : ∀ {t : KasT α}, InR n P t → Q (runT lt t) s → t.kasWp cmp Q s
  | .ret a, _, h => h
  | .ask i j k, r, h => hc i j _ r.1 r.2.1 (wp_runT hc (r.2.2 _) h)
section
variable {prog : Program} {w : World} {A : Around} {E : Value → Shared → Prop} {s : Shared} {vs : List Value} {κ : SortKind}
theorem list_sort_raw {a : Addr} {n : Nat} {lt : Nat → Nat → Bool} {P : PySem.Fin → Shared → Prop} (ho : s.heap.get? a = some (seqObj "list" vs.toArray n)) (h2 : 2 ≤ vs.length) (h64 : vs.length < 64)
    (O : Ord lt)
    (hk : ∀ h', (∀ b o, b ≠ a → s.heap.get? b = some o → h'.get? b = some o) → ∀ C, C κ { s with heap := h' } → wpAny (model prog w) A (keyKind' vs.toArray) C (fun _ _ => False) { s with heap := h' })
    (hc : ∀ h', (∀ b o, b ≠ a → s.heap.get? b = some o → h'.get? b = some o) → ∀ i j C, i < vs.length → j < vs.length → C (lt i j) { s with heap := h' } → wpAny (model prog w) A (keyLt' κ (vs.getD i Value.none) (vs.getD j Value.none)) C (fun _ _ => False) { s with heap := h' })
    (h : P (.done (.ret .none)) { s with heap := sortedHeap s.heap a vs (List.toArray ((runT lt (kas_sort vs.length)).toList.map fun i => vs.getD i Value.none)) }) :
    wpAny (model prog w) A (Builtin.«list.sort» ⟨[.ref a], []⟩) P E s := by
  have ha : a < s.heap.objs.size := Heap.lt_size ho
  have s1 := Heap.SameBut.update s.heap a (Obj.mapSeq fun _ => (#[] : Array Value))
  obtain ⟨e1, ho1⟩ : ∃ e1, (s.heap.update a (Obj.mapSeq fun _ => (#[] : Array Value))).get? a = some (seqObj "list" #[] e1) := ⟨_, get?_update_seq ho fun _ => #[]⟩
  have ho6 : (((s.heap.update a (Obj.mapSeq fun _ => (#[] : Array Value))).push (seqObj "tuple" vs.toArray 0)).push (seqObj "list" #[] 0)).get? a = some (seqObj "list" #[] e1) :=
    Heap.get?_push_of_some _ (Heap.get?_push_of_some _ ho1)
  have kp : ∀ b o, b ≠ a → s.heap.get? b = some o → (((s.heap.update a (Obj.mapSeq fun _ => (#[] : Array Value))).push (seqObj "tuple" vs.toArray 0)).push (seqObj "list" #[] 0)).get? b = some o := fun b o hb e =>
    Heap.get?_push_of_some _ (Heap.get?_push_of_some _ ((s1.2 b hb).trans e))
  rw [list_sort_plain]
  refine wpAny_bind (listItems_at ho rfl ?_)
  refine wpAny_bind (listUpdate_at ho rfl ?_ (by rw [List.size_toArray, sizeLine_eq]; exact Nat.le_trans (Nat.le_of_lt ‹_›) (by decide)) (Nat.zero_le _))
  refine wpAny_bind (seqEpoch_at ho1 rfl ?_)
  refine wpAny_bind (wpAny_newTuple ?_ (by show vs.length ≤ _; rw [sizeLine_eq]; exact Nat.le_trans (Nat.le_of_lt ‹_›) (by decide)))
  refine wpAny_bind (wpAny_newList ?_ (Nat.zero_le _))
  refine wpAny_holding ?_
  show wpAny (model prog w) A _ P E { s with heap := ((s.heap.update a (Obj.mapSeq fun _ => (#[] : Array Value))).push (seqObj "tuple" vs.toArray 0)).push (seqObj "list" #[] 0) }
  dsimp only
  have hn2 : ¬ vs.toArray.size < 2 := by rw [List.size_toArray]; exact Nat.not_lt_of_le ‹_›
  rw [if_neg hn2, if_neg hn2]
  refine wpAny_bind (wpAny_mono (hk _ kp (fun κ' s' => κ' = κ ∧ s' = { s with heap := ((s.heap.update a (Obj.mapSeq fun _ => (#[] : Array Value))).push (seqObj "tuple" vs.toArray 0)).push (seqObj "list" #[] 0) }) ⟨rfl, rfl⟩) (fun κ' s0 hk' => ?_) fun _ _ x => x.elim)
  obtain ⟨rfl, rfl⟩ := hk'
  obtain ⟨q, e, hp, hs⟩ := kas_sorts O (n := vs.length) (Nat.le_of_lt ‹_›)
  refine wpAny_bind (wpAny_mono (kat_run (ks := vs) (vs := vs) (Q := fun st' s' => arrOf st' = q.map (kas_item (vs.toArray.zip vs.toArray)) ∧ failedOf st' = none ∧ s' = { s with heap := ((s.heap.update a (Obj.mapSeq fun _ => (#[] : Array Value))).push (seqObj "tuple" vs.toArray 0)).push (seqObj "list" #[] 0) })
    (G := fun p s' => p = q ∧ s' = { s with heap := ((s.heap.update a (Obj.mapSeq fun _ => (#[] : Array Value))).push (seqObj "tuple" vs.toArray 0)).push (seqObj "list" #[] 0) })
    rfl h2 h64 (fun p' st' s' a1 a2 a3 a4 => ⟨by rw [a2, a4.1], a3, a4.2⟩) (wp_runT (lt := lt) (fun i j C hi hj hC => hc _ kp i j C hi hj hC) (inr_sort (Nat.le_of_lt ‹_›)) ⟨e, rfl⟩)) ?_ fun _ _ e => e)
  rintro ⟨⟨⟩, st'⟩ s' ⟨har, hf, rfl⟩
  dsimp only
  have hout := kat_snds rfl har
  have hsz : (List.toArray (q.toList.map fun i => vs.getD i Value.none)).size = vs.length := by
    rw [List.size_toArray, List.length_map, Array.length_toList, hp.size_eq]; simp
  rw [hout]
  refine wpAny_bind (seqEpoch_at ho6 rfl ?_)
  refine wpAny_bind (listUpdate_at ho6 rfl ?_ (Nat.zero_le _) (Nat.le_trans (Nat.le_of_eq hsz) (by rw [sizeLine_eq]; exact Nat.le_trans (Nat.le_of_lt ‹_›) (by decide))))
  rw [hf]
  simp only [bne_self_eq_false, Bool.false_eq_true, if_false]
  rw [e] at h
  exact wpAny_pure h
end
end Mine


section
open PySem PySem.W PySem.Calls PyProof.Rows PySem.Spec PySem.Builtin
namespace Mine
section
variable {prog : Program} {w : World} {A : Around} {E : Value → Shared → Prop} {s : Shared} {vs : List Value} {κ : SortKind}
theorem list_sort_small {a : Addr} {n : Nat} {P : PySem.Fin → Shared → Prop} (ho : s.heap.get? a = some (seqObj "list" vs.toArray n)) (h2 : vs.length < 2)
    (h : P (.done (.ret .none)) { s with heap := sortedHeap s.heap a vs vs.toArray }) :
    wpAny (model prog w) A (Builtin.«list.sort» ⟨[.ref a], []⟩) P E s := by
  have s1 := Heap.SameBut.update s.heap a (Obj.mapSeq fun _ => (#[] : Array Value))
  obtain ⟨e1, ho1⟩ : ∃ e1, (s.heap.update a (Obj.mapSeq fun _ => (#[] : Array Value))).get? a = some (seqObj "list" #[] e1) := ⟨_, get?_update_seq ho fun _ => #[]⟩
  have ho6 : (((s.heap.update a (Obj.mapSeq fun _ => (#[] : Array Value))).push (seqObj "tuple" vs.toArray 0)).push (seqObj "list" #[] 0)).get? a = some (seqObj "list" #[] e1) :=
    Heap.get?_push_of_some _ (Heap.get?_push_of_some _ ho1)
  rw [list_sort_plain]
  refine wpAny_bind (listItems_at ho rfl ?_)
  refine wpAny_bind (listUpdate_at ho rfl ?_ (by rw [List.size_toArray, sizeLine_eq]; exact Nat.le_trans (Nat.le_of_lt ‹_›) (by decide)) (Nat.zero_le _))
  refine wpAny_bind (seqEpoch_at ho1 rfl ?_)
  refine wpAny_bind (wpAny_newTuple ?_ (by show vs.length ≤ _; rw [sizeLine_eq]; exact Nat.le_trans (Nat.le_of_lt ‹_›) (by decide)))
  refine wpAny_bind (wpAny_newList ?_ (Nat.zero_le _))
  refine wpAny_holding ?_
  show wpAny (model prog w) A _ P E { s with heap := ((s.heap.update a (Obj.mapSeq fun _ => (#[] : Array Value))).push (seqObj "tuple" vs.toArray 0)).push (seqObj "list" #[] 0) }
  dsimp only
  have hn2 : vs.toArray.size < 2 := by rw [List.size_toArray]; assumption
  rw [if_pos hn2, if_pos hn2]
  refine wpAny_bind (wpAny_pure ?_)
  rw [StateT.run_pure]
  refine wpAny_bind (wpAny_pure ?_)
  dsimp only
  have ez : (arrOf (SortSt.mk' general' (vs.toArray.zip vs.toArray) #[] 7 none)).map (·.2) = vs.toArray := by
    show (vs.toArray.zip vs.toArray).map (·.2) = vs.toArray
    apply Array.ext
    · simp
    · intro i h1 h2; simp
  rw [ez]
  refine wpAny_bind (seqEpoch_at ho6 rfl ?_)
  refine wpAny_bind (listUpdate_at ho6 rfl ?_ (Nat.zero_le _) (by rw [List.size_toArray, sizeLine_eq]; exact Nat.le_trans (Nat.le_of_lt ‹_›) (by decide)))
  simp only [bne_self_eq_false, Bool.false_eq_true, if_false]
  exact wpAny_pure h
theorem sorted_shell {l : Addr} {out : List Value} {Q : Value → Shared → Prop} (hl : s.heap.IsList l vs.toArray) (h64 : vs.length < 64)
    (hs : ∀ h' : Heap, (∀ b o, s.heap.get? b = some o → h'.get? b = some o) → ∀ (a : Addr) (n : Nat), s.heap.get? a = none → h'.get? a = some (seqObj "list" vs.toArray n) → ∀ P : PySem.Fin → Shared → Prop, P (.done (.ret .none)) { s with heap := sortedHeap h' a vs out.toArray } →
      wpAny (model prog w) A.in1.in1 (Builtin.«list.sort» ⟨[.ref a], []⟩) P E { s with heap := h' })
    (h : Q (.ref (s.heap.objs.size + 1)) { s with heap := sortedAll s.heap vs out.toArray }) :
    wpAny (model prog w) A (call (.builtin "sorted") [.ref l]) Q E s := by
  refine Calls.call_function_entry kind_sorted plain_sorted entry_sorted (args_sorted1 _) ?_
  unfold Builtin.«sorted»
  refine wpAny_bind (m := checkCount "sorted" 1 1 _) (wpAny_pure ?_)
  refine wpAny_bind (collect_list hl ?_ (by rw [sizeLine_eq]; exact Nat.le_trans (Nat.le_of_lt ‹_›) (by decide)))
  refine wpAny_bind (wpAny_newList ?_ (by rw [sizeLine_eq]; exact Nat.le_trans (Nat.le_of_lt ‹_›) (by decide)))
  have hsz : ((s.heap.push (seqObj "list" #[] 0)).update s.heap.objs.size (Obj.mapSeq (· ++ vs.toArray))).objs.size = s.heap.objs.size + 1 := by
    rw [Heap.size_update, size_push']
  have hoL : (((s.heap.push (seqObj "list" #[] 0)).update s.heap.objs.size (Obj.mapSeq (· ++ vs.toArray))).push (seqObj "list" vs.toArray 0)).get? (s.heap.objs.size + 1) = some (seqObj "list" vs.toArray 0) := by
    rw [← hsz]; exact Heap.get?_push_size _ rfl
  have keep : ∀ b o, s.heap.get? b = some o → (((s.heap.push (seqObj "list" #[] 0)).update s.heap.objs.size (Obj.mapSeq (· ++ vs.toArray))).push (seqObj "list" vs.toArray 0)).get? b = some o := fun b o q => by
    have hlt : b < s.heap.objs.size := Heap.lt_size q
    rw [Heap.get?_push_ne _ _ _ (by rw [hsz]; exact Nat.ne_of_lt (Nat.lt_succ_of_lt hlt)), Heap.get?_update_ne _ _ _ _ (Nat.ne_of_lt hlt), Heap.get?_push_ne _ _ _ (Nat.ne_of_lt hlt)]
    exact q
  show wpAny _ _ _ _ _ { s with heap := ((s.heap.push (seqObj "list" #[] 0)).update s.heap.objs.size (Obj.mapSeq (· ++ vs.toArray))).push (seqObj "list" vs.toArray 0) }
  rw [hsz]
  refine wpAny_bind (wpAny_holding (wpAny_call_entry slot_list_sort ⟨_, hoL, rfl⟩ entry_list_sort (hs _ keep _ _ (Heap.get?_none_of_le (Nat.le_succ _)) hoL _ ⟨_, rfl, ?_⟩) (args_list_sort _)))
  exact wpAny_pure ⟨_, rfl, h⟩
end
theorem sortedHeap_keep {h : Heap} {a : Addr} {vs : List Value} {out : Array Value} {b : Addr} {o : Obj} (hb : b ≠ a) (e : h.get? b = some o) : (sortedHeap h a vs out).get? b = some o := by
  unfold sortedHeap
  rw [Heap.get?_update_ne _ _ _ _ hb]
  refine Heap.get?_push_of_some _ (Heap.get?_push_of_some _ ?_)
  rw [Heap.get?_update_ne _ _ _ _ hb]; exact e
theorem sortedHeap_get {h : Heap} {a : Addr} {vs : List Value} {xs : Array Value} {n : Nat} {out : Array Value} (e : h.get? a = some (seqObj "list" xs n)) : ∃ m, (sortedHeap h a vs out).get? a = some (seqObj "list" out m) := by
  unfold sortedHeap
  exact ⟨_, get?_update_seq (Heap.get?_push_of_some _ (Heap.get?_push_of_some _ (get?_update_seq e fun _ => #[]))) fun _ => out⟩
theorem sortedAll_keep {h : Heap} {vs : List Value} {out : Array Value} {b : Addr} {o : Obj} (e : h.get? b = some o) : (sortedAll h vs out).get? b = some o := by
  have hlt : b < h.objs.size := Heap.lt_size e
  refine sortedHeap_keep (Nat.ne_of_lt (Nat.lt_succ_of_lt hlt)) (Heap.get?_push_of_some _ ?_)
  rw [Heap.get?_update_ne _ _ _ _ (Nat.ne_of_lt hlt)]
  exact Heap.get?_push_of_some _ e
theorem sortedAll_get {h : Heap} {vs : List Value} {out : Array Value} : ∃ m, (sortedAll h vs out).get? (h.objs.size + 1) = some (seqObj "list" out m) := by
  have hsz : ((h.push (seqObj "list" #[] 0)).update h.objs.size (Obj.mapSeq (· ++ vs.toArray))).objs.size = h.objs.size + 1 := by
    rw [Heap.size_update, size_push']
  exact sortedHeap_get (xs := vs.toArray) (n := 0) (by rw [← hsz]; exact Heap.get?_push_size _ rfl)
end Mine


section
open PySem PySem.W PySem.Calls PyProof.Rows PySem.Spec PySem.Builtin
namespace Mine
theorem insV_perm {x : V} : ∀ {ys zs : List V}, insV x ys = some zs → zs.Perm (x :: ys)
  | [], _, h => by cases h; exact .refl _
  | y :: ys, zs, h => by
    unfold insV at h
    split at h
    · cases h; exact .refl _
    · obtain ⟨ws, e1, e2⟩ := Option.map_eq_some_iff.mp h
      subst e2
      exact ((insV_perm e1).cons y).trans (.swap _ _ _)
    · cases h
theorem sortV_perm : ∀ {xs ys : List V}, sortV xs = some ys → ys.Perm xs
  | [], _, h => by cases h; exact .refl _
  | x :: xs, ys, h => by
    obtain ⟨zs, e1, e2⟩ := Option.bind_eq_some_iff.mp h
    exact (insV_perm e2).trans ((sortV_perm e1).cons x)
theorem strict_of {ys : List V} (h : strictB ys = true) {i j : Nat} (hi : i < ys.length) (hj : j < ys.length) : ltV (gv ys i) (gv ys j) = some (decide (i < j)) := by
  unfold strictB at h
  rw [List.all_eq_true] at h
  have := h i (List.mem_range.mpr hi)
  rw [List.all_eq_true] at this
  simpa using this j (List.mem_range.mpr hj)
theorem gv_get {xs : List V} {i : Nat} (h : i < xs.length) : gv xs i = xs[i] := by unfold gv; simp [h]
theorem strict_nodup {ys : List V} (h : strictB ys = true) : ys.Nodup := by
  rw [List.nodup_iff_pairwise_ne, List.pairwise_iff_getElem]
  intro i j hi hj hij e
  have e1 := strict_of h hi hj
  have e2 := strict_of h hi hi
  rw [gv_get hi, gv_get hj] at e1
  rw [gv_get hi] at e2
  rw [← e, e2] at e1
  simp [hij] at e1
theorem up_id {n : Nat} {f : Nat → Nat} (hb : ∀ i, i < n → f i < n) (hu : ∀ i j, i < j → j < n → f i < f j) : ∀ i, i < n → f i = i := by
  have lo : ∀ i, i < n → i ≤ f i := by
    intro i
    induction i with
    | zero => intro _; exact Nat.zero_le _
    | succ i ih => exact fun h => Nat.lt_of_le_of_lt (ih (Nat.lt_of_succ_lt h)) (hu i (i + 1) (Nat.lt_succ_self i) h)
  have hi : ∀ d i, i + d + 1 = n → f i ≤ i := by
    intro d
    induction d with
    | zero => intro i h; subst h; exact Nat.le_of_lt_succ (hb i (Nat.lt_succ_self i))
    | succ d ih =>
      intro i h
      exact Nat.le_of_lt_succ (Nat.lt_of_lt_of_le (hu i (i + 1) (Nat.lt_succ_self i) (h ▸ Nat.succ_lt_succ (Nat.lt_add_of_pos_right (Nat.succ_pos d)))) (ih (i + 1) ((congrArg Nat.succ (Nat.succ_add_eq_add_succ i d)).trans h)))
  intro i h
  exact Nat.le_antisymm (hi (n - i - 1) i (by rw [Nat.add_assoc, Nat.sub_add_cancel (Nat.sub_pos_of_lt h), Nat.add_sub_cancel' (Nat.le_of_lt h)])) (lo i h)
theorem ranks {xs ys : List V} (hp : ys.Perm xs) (hs : strictB ys = true) : ∃ lt : Nat → Nat → Bool, Ord lt ∧ (∀ i j, i < xs.length → j < xs.length → ltV (gv xs i) (gv xs j) = some (lt i j)) ∧
    ∀ q : Array Nat, q.Perm (List.toArray (List.range xs.length)) → Srt lt q xs.length → q.toList.map (gv xs) = ys := by
  have hl : ys.length = xs.length := hp.length_eq
  have nd : xs.Nodup := hp.nodup_iff.mp (strict_nodup hs)
  have ex : ∀ i, i < xs.length → ∃ k, k < xs.length ∧ gv ys k = gv xs i := fun i hi => by
    have : xs[i] ∈ ys := hp.mem_iff.mpr (List.getElem_mem hi)
    obtain ⟨k, hk, e⟩ := List.mem_iff_getElem.mp this
    exact ⟨k, hl ▸ hk, by rw [gv_get hk, gv_get hi, e]⟩
  let r : Nat → Nat := fun i => if h : i < xs.length then Classical.choose (ex i h) else i
  have r1 : ∀ i, i < xs.length → r i < xs.length := fun i h => by
    show (if h : i < xs.length then Classical.choose (ex i h) else i) < _
    rw [dif_pos h]; exact (Classical.choose_spec (ex i h)).1
  have r2 : ∀ i, i < xs.length → gv ys (r i) = gv xs i := fun i h => by
    show gv ys (if h : i < xs.length then Classical.choose (ex i h) else i) = _
    rw [dif_pos h]; exact (Classical.choose_spec (ex i h)).2
  have r3 : ∀ i, ¬ i < xs.length → r i = i := fun i h => by
    show (if h : i < xs.length then Classical.choose (ex i h) else i) = _
    rw [dif_neg h]
  have inj : ∀ i j, r i = r j → i = j := fun i j e => by
    by_cases hi : i < xs.length
    · by_cases hj : j < xs.length
      · have := r2 i hi
        rw [e, r2 j hj, gv_get hi, gv_get hj] at this
        exact ((List.getElem_inj nd).mp this).symm
      · have := r1 i hi; rw [e, r3 j hj] at this; exact absurd this hj
    · by_cases hj : j < xs.length
      · have := r1 j hj; rw [← e, r3 i hi] at this; exact absurd this hi
      · rw [r3 i hi, r3 j hj] at e; exact e
  refine ⟨fun i j => decide (r i < r j), ⟨fun a b n => ?_, fun a b c h1 h2 => ?_⟩, fun i j hi hj => ?_, fun q hq h => ?_⟩
  · have : r a ≠ r b := fun e => n (inj _ _ e)
    by_cases h : r a < r b
    · simp [h, Nat.le_of_lt h]
    · have : r b < r a := by omega
      simp [h, this]
  · simp only [decide_eq_true_eq] at h1 h2 ⊢; exact Nat.lt_trans ‹_› ‹_›
  · rw [← r2 i hi, ← r2 j hj]
    exact strict_of hs (hl ▸ r1 i hi) (hl ▸ r1 j hj)
  · have qs : q.size = xs.length := by rw [hq.size_eq]; simp
    have qb : ∀ i, i < xs.length → gt q i < xs.length := fun i hi => by
      have hi' : i < q.size := by exact Nat.lt_of_lt_of_eq ‹_› (Eq.symm ‹_›)
      have e : gt q i = q[i] := by unfold gt; simp [Array.getD, hi']
      rw [e]
      have hm : q[i] ∈ q.toList := by simp
      simpa using (Array.perm_iff_toList_perm.mp hq).mem_iff.mp hm
    have id := up_id (n := xs.length) (f := fun i => r (gt q i)) (fun i hi => r1 _ (qb i hi)) (fun i j hij hj => by simpa using h i j hij hj)
    refine List.ext_getElem (by simp [qs, hl]) fun i h1 h2 => ?_
    have hi : i < xs.length := hl ▸ h2
    have hi' : i < q.size := by exact Nat.lt_of_lt_of_eq ‹_› (Eq.symm ‹_›)
    have e : gt q i = q[i] := by unfold gt; simp [Array.getD, hi']
    have := r2 _ (qb i hi)
    rw [show r (gt q i) = i from id i hi, gv_get h2, e] at this
    rw [List.getElem_map, this]
    simp
end Mine


section
open PySem PySem.W PySem.Calls PyProof.Rows PySem.Spec PySem.Builtin
namespace Mine
theorem ltList_eq : ∀ (a b : List Nat), decide (a < b) = ltList a b
  | [], [] => rfl
  | [], _ :: _ => rfl
  | _ :: _, [] => rfl
  | a :: as, b :: bs => by
    have ih := ltList_eq as bs
    show _ = if a < b then true else if a = b then ltList as bs else false
    by_cases h1 : a < b
    · rw [if_pos h1]; exact decide_eq_true (List.cons_lt_cons_iff.mpr (.inl h1))
    · rw [if_neg h1]
      by_cases h2 : a = b
      · subst h2; rw [if_pos rfl, ← ih]
        exact decide_eq_decide.mpr ⟨fun z => (List.cons_lt_cons_iff.mp z).elim (fun y => absurd y h1) (·.2), fun z => List.cons_lt_cons_iff.mpr (.inr ⟨rfl, z⟩)⟩
      · rw [if_neg h2]; exact decide_eq_false fun z => (List.cons_lt_cons_iff.mp z).elim h1 fun y => h2 y.1
section
variable {prog : Program} {w : World} {fa : Nat → Addr} {φ : Phi} {s : Shared}
theorem eq_data {A : Around} {n m : Nat} {x y : V} {a b : Value} {E : Value → Shared → Prop} {Q : Bool → Shared → Prop} (hx : jM n x = true) (hy : jM m y = true) (rx : VR fa φ s.heap x a) (ry : VR fa φ s.heap y b)
    (hu : A.units + n < cLine) (h : Q (eqB x y) s) : wpAny (model prog w) A (eqBool a b) Q E s := by
  obtain ⟨as, ra⟩ := (reads_both n).1 _ hx _ rx
  obtain ⟨bs, rb⟩ := (reads_both m).1 _ hy _ ry
  have l1 := (lay_both n).1 _ hx
  have l2 := (lay_both m).1 _ hy
  have : min (pyOf x).depth (pyOf y).depth ≤ n := Nat.le_trans (Nat.min_le_left _ _) l1.2
  exact SeqAt.eqBoolOverData prog w A E s a b _ _ as bs Q ra rb l1.1 l2.1 (Nat.lt_of_le_of_lt (Nat.add_le_add_left this _) hu) (by rw [(eqv_both n).1 _ hx m _ hy]; exact h)
mutual
theorem lt_data {A : Around} {E : Value → Shared → Prop} {Q : Value → Shared → Prop} : ∀ {n m : Nat} {x y : V} {a b : Value} {c : Bool}, jM n x = true → jM m y = true → VR fa φ s.heap x a → VR fa φ s.heap y b → ltV x y = some c →
    A.units + n + 1 < cLine → Q (.bool c) s → wpAny (model prog w) A (richCompare .Lt a b) Q E s
  | n, m, x, y, a, b, c, hx, hy, rx, ry, hc, hu, q => by
    match x, y, hx, hy, rx, ry, hc with
    | .int i, .int j, _, _, rx, ry, hc =>
      cases hc; cases rx; cases ry
      exact (show wpAny (model prog w) A (compareOp .Lt _ _) Q E s from PyProof.Rows.lt_int q)
    | .str i, .str j, _, _, rx, ry, hc =>
      cases hc; cases rx; cases ry
      refine (show wpAny (model prog w) A (compareOp .Lt _ _) Q E s from PyProof.Rows.lt_str ?_)
      rw [show (decide ((⟨i.toArray⟩ : PySem.Str).cps.toList < (⟨j.toArray⟩ : PySem.Str).cps.toList)) = ltList i j from ltList_eq i j]
      exact q
    | .tup xs, .tup ys, hx, hy, rx, ry, hc =>
      cases n with
      | zero => cases hx
      | succ n =>
      cases m with
      | zero => cases hy
      | succ m =>
      cases rx with
      | tup _ as a1 h1 h2 rs =>
      cases ry with
      | tup _ bs b1 h3 h4 ts =>
      refine tup_lt h1 h3 (by omega) ?_
      exact lex_data (n := n) (m := m) (A := A.in1) hx hy rs ts hc (by show A.units + 1 + n + 1 < cLine; omega) ⟨by simp, q⟩
theorem lex_data {A : Around} {E : Value → Shared → Prop} {Q : Value → Shared → Prop} : ∀ {n m : Nat} {xs ys : List V} {as bs : List Value} {c : Bool}, xD n xs = true → xD m ys = true → VRs fa φ s.heap xs as → VRs fa φ s.heap ys bs → ltVs xs ys = some c →
    A.units + n + 1 < cLine → Q (.bool c) s → LexW prog w A E (Builtin.Tuple.tupleCompareSizes .Lt as.length bs.length) Q (as.zip bs) s
  | n, m, [], [], _, _, c, _, _, rx, ry, hc, _, q => by
    cases rx; cases ry; cases hc
    exact q
  | n, m, [], y :: ys, _, _, c, _, _, rx, ry, hc, _, q => by
    cases rx; cases ry; cases hc
    simpa [LexW, Builtin.Tuple.tupleCompareSizes] using q
  | n, m, x :: xs, [], _, _, c, _, _, rx, ry, hc, _, q => by
    cases rx; cases ry; cases hc
    simpa [LexW, Builtin.Tuple.tupleCompareSizes] using q
  | n, m, x :: xs, y :: ys, _, _, c, hx, hy, rx, ry, hc, hu, q => by
    have hx := Bool.and_eq_true_iff.mp hx
    have hy := Bool.and_eq_true_iff.mp hy
    cases rx with
    | cons r1 r2 =>
    cases ry with
    | cons r3 r4 =>
    rw [List.zip_cons_cons]
    have hc : (if eqB x y then ltVs xs ys else ltV x y) = some c := hc
    refine eq_data (A := A) hx.1 hy.1 r1 r3 (Nat.le_of_lt ‹_›) ?_
    split at hc
    · rename_i e
      rw [if_pos e]
      have := lex_data (A := A) (E := E) (Q := Q) hx.2 hy.2 r2 r4 hc hu q
      simpa [Builtin.Tuple.tupleCompareSizes] using this
    · rename_i e
      rw [if_neg e]
      exact lt_data (A := A) hx.1 hy.1 r1 r3 hc hu q
end
end
end Mine


section
open PySem PySem.W PySem.Calls PyProof.Rows PySem.Spec PySem.Builtin
namespace Mine
theorem intsOf_some : ∀ {xs : List V} {ns : List Int}, intsOf xs = some ns → xs = ns.map .int
  | [], _, h => by cases h; rfl
  | x :: xs, ns, h => by
    cases x <;> first | (cases h; done) | skip
    obtain ⟨ms, e1, e2⟩ := Option.map_eq_some_iff.mp h
    subst e2
    rw [List.map_cons, intsOf_some e1]
theorem insV_ints {i : Int} : ∀ (ns : List Int), ns.Pairwise (· ≤ ·) → ∃ ms : List Int, insV (.int i) (ns.map .int) = some (ms.map .int) ∧ ms.Perm (i :: ns) ∧ ms.Pairwise (· ≤ ·)
  | [], _ => ⟨[i], rfl, .refl _, List.pairwise_singleton _ _⟩
  | n :: ns, h => by
    rw [List.map_cons, insV, show ltV (.int i) (.int n) = some (decide (i < n)) from rfl]
    have h' := List.pairwise_cons.mp h
    by_cases c : i < n
    · rw [decide_eq_true c]
      refine ⟨i :: n :: ns, rfl, .refl _, List.pairwise_cons.mpr ⟨fun b hb => ?_, h⟩⟩
      rcases List.mem_cons.mp hb with rfl | hb
      · exact Int.le_of_lt ‹_›
      · have := h'.1 b hb; exact Int.le_trans (Int.le_of_lt ‹_›) ‹_›
    · rw [decide_eq_false c]
      obtain ⟨ms, e1, e2, e3⟩ := insV_ints (i := i) ns h'.2
      refine ⟨n :: ms, by rw [e1]; rfl, (e2.cons n).trans (.swap _ _ _), List.pairwise_cons.mpr ⟨fun b hb => ?_, e3⟩⟩
      rcases List.mem_cons.mp (e2.mem_iff.mp hb) with rfl | hb
      · exact Int.not_lt.mp ‹_›
      · exact h'.1 b hb
theorem sortV_ints : ∀ (ns : List Int), ∃ ms : List Int, sortV (ns.map .int) = some (ms.map .int) ∧ ms.Perm ns ∧ ms.Pairwise (· ≤ ·)
  | [] => ⟨[], rfl, .refl _, List.Pairwise.nil⟩
  | n :: ns => by
    obtain ⟨ms, e1, e2, e3⟩ := sortV_ints ns
    obtain ⟨ks, f1, f2, f3⟩ := insV_ints (i := n) ms e3
    exact ⟨ks, by rw [List.map_cons, sortV, e1]; exact f1, f2.trans (e2.cons n), f3⟩
theorem sorted_unique {a b : List Int} (h : a.Perm b) (ha : a.Pairwise (· ≤ ·)) (hb : b.Pairwise (· ≤ ·)) : a = b :=
  h.eq_of_pairwise (fun x y _ _ h1 h2 => Int.le_antisymm h1 h2) ha hb
theorem klex {prog : Program} {w : World} {fa : Nat → Addr} {φ : Phi} {s : Shared} {A : Around} {Q : Bool → Shared → Prop} : ∀ {n m : Nat} {xs ys : List V} {as bs : List Value} {c : Bool} {i : Nat}, xD n xs = true → xD m ys = true → VRs fa φ s.heap xs as → VRs fa φ s.heap ys bs → ltVs xs ys = some c →
    A.units + n + 1 < cLine → Q c s → KatLex prog w A false (decide (as.length < bs.length)) Q (as.zip bs) i s
  | n, m, [], [], _, _, c, _, _, _, rx, ry, hc, _, q => by
    cases rx; cases ry; cases hc
    exact kat_nil (by simpa using q)
  | n, m, [], y :: ys, _, _, c, _, _, _, rx, ry, hc, _, q => by
    cases rx; cases ry; cases hc
    exact kat_nil (by simpa using q)
  | n, m, x :: xs, [], _, _, c, _, _, _, rx, ry, hc, _, q => by
    cases rx; cases ry; cases hc
    exact kat_nil (by simpa using q)
  | n, m, x :: xs, y :: ys, _, _, c, i, hx, hy, rx, ry, hc, hu, q => by
    have hx := Bool.and_eq_true_iff.mp hx
    have hy := Bool.and_eq_true_iff.mp hy
    cases rx with
    | cons r1 r2 =>
    cases ry with
    | cons r3 r4 =>
    replace hc : (if eqB x y = true then ltVs xs ys else ltV x y) = some c := hc
    rw [List.zip_cons_cons]
    refine kat_cons (eq_data (A := A) hx.1 hy.1 r1 r3 (Nat.le_of_lt ‹_›) ?_)
    split at hc
    · rename_i e
      rw [e]
      refine kat_yes ?_
      have := klex (prog := prog) (w := w) (A := A) (Q := Q) (i := i + 1) hx.2 hy.2 r2 r4 hc hu q
      simpa using this
    · rename_i e
      rw [Bool.eq_false_iff.mpr e]
      refine kat_no ?_
      rw [Bool.false_and]
      exact kat_one _ _ (show wpAny (model prog w) A (richCompare .Lt _ _) _ _ s from lt_data (A := A) hx.1 hy.1 r1 r3 hc hu q)
end Mine


section
open PySem PySem.W PySem.Calls PyProof.Rows PySem.Spec PySem.Builtin
namespace Mine
theorem katTups_of {M : Model} {fa : Nat → Addr} {φ : Phi} {h : Heap} : ∀ {xs : List V} {vs : List Value}, xs.all tupB = true → VRs fa φ h xs vs → ∃ fs, fs.length = vs.length ∧ KatTups h vs fs ∧ ∀ v ∈ fs, Looks M h (typeOf v) (.type "tuple")
  | [], _, _, r => by cases r; exact ⟨[], rfl, .nil, fun v hv => by cases hv⟩
  | x :: xs, _, e, r => by
    rw [List.all_cons, Bool.and_eq_true] at e
    cases r with
    | cons r1 r2 =>
    obtain ⟨fs, l, k, t⟩ := katTups_of (M := M) e.2 r2
    unfold tupB at e
    split at e
    · cases r1 with
      | tup _ as a h1 h2 rs =>
      cases rs with
      | cons q1 q2 =>
      cases q1 with
      | tup _ bs b h3 h4 ts =>
      refine ⟨.ref b :: fs, by simp [l], KatTups.cons h1 rfl rfl (by rfl) k, fun v hv => ?_⟩
      rcases List.mem_cons.mp hv with rfl | hv
      · exact show Looks M h (typeOf (.ref b)) (tupO bs).cls from (Looks.ld h3).andThen .now
      · exact t v hv
    · cases e.1
theorem vrs_of_map {fa : Nat → Addr} {φ : Phi} {h : Heap} {xs : List V} {vs : List Value} (r : VRs fa φ h xs vs) : ∀ (l : List Nat), (∀ i ∈ l, i < xs.length) → VRs fa φ h (l.map (gv xs)) (l.map fun i => vs.getD i Value.none)
  | [], _ => .nil
  | i :: l, hl => by
    have hi := hl i (.head _)
    refine .cons ?_ (vrs_of_map r l fun j hj => hl j (.tail _ hj))
    obtain ⟨a, e1, e2⟩ := r.get (i := i) (v := gv xs i) (by rw [gv_get hi]; simp [hi])
    show VR fa φ h (gv xs i) (vs.getD i Value.none)
    rw [show vs.getD i Value.none = a by simp [List.getD, e1]]
    exact e2
theorem vr_gv {fa : Nat → Addr} {φ : Phi} {h : Heap} {xs : List V} {vs : List Value} (r : VRs fa φ h xs vs) {i : Nat} (hi : i < xs.length) : VR fa φ h (gv xs i) (vs.getD i Value.none) := by
  obtain ⟨a, e1, e2⟩ := r.get (i := i) (v := gv xs i) (by rw [gv_get hi]; simp [hi])
  rw [show vs.getD i Value.none = a by simp [List.getD, e1]]
  exact e2
theorem vrs_ints {fa : Nat → Addr} {φ : Phi} {h : Heap} {vs : List Value} {ns : List Int} (r : IntsAre vs ns) : VRs fa φ h (ns.map .int) vs := by
  induction r with
  | nil => exact .nil
  | cons n t _ ih => exact .cons (.int n t) ih
theorem dataVs_gv {n : Nat} : ∀ {xs : List V}, xD n xs = true → ∀ {i : Nat}, i < xs.length → jM n (gv xs i) = true
  | x :: xs, e, 0, _ => by rw [xD, Bool.and_eq_true] at e; exact e.1
  | x :: xs, e, i + 1, h => by
    rw [xD, Bool.and_eq_true] at e
    exact dataVs_gv e.2 (i := i) (by simpa using h)
theorem all_gv {xs : List V} (e : xs.all tupB = true) {i : Nat} (h : i < xs.length) : ∃ us, gv xs i = .tup us := by
  have := List.all_eq_true.mp e _ (List.getElem_mem h)
  rw [gv_get h]
  unfold tupB at this
  split at this
  · exact ⟨_, by assumption⟩
  · cases this
section
variable {G : Gd} {cx : Scope} {n : Nat}
theorem HR.sortedTo {φ : Phi} {σ : H} {h : Heap} (hr : HR G φ σ h) {vs : List Value} {ys : List V} {out : List Value} (r : VRs G.fa φ h ys out) :
    HR G (φ ++ [(h.objs.size + 1, h.objs.size + 1)]) (σ ++ [.list ys]) (sortedAll h vs out.toArray) ∧ Step φ h (φ ++ [(h.objs.size + 1, h.objs.size + 1)]) (sortedAll h vs out.toArray) ∧ VR G.fa (φ ++ [(h.objs.size + 1, h.objs.size + 1)]) (sortedAll h vs out.toArray) (.obj σ.length) (.ref (h.objs.size + 1)) := by
  have hf : h.get? (h.objs.size + 1) = none := Heap.get?_none_of_le (Nat.le_succ _)
  have st : Step φ h (φ ++ [(h.objs.size + 1, h.objs.size + 1)]) (sortedAll h vs out.toArray) := by
    refine ⟨⟨_, rfl⟩, fun a ⟨p, hp, ha⟩ => ?_, fun b o e _ => sortedAll_keep e⟩
    rcases List.mem_append.mp hp with hp | hp
    · exact .inl ⟨p, hp, ha⟩
    · cases List.mem_singleton.mp hp
      rcases ha with rfl | rfl <;> exact .inr hf
  obtain ⟨m, hm⟩ := sortedAll_get (h := h) (vs := vs) (out := out.toArray)
  obtain ⟨hr', st'⟩ := hr.make (p := (h.objs.size + 1, h.objs.size + 1)) (m := .list ys) (fun b o e => sortedAll_keep (vs := vs) (out := out.toArray) e) hf hf ⟨rfl, out, m, hm, r.step st⟩
  exact ⟨hr', st', VR.obj _ (h.objs.size + 1, h.objs.size + 1) (by rw [← hr.len, List.getElem?_append_right (Nat.le_refl _), Nat.sub_self]; rfl)⟩
theorem sorted_h {φ : Phi} {h : Heap} {v : V} {a : Value} (r : VR G.fa φ h v a) : SimH G n φ h (call (.builtin "sorted") [a]) (fun σ => ((listAt σ v).bind sortO).bind fun ys => newL ys σ) (VRG G) := by
  intro A σ s Q E b σ' eh rm hr hm q
  subst eh
  obtain ⟨ys, e0, e1⟩ := Option.bind_eq_some_iff.mp hm
  obtain ⟨xs, e2, e3⟩ := Option.bind_eq_some_iff.mp e0
  obtain ⟨i', pp, vs, m, ei, hs', hp', rfl, -, ho, rs⟩ := hr.listAt r e2
  obtain ⟨hok, rfl, rfl⟩ := newL_some e1
  have hl := xP ho
  unfold sortO at e3
  split at e3
  case isFalse => cases e3
  rename_i h64
  replace h64 : vs.length < 64 := by rw [← rs.length]; exact of_decide_eq_true h64
  obtain ⟨zs, e4, e5⟩ := Option.bind_eq_some_iff.mp e3
  split at e5
  case isFalse => cases e5
  cases e5
  rename_i hcond
  have hperm := sortV_perm e4
  have fin : ∀ out : List Value, VRs G.fa φ s.heap ys out → Q (.ref (s.heap.objs.size + 1)) { s with heap := sortedAll s.heap vs out.toArray } := fun out ro => by
    obtain ⟨hr', st', r'⟩ := hr.sortedTo (vs := vs) ro
    exact q _ _ _ s.toks st' hr' r'
  rw [Bool.or_eq_true] at hcond
  by_cases hi : (intsOf xs).isSome = true
  · obtain ⟨ns, hn⟩ := Option.isSome_iff_exists.mp hi
    refine sorted_ints hl (ints_are rs hn) h64 fun out ns' a1 a2 a3 => ?_
    obtain ⟨ms, f1, f2, f3⟩ := sortV_ints ns
    rw [intsOf_some hn, f1] at e4
    cases e4
    have : ms = ns' := sorted_unique (f2.trans a2.symm) f3 a3
    subst this
    have := fin out.toList (vrs_ints a1)
    simpa using this
  · have hc := hcond.resolve_left hi
    rw [Bool.and_eq_true, Bool.and_eq_true] at hc
    obtain ⟨⟨ht, hd⟩, hstr⟩ := hc
    by_cases h2 : vs.length < 2
    · have : ys = xs := by
        have hx : xs.length < 2 := by rw [rs.length]; exact h2
        rcases xs with _ | ⟨x, _ | ⟨y, t⟩⟩
        · cases e4; rfl
        · cases e4; rfl
        · simp at hx; omega
      subst this
      refine sorted_shell (out := vs) hl h64 (fun h' hk a nn hn ha P hP => ?_) (fin vs rs)
      exact list_sort_small (s := { s with heap := h' }) ha h2 hP
    · obtain ⟨lt, O, hlt, hq⟩ := ranks hperm hstr
      have hu := rm.units
      have ll : xs.length = vs.length := rs.length
      obtain ⟨q0, eq0, pq0, sq0⟩ := kas_sorts O (n := vs.length) (by omega)
      have hys : q0.toList.map (gv xs) = ys := hq q0 (ll ▸ pq0) (ll ▸ sq0)
      refine sorted_shell (out := q0.toList.map fun i => vs.getD i Value.none) hl h64 (fun h' hk a nn hn ha P hP => ?_) (fin _ ?_)
      · have rs1 : ∀ h'', (∀ b o, b ≠ a → h'.get? b = some o → h''.get? b = some o) → VRs G.fa φ h'' xs vs := fun h'' k =>
          rs.mono (Ext.refl _) fun b us e nb => ⟨k b _ (fun z => by rw [z, hn] at e; cases e) (hk b _ e), nb⟩
        refine list_sort_raw (s := { s with heap := h' }) (κ := tuples' false) (lt := lt) ha (Nat.le_of_not_lt ‹_›) h64 O (fun h'' k C hC => ?_) (fun h'' k i j C hi hj hC => ?_) (by rw [eq0]; exact hP)
        · obtain ⟨fs, l, kt, tt⟩ := katTups_of (M := model G.prog G.w) ht (rs1 h'' k)
          refine kat_kind (T := .type "tuple") kt (by omega) (fun v hv => tt v hv) (by decide) ?_
          rw [show ((Value.type "tuple" != Value.type "tuple")) = false by decide]
          exact hC
        · have r1 := vr_gv (rs1 h'' k) (i := i) (Nat.lt_of_lt_of_eq ‹_› (Eq.symm ‹_›))
          have r2 := vr_gv (rs1 h'' k) (i := j) (Nat.lt_of_lt_of_eq ‹_› (Eq.symm ‹_›))
          have d1 := dataVs_gv hd (i := i) (Nat.lt_of_lt_of_eq ‹_› (Eq.symm ‹_›))
          have d2 := dataVs_gv hd (i := j) (Nat.lt_of_lt_of_eq ‹_› (Eq.symm ‹_›))
          have e := hlt i j (Nat.lt_of_lt_of_eq ‹_› (Eq.symm ‹_›)) (Nat.lt_of_lt_of_eq ‹_› (Eq.symm ‹_›))
          obtain ⟨us, eu⟩ := all_gv ht (i := i) (Nat.lt_of_lt_of_eq ‹_› (Eq.symm ‹_›))
          obtain ⟨ws, ew⟩ := all_gv ht (i := j) (Nat.lt_of_lt_of_eq ‹_› (Eq.symm ‹_›))
          rw [eu] at r1 d1 e
          rw [ew] at r2 d2 e
          replace d1 : xD 2 us = true := d1
          replace d2 : xD 2 ws = true := d2
          replace e : ltVs us ws = some (lt i j) := e
          generalize vs.getD i Value.none = x at r1 ⊢
          generalize vs.getD j Value.none = y at r2 ⊢
          cases r1 with
          | tup _ as1 a1 h1 _ q1 =>
          cases r2 with
          | tup _ as2 a2 h3 _ q2 =>
          refine kat_lt (s := { s with heap := h'' }) h1 rfl h3 rfl ?_
          have hu1 : A.in1.in1.units + 2 + 1 < cLine := by show A.units + 1 + 1 + 2 + 1 < cLine; omega
          have := klex (prog := G.prog) (w := G.w) (s := { s with heap := h'' }) (A := A.in1.in1) (Q := C) (i := 0) d1 d2 q1 q2 e hu1 hC
          simpa using this
      · rw [← hys]
        refine vrs_of_map rs _ fun i hi => ?_
        have := (Array.perm_iff_toList_perm.mp pq0).mem_iff.mp hi
        rw [ll]
        simpa using this
theorem sim_sorted {e : PySem.Expr} {c : Ex V} {p pos : Pos} {i : Nat} (h1 : yE G cx n (eval e) c (VRG G)) (hs : ∀ env, starEach [e] env = [(false, eval e env)]) (hx : xU cx.names "sorted" = some (i, .globalImplicit)) (he : nsIn G.K mainGlobals "sorted" = some none) : yE G cx n (eval (.Call (.Name "sorted" p) [e] [] pos)) (sortedE c) (VRG G) :=
  sim_bui1 (p := p) (pos := pos) (R := VRG G) (g := fun v σ => ((listAt σ v).bind sortO).bind fun ys => newL ys σ) h1 hs (.inl ⟨"sorted", rfl⟩) (fun φ h v a r => sorted_h r) hx he (by decide +kernel) (by decide) (by decide)
end
end Mine


section
open PySem PySem.W PySem.Calls PyProof.Rows PySem.Spec PySem.Builtin
namespace Mine
noncomputable def xT : List Stmt := PySem.Challenge.pw_rr0068_01.main.body
noncomputable def st_is_number : Stmt := yZ 20 xT
noncomputable def st_type_of : Stmt := yZ 21 xT
noncomputable def st_is_collectable : Stmt := yZ 22 xT
noncomputable def st_raw_equal : Stmt := yZ 23 xT
noncomputable def st_string_hash : Stmt := yZ 24 xT
noncomputable def st_log2 : Stmt := yZ 25 xT
noncomputable def st_ceil_log2 : Stmt := yZ 26 xT
noncomputable def st_HeapObject_init : Stmt := yZ 1 (wC (yZ 18 xT))
noncomputable def st_PyClosure_init : Stmt := yZ 1 (wC (yZ 34 xT))
noncomputable def st_Userdata_init : Stmt := yZ 1 (wC (yZ 35 xT))
noncomputable def st_DeadKey_init : Stmt := yZ 0 (wC (yZ 47 xT))
noncomputable def st_Node_init : Stmt := yZ 0 (wC (yZ 48 xT))
noncomputable def st_moved_to : Stmt := yZ 1 (wC (yZ 48 xT))
noncomputable def st_array_index : Stmt := yZ 49 xT
noncomputable def st_compute_sizes : Stmt := yZ 50 xT
noncomputable def st_count_key : Stmt := yZ 51 xT
noncomputable def st_main_position : Stmt := yZ 2 (wC (yZ 52 xT))
noncomputable def st_find_node : Stmt := yZ 3 (wC (yZ 52 xT))
noncomputable def st_free_position : Stmt := yZ 4 (wC (yZ 52 xT))
noncomputable def st_get_int : Stmt := yZ 5 (wC (yZ 52 xT))
noncomputable def st_get_text : Stmt := yZ 6 (wC (yZ 52 xT))
noncomputable def st_get : Stmt := yZ 7 (wC (yZ 52 xT))
noncomputable def st_new_key : Stmt := yZ 12 (wC (yZ 52 xT))
noncomputable def st_put_again : Stmt := yZ 13 (wC (yZ 52 xT))
noncomputable def st_put_back : Stmt := yZ 18 (wC (yZ 52 xT))
noncomputable def st_count_array : Stmt := yZ 14 (wC (yZ 52 xT))
noncomputable def st_count_nodes : Stmt := yZ 15 (wC (yZ 52 xT))
noncomputable def st_make_nodes : Stmt := yZ 19 (wC (yZ 52 xT))
noncomputable def st_weigh : Stmt := yZ 21 (wC (yZ 52 xT))
noncomputable def st_resize : Stmt := yZ 17 (wC (yZ 52 xT))
noncomputable def st_rehash : Stmt := yZ 16 (wC (yZ 52 xT))
noncomputable def st_put : Stmt := yZ 11 (wC (yZ 52 xT))
noncomputable def st_set : Stmt := yZ 8 (wC (yZ 52 xT))
noncomputable def st_Table_init : Stmt := yZ 1 (wC (yZ 52 xT))
noncomputable def st_find_index : Stmt := yZ 22 (wC (yZ 52 xT))
noncomputable def st_next : Stmt := yZ 23 (wC (yZ 52 xT))
noncomputable def st_bury : Stmt := yZ 26 (wC (yZ 52 xT))
noncomputable def st_weak_mode : Stmt := yZ 2 xT
noncomputable def st_is_white : Stmt := yZ 59 xT
noncomputable def st_is_lost : Stmt := yZ 61 xT
noncomputable def st_is_object : Stmt := yZ 69 xT
noncomputable def st_is_lost_key : Stmt := yZ 75 xT
noncomputable def st_is_lost_value : Stmt := yZ 76 xT
noncomputable def st_lost_places : Stmt := yZ 62 xT
noncomputable def st_lost_entries : Stmt := yZ 63 xT
noncomputable def st_kept_of_entry : Stmt := yZ 64 xT
noncomputable def st_objects_of : Stmt := yZ 70 xT
noncomputable def st_table_children : Stmt := yZ 72 xT
noncomputable def st_children_of : Stmt := yZ 71 xT
noncomputable def st_table_size : Stmt := yZ 74 xT
noncomputable def st_clear_table : Stmt := yZ 77 xT
noncomputable def st_without : Stmt := yZ 79 xT
noncomputable def st__law_sack : Stmt := yZ 81 xT
noncomputable def st__law_drawn : Stmt := yZ 82 xT
noncomputable def st__law_objects : Stmt := yZ 83 xT
noncomputable def st__law_meta : Stmt := yZ 84 xT
noncomputable def st__law_number : Stmt := yZ 85 xT
noncomputable def st__law_is_lost : Stmt := yZ 86 xT
noncomputable def st__law_kept : Stmt := yZ 87 xT
noncomputable def st__law_walked : Stmt := yZ 88 xT
noncomputable def st__law_lists_right : Stmt := yZ 89 xT
noncomputable def st_law : Stmt := yZ 90 xT
noncomputable def vS (s : String) (t : Nat) : Value := .str (Str.ofString s) t
noncomputable def vI (i : Int) (t : Nat) : Value := .int i t
noncomputable def N : Value := .none
noncomputable def tD : Value := .type "dict"
noncomputable def kE (P : Params) (s : String) (t : Nat) (v : Value) : DictEntry := ⟨PyData.keyHash P (Str.ofString s), vS s t, v⟩
noncomputable def kD (c : Value) (es : List DictEntry) (n : Nat) : Obj := { cls := c, data := .dict es.toArray n }
noncomputable def kT (vs : List Value) (n : Nat) : Obj := { cls := .type "tuple", data := .seq vs.toArray n }
noncomputable def kC (vs : List Value) : Obj := { cls := .type "code", data := .fields vs.toArray }
noncomputable def kO (n q : String) (t : Nat) (l a f : Int) (r e : Nat) : Obj := kC [vS n t, vS q (t + 1), vS "/claim/cut.py" (t + 2), vI l 0, vI a 0, vI 0 0, vI 0 0, vI f 0, .ref r, .bool true, vI 181 0, .ref (r + 1), N, .ref (r + 2), .ref (r + 3), .ref (r + 4), vI e 0, vI l 0, vS "/claim/cut.py" (e + 1)]
noncomputable def kF (n q : String) (st : Stmt) (m : String) (mt : Nat) (cd : Addr) (dv : Value) : Obj := { cls := .type "function", data := .func (fnOf (Str.ofString n) (Str.ofString q) (fdArgs st) (fdBody st) (jN st) dv .none .none (vS m mt) none (.ref cd) .none) }
noncomputable def kL (n : String) (bs mro : List Value) (ns : Addr) (q : String) (sb : List Value) (sl : List (Option Value)) : Obj := { cls := .type "type", data := .cls { name := Str.ofString n, bases := bs, mro := mro, ns := ns, qualname := Str.ofString q, subclasses := sb }, slots := sl.toArray }
noncomputable def kP (P : Params) : Frag := [
  (2, (kD N [kE P "type.__subclasses__.Exception.0" 263 (vI 45 0), kE P "type.__subclasses__.Exception.n" 264 (vI 1 0)] 2)),
  (3, (kD tD [kE P "__name__" 165 (vS "law_rr0068_01" 1395), kE P "__doc__" 166 N, kE P "__package__" 167 N, kE P "__loader__" 168 (.builtin "__main__.__loader__#opaque"), kE P "__spec__" 169 N, kE P "__annotations__" 170 (.ref 6), kE P "__builtins__" 171 (.ref 4), kE P "__file__" 173 (vS "/claim/cut.py" 172), kE P "__cached__" 174 N, kE P "_wall" 193 (.ref 21), kE P "weak_mode" 206 (.ref 28), kE P "T_NONE" 211 (vI (-1) 210), kE P "T_NIL" 213 (vI 0 212), kE P "T_BOOLEAN" 215 (vI 1 214), kE P "T_LIGHT" 217 (vI 2 216), kE P "T_NUMBER" 219 (vI 3 218), kE P "T_STRING" 221 (vI 4 220), kE P "T_TABLE" 223 (vI 5 222), kE P "T_FUNCTION" 225 (vI 6 224), kE P "T_USERDATA" 227 (vI 7 226), kE P "T_THREAD" 229 (vI 8 228), kE P "T_PROTO" 231 (vI 9 230), kE P "T_UPVAL" 233 (vI 10 232), kE P "HASH_MASK" 235 (vI 4294967295 234), kE P "LuaError" 266 (.ref 45), kE P "HeapObject" 299 (.ref 65), kE P "LightValue" 328 (.ref 86), kE P "is_number" 335 (.ref 97), kE P "type_of" 342 (.ref 104), kE P "is_collectable" 349 (.ref 111), kE P "raw_equal" 358 (.ref 118), kE P "string_hash" 368 (.ref 125), kE P "log2" 376 (.ref 132), kE P "ceil_log2" 383 (.ref 139), kE P "THREAD_OK" 387 (vI 0 386), kE P "MIN_STACK" 389 (vI 20 388), kE P "SIZE_CLOSURE" 391 (vI 6 390), kE P "SIZE_USERDATA" 393 (vI 5 392), kE P "SIZE_THREAD" 395 (vI 20 394), kE P "LuaClosure" 458 (.ref 185), kE P "PyClosure" 523 (.ref 233), kE P "Userdata" 554 (.ref 252), kE P "Thread" 708 (.ref 371), kE P "Proto" 772 (.ref 411), kE P "MAX_BITS" 776 (vI 26 775), kE P "MAX_ARRAY" 779 (vI 67108864 778), kE P "MOST_SLOTS" 783 (vI 4194304 782), kE P "MOST_PLACES" 787 (vI 1048576 786), kE P "BASE_SIZE" 789 (vI 56 788), kE P "SLOT_SIZE" 791 (vI 16 790), kE P "NODE_SIZE" 793 (vI 32 792), kE P "DeadKey" 822 (.ref 430), kE P "Node" 860 (.ref 458), kE P "array_index" 867 (.ref 469), kE P "compute_sizes" 880 (.ref 476), kE P "count_key" 889 (.ref 483), kE P "Table" 1195 (.ref 687), kE P "SIZE_UPVAL" 1199 (vI 4 1198), kE P "UpVal" 1258 (.ref 735), kE P "GREY" 1262 (vI 2 1261), kE P "BLACK" 1264 (vI 3 1263), kE P "is_white" 1271 (.ref 744), kE P "is_lost" 1282 (.ref 751), kE P "lost_places" 1288 (.ref 756), kE P "lost_entries" 1301 (.ref 763), kE P "kept_of_entry" 1311 (.ref 770), kE P "SIZE_TABLE" 1315 (vI 8 1314), kE P "SIZE_ARRAY_PLACE" 1317 (vI 1 1316), kE P "SIZE_NODE" 1319 (vI 2 1318), kE P "is_object" 1326 (.ref 777), kE P "objects_of" 1332 (.ref 782), kE P "children_of" 1339 (.ref 789), kE P "table_children" 1349 (.ref 796), kE P "empty_rest" 1359 (.ref 803), kE P "table_size" 1366 (.ref 810), kE P "is_lost_key" 1373 (.ref 817), kE P "is_lost_value" 1380 (.ref 824), kE P "clear_table" 1386 (.ref 829), kE P "without" 1394 (.ref 834), kE P "_law_sack" 1402 (.ref 839), kE P "_law_drawn" 1411 (.ref 846), kE P "_law_objects" 1421 (.ref 853), kE P "_law_meta" 1427 (.ref 858), kE P "_law_number" 1434 (.ref 865), kE P "_law_is_lost" 1442 (.ref 872), kE P "_law_kept" 1448 (.ref 877), kE P "_law_walked" 1459 (.ref 884), kE P "_law_lists_right" 1465 (.ref 889), kE P "law" 1471 (.ref 894)] 89)),
  (27, kO "weak_mode" "weak_mode" 196 5 1 3 22 204),
  (28, (kF "weak_mode" "weak_mode" st_weak_mode "lua.meta" 194 27 N)),
  (61, kO "__init__" "HeapObject.__init__" 280 38 3 3 56 286),
  (62, (kF "__init__" "HeapObject.__init__" st_HeapObject_init "lua.values" 207 61 N)),
  (64, (kD tD [kE P "__module__" 274 (vS "lua.values" 207), kE P "__firstlineno__" 278 (vI 35 277), kE P "kind" 279 (vI (-1) 210), kE P "__init__" 288 (.ref 62), kE P "__static_attributes__" 292 (.ref 63), kE P "__dict__" 294 (.ref 66), kE P "__weakref__" 296 (.ref 67), kE P "__doc__" 297 N] 4)),
  (65, (kL "HeapObject" [(.type "object")] [(.ref 65), (.type "object")] 64 "HeapObject" [(.ref 185), (.ref 233), (.ref 252), (.ref 371), (.ref 411), (.ref 687), (.ref 735)] [none, none, some (vS "HeapObject" 267), some (vS "HeapObject" 275), some (.builtin "object.__new__"), some (.bool true)])),
  (85, (kD tD [kE P "__module__" 307 (vS "lua.values" 207), kE P "__firstlineno__" 311 (vI 42 310), kE P "__init__" 319 (.ref 83), kE P "__static_attributes__" 321 (.ref 84), kE P "__dict__" 323 (.ref 87), kE P "__weakref__" 325 (.ref 88), kE P "__doc__" 326 N] 4)),
  (86, (kL "LightValue" [(.type "object")] [(.ref 86), (.type "object")] 85 "LightValue" [] [none, none, some (vS "LightValue" 300), some (vS "LightValue" 308), some (.builtin "object.__new__"), some (.bool true)])),
  (96, kO "is_number" "is_number" 329 46 1 3 91 333),
  (97, (kF "is_number" "is_number" st_is_number "lua.values" 207 96 N)),
  (103, kO "type_of" "type_of" 336 48 1 3 98 340),
  (104, (kF "type_of" "type_of" st_type_of "lua.values" 207 103 N)),
  (110, kO "is_collectable" "is_collectable" 343 62 1 3 105 347),
  (111, (kF "is_collectable" "is_collectable" st_is_collectable "lua.values" 207 110 N)),
  (117, kO "raw_equal" "raw_equal" 350 64 2 3 112 356),
  (118, (kF "raw_equal" "raw_equal" st_raw_equal "lua.values" 207 117 N)),
  (124, kO "string_hash" "string_hash" 359 73 1 3 119 366),
  (125, (kF "string_hash" "string_hash" st_string_hash "lua.values" 207 124 N)),
  (131, kO "log2" "log2" 369 80 1 3 126 374),
  (132, (kF "log2" "log2" st_log2 "lua.values" 207 131 N)),
  (138, kO "ceil_log2" "ceil_log2" 377 86 1 3 133 381),
  (139, (kF "ceil_log2" "ceil_log2" st_ceil_log2 "lua.values" 207 138 N)),
  (184, (kD tD [kE P "__module__" 403 (vS "lua.objects" 384), kE P "__firstlineno__" 407 (vI 94 406), kE P "kind" 408 (vI 6 224), kE P "__init__" 418 (.ref 153), kE P "upval_count" 426 (.ref 161), kE P "get_upval" 434 (.ref 168), kE P "set_upval" 443 (.ref 175), kE P "upval_name" 451 (.ref 182), kE P "__static_attributes__" 455 (.ref 183), kE P "__doc__" 456 N] 2)),
  (185, (kL "LuaClosure" [(.ref 65)] [(.ref 185), (.ref 65), (.type "object")] 184 "LuaClosure" [] [some (.ref 140), none, some (vS "LuaClosure" 396), some (vS "LuaClosure" 404), some (.builtin "object.__new__"), some (.bool true)])),
  (200, kO "__init__" "PyClosure.__init__" 472 118 5 3 195 480),
  (201, (kF "__init__" "PyClosure.__init__" st_PyClosure_init "lua.objects" 384 200 N)),
  (232, (kD tD [kE P "__module__" 466 (vS "lua.objects" 384), kE P "__firstlineno__" 470 (vI 115 469), kE P "kind" 471 (vI 6 224), kE P "__init__" 482 (.ref 201), kE P "upval_count" 490 (.ref 209), kE P "get_upval" 498 (.ref 216), kE P "set_upval" 507 (.ref 223), kE P "upval_name" 515 (.ref 230), kE P "__static_attributes__" 520 (.ref 231), kE P "__doc__" 521 N] 2)),
  (233, (kL "PyClosure" [(.ref 65)] [(.ref 233), (.ref 65), (.type "object")] 232 "PyClosure" [] [some (.ref 188), none, some (vS "PyClosure" 459), some (vS "PyClosure" 467), some (.builtin "object.__new__"), some (.bool true)])),
  (248, kO "__init__" "Userdata.__init__" 537 140 4 3 243 544),
  (249, (kF "__init__" "Userdata.__init__" st_Userdata_init "lua.objects" 384 248 N)),
  (251, (kD tD [kE P "__module__" 531 (vS "lua.objects" 384), kE P "__firstlineno__" 535 (vI 137 534), kE P "kind" 536 (vI 7 226), kE P "__init__" 546 (.ref 249), kE P "__static_attributes__" 551 (.ref 250), kE P "__doc__" 552 N] 2)),
  (252, (kL "Userdata" [(.ref 65)] [(.ref 252), (.ref 65), (.type "object")] 251 "Userdata" [] [some (.ref 236), none, some (vS "Userdata" 524), some (vS "Userdata" 532), some (.builtin "object.__new__"), some (.bool true)])),
  (370, (kD tD [kE P "__module__" 562 (vS "lua.objects" 384), kE P "__firstlineno__" 566 (vI 146 565), kE P "kind" 567 (vI 8 228), kE P "__init__" 575 (.ref 268), kE P "frame" 583 (.ref 276), kE P "frame_count" 591 (.ref 284), kE P "ground" 598 (.ref 291), kE P "grow" 606 (.ref 298), kE P "push" 614 (.ref 305), kE P "pop" 621 (.ref 312), kE P "set_top" 629 (.ref 319), kE P "values" 638 (.ref 326), kE P "insert" 647 (.ref 333), kE P "remove" 655 (.ref 340), kE P "push_frame" 666 (.ref 347), kE P "pop_frame" 673 (.ref 354), kE P "function_at" 681 (.ref 361), kE P "shrink" 688 (.ref 368), kE P "__static_attributes__" 705 (.ref 369), kE P "__doc__" 706 N] 2)),
  (371, (kL "Thread" [(.ref 65)] [(.ref 371), (.ref 65), (.type "object")] 370 "Thread" [] [some (.ref 255), none, some (vS "Thread" 555), some (vS "Thread" 563), some (.builtin "object.__new__"), some (.bool true)])),
  (410, (kD tD [kE P "__module__" 718 (vS "lua.protos" 709), kE P "__firstlineno__" 722 (vI 212 721), kE P "kind" 723 (vI 9 230), kE P "__init__" 730 (.ref 387), kE P "line_at" 738 (.ref 394), kE P "local_name" 747 (.ref 401), kE P "upvalue_name" 755 (.ref 408), kE P "__static_attributes__" 769 (.ref 409), kE P "__doc__" 770 N] 2)),
  (411, (kL "Proto" [(.ref 65)] [(.ref 411), (.ref 65), (.type "object")] 410 "Proto" [] [some (.ref 374), none, some (vS "Proto" 711), some (vS "Proto" 719), some (.builtin "object.__new__"), some (.bool true)])),
  (426, kO "__init__" "DeadKey.__init__" 806 249 2 3 421 811),
  (427, (kF "__init__" "DeadKey.__init__" st_DeadKey_init "lua.tables" 773 426 N)),
  (429, (kD tD [kE P "__module__" 801 (vS "lua.tables" 773), kE P "__firstlineno__" 805 (vI 247 804), kE P "__init__" 813 (.ref 427), kE P "__static_attributes__" 815 (.ref 428), kE P "__dict__" 817 (.ref 431), kE P "__weakref__" 819 (.ref 432), kE P "__doc__" 820 N] 4)),
  (430, (kL "DeadKey" [(.type "object")] [(.ref 430), (.type "object")] 429 "DeadKey" [] [none, none, some (vS "DeadKey" 794), some (vS "DeadKey" 802), some (.builtin "object.__new__"), some (.bool true)])),
  (447, kO "__init__" "Node.__init__" 835 253 1 3 442 839),
  (448, (kF "__init__" "Node.__init__" st_Node_init "lua.tables" 773 447 N)),
  (454, kO "moved_to" "Node.moved_to" 842 258 2 3 449 847),
  (455, (kF "moved_to" "Node.moved_to" st_moved_to "lua.tables" 773 454 N)),
  (457, (kD tD [kE P "__module__" 830 (vS "lua.tables" 773), kE P "__firstlineno__" 834 (vI 251 833), kE P "__init__" 841 (.ref 448), kE P "moved_to" 849 (.ref 455), kE P "__static_attributes__" 853 (.ref 456), kE P "__dict__" 855 (.ref 459), kE P "__weakref__" 857 (.ref 460), kE P "__doc__" 858 N] 4)),
  (458, (kL "Node" [(.type "object")] [(.ref 458), (.type "object")] 457 "Node" [] [none, none, some (vS "Node" 823), some (vS "Node" 831), some (.builtin "object.__new__"), some (.bool true)])),
  (468, kO "array_index" "array_index" 861 262 1 3 463 865),
  (469, (kF "array_index" "array_index" st_array_index "lua.tables" 773 468 N)),
  (475, kO "compute_sizes" "compute_sizes" 868 264 2 3 470 878),
  (476, (kF "compute_sizes" "compute_sizes" st_compute_sizes "lua.tables" 773 475 N)),
  (482, kO "count_key" "count_key" 881 281 2 3 477 887),
  (483, (kF "count_key" "count_key" st_count_key "lua.tables" 773 482 N)),
  (491, (kT [(vI 0 903), (vI 0 904), (vI 0 905)] 0)),
  (497, kO "__init__" "Table.__init__" 906 290 4 3 492 913),
  (498, (kF "__init__" "Table.__init__" st_Table_init "lua.tables" 773 497 (.ref 491))),
  (504, kO "main_position" "Table.main_position" 916 302 2 3 499 922),
  (505, (kF "main_position" "Table.main_position" st_main_position "lua.tables" 773 504 N)),
  (511, kO "find_node" "Table.find_node" 925 312 2 3 506 931),
  (512, (kF "find_node" "Table.find_node" st_find_node "lua.tables" 773 511 N)),
  (518, kO "free_position" "Table.free_position" 934 322 1 3 513 938),
  (519, (kF "free_position" "Table.free_position" st_free_position "lua.tables" 773 518 N)),
  (525, kO "get_int" "Table.get_int" 941 329 2 3 520 947),
  (526, (kF "get_int" "Table.get_int" st_get_int "lua.tables" 773 525 N)),
  (532, kO "get_text" "Table.get_text" 950 335 2 3 527 956),
  (533, (kF "get_text" "Table.get_text" st_get_text "lua.tables" 773 532 N)),
  (539, kO "get" "Table.get" 959 339 2 3 534 965),
  (540, (kF "get" "Table.get" st_get "lua.tables" 773 539 N)),
  (546, kO "set" "Table.set" 968 347 4 3 541 975),
  (547, (kF "set" "Table.set" st_set "lua.tables" 773 546 N)),
  (567, kO "put" "Table.put" 998 359 4 3 562 1007),
  (568, (kF "put" "Table.put" st_put "lua.tables" 773 567 N)),
  (574, kO "new_key" "Table.new_key" 1010 372 4 3 569 1021),
  (575, (kF "new_key" "Table.new_key" st_new_key "lua.tables" 773 574 N)),
  (581, kO "put_again" "Table.put_again" 1024 402 4 3 576 1032),
  (582, (kF "put_again" "Table.put_again" st_put_again "lua.tables" 773 581 N)),
  (588, kO "count_array" "Table.count_array" 1035 409 2 3 583 1046),
  (589, (kF "count_array" "Table.count_array" st_count_array "lua.tables" 773 588 N)),
  (595, kO "count_nodes" "Table.count_nodes" 1049 427 2 3 590 1057),
  (596, (kF "count_nodes" "Table.count_nodes" st_count_nodes "lua.tables" 773 595 N)),
  (602, kO "rehash" "Table.rehash" 1060 436 3 3 597 1073),
  (603, (kF "rehash" "Table.rehash" st_rehash "lua.tables" 773 602 N)),
  (604, (kT [N] 0)),
  (610, kO "resize" "Table.resize" 1076 446 4 3 605 1088),
  (611, (kF "resize" "Table.resize" st_resize "lua.tables" 773 610 (.ref 604))),
  (617, kO "put_back" "Table.put_back" 1091 463 4 3 612 1099),
  (618, (kF "put_back" "Table.put_back" st_put_back "lua.tables" 773 617 N)),
  (622, (kC [(vS "make_nodes" 1102), (vS "Table.make_nodes" 1103), (vS "/claim/cut.py" 1104), (vI 470 0), (vI 2 0), (vI 0 0), (vI 0 0), (vI 3 0), (.ref 619), (.bool true), (vI 181 0), (.ref 620), N, N, N, (.ref 621), (vI 1105 0), (vI 470 0), (vS "/claim/cut.py" 1106)])),
  (623, (kF "make_nodes" "Table.make_nodes" st_make_nodes "lua.tables" 773 622 N)),
  (636, kO "weigh" "Table.weigh" 1117 483 2 3 631 1122),
  (637, (kF "weigh" "Table.weigh" st_weigh "lua.tables" 773 636 N)),
  (643, kO "find_index" "Table.find_index" 1125 489 2 3 638 1133),
  (644, (kF "find_index" "Table.find_index" st_find_index "lua.tables" 773 643 N)),
  (650, kO "next" "Table.next" 1136 505 2 3 645 1144),
  (651, (kF "next" "Table.next" st_next "lua.tables" 773 650 N)),
  (671, kO "bury" "Table.bury" 1162 525 2 3 666 1168),
  (672, (kF "bury" "Table.bury" st_bury "lua.tables" 773 671 N)),
  (686, (kD tD [kE P "__module__" 897 (vS "lua.tables" 773), kE P "__firstlineno__" 901 (vI 287 900), kE P "kind" 902 (vI 5 222), kE P "__init__" 915 (.ref 498), kE P "main_position" 924 (.ref 505), kE P "find_node" 933 (.ref 512), kE P "free_position" 940 (.ref 519), kE P "get_int" 949 (.ref 526), kE P "get_text" 958 (.ref 533), kE P "get" 967 (.ref 540), kE P "set" 977 (.ref 547), kE P "set_int" 987 (.ref 554), kE P "set_text" 997 (.ref 561), kE P "put" 1009 (.ref 568), kE P "new_key" 1023 (.ref 575), kE P "put_again" 1034 (.ref 582), kE P "count_array" 1048 (.ref 589), kE P "count_nodes" 1059 (.ref 596), kE P "rehash" 1075 (.ref 603), kE P "resize" 1090 (.ref 611), kE P "put_back" 1101 (.ref 618), kE P "make_nodes" 1107 (.ref 623), kE P "resize_array" 1116 (.ref 630), kE P "weigh" 1124 (.ref 637), kE P "find_index" 1135 (.ref 644), kE P "next" 1146 (.ref 651), kE P "length" 1153 (.ref 658), kE P "unbound_search" 1161 (.ref 665), kE P "bury" 1170 (.ref 672), kE P "bury_empty" 1177 (.ref 679), kE P "entries" 1183 (.ref 684), kE P "__static_attributes__" 1192 (.ref 685), kE P "__doc__" 1193 N] 2)),
  (687, (kL "Table" [(.ref 65)] [(.ref 687), (.ref 65), (.type "object")] 686 "Table" [] [some (.ref 484), none, some (vS "Table" 890), some (vS "Table" 898), some (.builtin "object.__new__"), some (.bool true)])),
  (734, (kD tD [kE P "__module__" 1207 (vS "lua.upvals" 1196), kE P "__firstlineno__" 1211 (vI 542 1210), kE P "kind" 1212 (vI 10 232), kE P "__init__" 1221 (.ref 703), kE P "is_open" 1229 (.ref 711), kE P "get" 1236 (.ref 718), kE P "set" 1244 (.ref 725), kE P "close" 1251 (.ref 732), kE P "__static_attributes__" 1255 (.ref 733), kE P "__doc__" 1256 N] 2)),
  (735, (kL "UpVal" [(.ref 65)] [(.ref 735), (.ref 65), (.type "object")] 734 "UpVal" [] [some (.ref 690), none, some (vS "UpVal" 1200), some (vS "UpVal" 1208), some (.builtin "object.__new__"), some (.bool true)])),
  (743, kO "is_white" "is_white" 1265 574 1 3 738 1269),
  (744, (kF "is_white" "is_white" st_is_white "lua.marks" 1259 743 N)),
  (750, kO "is_lost" "is_lost" 1274 577 3 3 745 1280),
  (751, (kF "is_lost" "is_lost" st_is_lost "lua.weaks" 1272 750 N)),
  (755, (kC [(vS "lost_places" 1283), (vS "lost_places" 1284), (vS "/claim/cut.py" 1285), (vI 579 0), (vI 2 0), (vI 0 0), (vI 0 0), (vI 3 0), (.ref 752), (.bool true), (vI 181 0), (.ref 753), N, N, N, (.ref 754), (vI 1286 0), (vI 579 0), (vS "/claim/cut.py" 1287)])),
  (756, (kF "lost_places" "lost_places" st_lost_places "lua.weaks" 1272 755 N)),
  (762, kO "lost_entries" "lost_entries" 1289 581 3 3 757 1299),
  (763, (kF "lost_entries" "lost_entries" st_lost_entries "lua.weaks" 1272 762 N)),
  (769, kO "kept_of_entry" "kept_of_entry" 1302 588 3 3 764 1309),
  (770, (kF "kept_of_entry" "kept_of_entry" st_kept_of_entry "lua.weaks" 1272 769 N)),
  (776, kO "is_object" "is_object" 1320 597 1 3 771 1324),
  (777, (kF "is_object" "is_object" st_is_object "lua.collector" 1312 776 N)),
  (781, (kC [(vS "objects_of" 1327), (vS "objects_of" 1328), (vS "/claim/cut.py" 1329), (vI 599 0), (vI 1 0), (vI 0 0), (vI 0 0), (vI 3 0), (.ref 778), (.bool true), (vI 181 0), (.ref 779), N, N, N, (.ref 780), (vI 1330 0), (vI 599 0), (vS "/claim/cut.py" 1331)])),
  (782, (kF "objects_of" "objects_of" st_objects_of "lua.collector" 1312 781 N)),
  (788, kO "children_of" "children_of" 1333 601 1 3 783 1337),
  (789, (kF "children_of" "children_of" st_children_of "lua.collector" 1312 788 N)),
  (795, kO "table_children" "table_children" 1340 616 1 3 790 1347),
  (796, (kF "table_children" "table_children" st_table_children "lua.collector" 1312 795 N)),
  (809, kO "table_size" "table_size" 1360 634 1 3 804 1364),
  (810, (kF "table_size" "table_size" st_table_size "lua.collector" 1312 809 N)),
  (816, kO "is_lost_key" "is_lost_key" 1367 636 1 3 811 1371),
  (817, (kF "is_lost_key" "is_lost_key" st_is_lost_key "lua.collector" 1312 816 N)),
  (823, kO "is_lost_value" "is_lost_value" 1374 638 1 3 818 1378),
  (824, (kF "is_lost_value" "is_lost_value" st_is_lost_value "lua.collector" 1312 823 N)),
  (828, (kC [(vS "clear_table" 1381), (vS "clear_table" 1382), (vS "/claim/cut.py" 1383), (vI 642 0), (vI 1 0), (vI 0 0), (vI 0 0), (vI 3 0), (.ref 825), (.bool true), (vI 181 0), (.ref 826), N, N, N, (.ref 827), (vI 1384 0), (vI 642 0), (vS "/claim/cut.py" 1385)])),
  (829, (kF "clear_table" "clear_table" st_clear_table "lua.collector" 1312 828 N)),
  (833, (kC [(vS "without" 1389), (vS "without" 1390), (vS "/claim/cut.py" 1391), (vI 650 0), (vI 2 0), (vI 0 0), (vI 0 0), (vI 3 0), (.ref 830), (.bool true), (vI 181 0), (.ref 831), N, N, N, (.ref 832), (vI 1392 0), (vI 650 0), (vS "/claim/cut.py" 1393)])),
  (834, (kF "without" "without" st_without "lua.sweeps" 1387 833 N)),
  (838, (kC [(vS "_law_sack" 1397), (vS "_law_sack" 1398), (vS "/claim/cut.py" 1399), (vI 653 0), (vI 1 0), (vI 0 0), (vI 0 0), (vI 3 0), (.ref 835), (.bool true), (vI 181 0), (.ref 836), N, N, N, (.ref 837), (vI 1400 0), (vI 653 0), (vS "/claim/cut.py" 1401)])),
  (839, (kF "_law_sack" "_law_sack" st__law_sack "law_rr0068_01" 1395 838 N)),
  (845, kO "_law_drawn" "_law_drawn" 1403 656 2 3 840 1409),
  (846, (kF "_law_drawn" "_law_drawn" st__law_drawn "law_rr0068_01" 1395 845 N)),
  (852, kO "_law_objects" "_law_objects" 1412 660 1 3 847 1419),
  (853, (kF "_law_objects" "_law_objects" st__law_objects "law_rr0068_01" 1395 852 N)),
  (857, (kC [(vS "_law_meta" 1422), (vS "_law_meta" 1423), (vS "/claim/cut.py" 1424), (vI 668 0), (vI 1 0), (vI 0 0), (vI 0 0), (vI 3 0), (.ref 854), (.bool true), (vI 181 0), (.ref 855), N, N, N, (.ref 856), (vI 1425 0), (vI 668 0), (vS "/claim/cut.py" 1426)])),
  (858, (kF "_law_meta" "_law_meta" st__law_meta "law_rr0068_01" 1395 857 N)),
  (864, kO "_law_number" "_law_number" 1428 675 1 3 859 1432),
  (865, (kF "_law_number" "_law_number" st__law_number "law_rr0068_01" 1395 864 N)),
  (871, kO "_law_is_lost" "_law_is_lost" 1435 677 2 3 866 1440),
  (872, (kF "_law_is_lost" "_law_is_lost" st__law_is_lost "law_rr0068_01" 1395 871 N)),
  (876, (kC [(vS "_law_kept" 1443), (vS "_law_kept" 1444), (vS "/claim/cut.py" 1445), (vI 681 0), (vI 3 0), (vI 0 0), (vI 0 0), (vI 3 0), (.ref 873), (.bool true), (vI 181 0), (.ref 874), N, N, N, (.ref 875), (vI 1446 0), (vI 681 0), (vS "/claim/cut.py" 1447)])),
  (877, (kF "_law_kept" "_law_kept" st__law_kept "law_rr0068_01" 1395 876 N)),
  (883, kO "_law_walked" "_law_walked" 1449 690 1 3 878 1457),
  (884, (kF "_law_walked" "_law_walked" st__law_walked "law_rr0068_01" 1395 883 N)),
  (888, (kC [(vS "_law_lists_right" 1460), (vS "_law_lists_right" 1461), (vS "/claim/cut.py" 1462), (vI 699 0), (vI 2 0), (vI 0 0), (vI 0 0), (vI 3 0), (.ref 885), (.bool true), (vI 181 0), (.ref 886), N, N, N, (.ref 887), (vI 1463 0), (vI 699 0), (vS "/claim/cut.py" 1464)])),
  (889, (kF "_law_lists_right" "_law_lists_right" st__law_lists_right "law_rr0068_01" 1395 888 N)),
  (893, (kC [(vS "law" 1466), (vS "law" 1467), (vS "/claim/cut.py" 1468), (vI 705 0), (vI 1 0), (vI 0 0), (vI 0 0), (vI 3 0), (.ref 890), (.bool true), (vI 181 0), (.ref 891), N, N, N, (.ref 892), (vI 1469 0), (vI 705 0), (vS "/claim/cut.py" 1470)])),
  (894, (kF "law" "law" st_law "law_rr0068_01" 1395 893 N))]
noncomputable def lawDef : Stmt := yZ 90 xT
noncomputable def qP : Program := { PySem.Challenge.pw_rr0068_01 with main := { PySem.Challenge.pw_rr0068_01.main with body := [lawDef] } }
noncomputable def looseP : List PySem.Str := PySem.Challenge.pw_rr0068_01.boundNames.filter fun n => !(n == Str.ofString "law")
noncomputable def caP : Cl → Addr | .table => 687 | .udata => 252 | .pyclo => 233 | .node => 458 | .dead => 430
noncomputable def faP : Nat → Addr | 0 => 817 | _ => 824
structure Bs where
  w : World
  mg : PySem.Str → Option Value
  mb : PySem.Str → Option Value
  B : Heap
  X : (kP w.params).In B
  T : TopRead qP (looseW qP looseP) mg mb B
noncomputable def GP (b : Bs) : Gd := ⟨PySem.Challenge.pw_rr0068_01, b.w, kP b.w.params, qP, looseW qP looseP, b.mg, b.mb, b.B, b.X, b.T, caP, faP⟩
theorem isNo {α : Type} [BEq α] {x : Option (Option α)} (h : (x == some none) = true) : x = some none := by
  match x, h with
  | some none, _ => rfl
section
variable {b : Bs}
theorem zM : ∀ c, ClsOK (GP b) c := fun c => by
  have hf : (lay c).all (fun x => findIn (GP b).K (.ref ((GP b).ca c)) (wW x) == some none && (takerIn (GP b).K ((GP b).ca c) (wW x) == some none && noGet (GP b).K none)) = true := by cases c <;> kernel_rfl
  have hf := fun x hx => Bool.and_eq_true_iff.mp (List.all_eq_true.mp hf x hx)
  refine ⟨by cases c <;> kernel_rfl, by cases c <;> kernel_rfl, by cases c <;> kernel_rfl, by cases c <;> kernel_rfl, by cases c <;> kernel_rfl, fun x hx => ⟨none, isNo (hf x hx).1, (Bool.and_eq_true_iff.mp (hf x hx).2).2⟩, fun x hx => isNo (Bool.and_eq_true_iff.mp (hf x hx).2).1, fun x v hn e => ?_⟩
  unfold clsA at e
  split at e
  · cases e; exact ⟨vI 5 222, fun _ _ => .int 5 _, by kernel_rfl, by kernel_rfl, by kernel_rfl, by kernel_rfl⟩
  · cases e; exact ⟨vI 7 226, fun _ _ => .int 7 _, by kernel_rfl, by kernel_rfl, by kernel_rfl, by kernel_rfl⟩
  · cases e; exact ⟨vI 6 224, fun _ _ => .int 6 _, by kernel_rfl, by kernel_rfl, by kernel_rfl, by kernel_rfl⟩
  · cases e
theorem x_kit : ∀ c, KitC (GP b) c := fun c => ⟨by cases c <;> kernel_rfl, by cases c <;> kernel_rfl, by cases c <;> kernel_rfl, by kernel_rfl, by kernel_rfl, by cases c <;> kernel_rfl⟩
theorem x_mks : ∀ c, makesIn (GP b).K ((GP b).ca c) = true := fun c => by cases c <;> kernel_rfl
theorem x_b_abs : nsIn (GP b).K mainGlobals "abs" = some none := by kernel_rfl
theorem x_b_bool : nsIn (GP b).K mainGlobals "bool" = some none := by kernel_rfl
theorem x_b_bytes : nsIn (GP b).K mainGlobals "bytes" = some none := by kernel_rfl
theorem x_b_enumerate : nsIn (GP b).K mainGlobals "enumerate" = some none := by kernel_rfl
theorem x_b_int : nsIn (GP b).K mainGlobals "int" = some none := by kernel_rfl
theorem zY : nsIn (GP b).K mainGlobals "isinstance" = some none := by kernel_rfl
theorem xB : nsIn (GP b).K mainGlobals "len" = some none := by kernel_rfl
theorem x_b_min : nsIn (GP b).K mainGlobals "min" = some none := by kernel_rfl
theorem x_b_ord : nsIn (GP b).K mainGlobals "ord" = some none := by kernel_rfl
theorem x_b_range : nsIn (GP b).K mainGlobals "range" = some none := by kernel_rfl
theorem x_b_repr : nsIn (GP b).K mainGlobals "repr" = some none := by kernel_rfl
theorem x_b_reversed : nsIn (GP b).K mainGlobals "reversed" = some none := by kernel_rfl
theorem x_b_sorted : nsIn (GP b).K mainGlobals "sorted" = some none := by kernel_rfl
theorem x_b_sum : nsIn (GP b).K mainGlobals "sum" = some none := by kernel_rfl
theorem x_fc_HeapObject : findCls (GP b).K (.ref 65) (.type "type") "__init__" = some (.val (.ref 62)) := by kernel_rfl
theorem x_g_DeadKey : nsIn (GP b).K mainGlobals "DeadKey" = some (some (.ref ((GP b).ca .dead))) := by kernel_rfl
theorem wJ : nsIn (GP b).K mainGlobals "HeapObject" = some (some (.ref 65)) := by kernel_rfl
theorem x_g_LightValue : nsIn (GP b).K mainGlobals "LightValue" = some (some (.ref 86)) := by kernel_rfl
theorem x_g_LuaClosure : nsIn (GP b).K mainGlobals "LuaClosure" = some (some (.ref 185)) := by kernel_rfl
theorem x_g_Node : nsIn (GP b).K mainGlobals "Node" = some (some (.ref ((GP b).ca .node))) := by kernel_rfl
theorem x_g_Proto : nsIn (GP b).K mainGlobals "Proto" = some (some (.ref 411)) := by kernel_rfl
theorem x_g_PyClosure : nsIn (GP b).K mainGlobals "PyClosure" = some (some (.ref ((GP b).ca .pyclo))) := by kernel_rfl
theorem x_g_Table : nsIn (GP b).K mainGlobals "Table" = some (some (.ref ((GP b).ca .table))) := by kernel_rfl
theorem x_g_Thread : nsIn (GP b).K mainGlobals "Thread" = some (some (.ref 371)) := by kernel_rfl
theorem x_g_UpVal : nsIn (GP b).K mainGlobals "UpVal" = some (some (.ref 735)) := by kernel_rfl
theorem x_g_Userdata : nsIn (GP b).K mainGlobals "Userdata" = some (some (.ref ((GP b).ca .udata))) := by kernel_rfl
theorem wI : nsIn (GP b).K mainGlobals "_law_drawn" = some (some (.ref 846)) := by kernel_rfl
theorem jQ : nsIn (GP b).K mainGlobals "_law_is_lost" = some (some (.ref 872)) := by kernel_rfl
theorem x_g__law_kept : nsIn (GP b).K mainGlobals "_law_kept" = some (some (.ref 877)) := by kernel_rfl
theorem x_g__law_lists_right : nsIn (GP b).K mainGlobals "_law_lists_right" = some (some (.ref 889)) := by kernel_rfl
theorem x_g__law_meta : nsIn (GP b).K mainGlobals "_law_meta" = some (some (.ref 858)) := by kernel_rfl
theorem jE : nsIn (GP b).K mainGlobals "_law_number" = some (some (.ref 865)) := by kernel_rfl
theorem x_g__law_objects : nsIn (GP b).K mainGlobals "_law_objects" = some (some (.ref 853)) := by kernel_rfl
theorem x_g__law_sack : nsIn (GP b).K mainGlobals "_law_sack" = some (some (.ref 839)) := by kernel_rfl
theorem x_g__law_walked : nsIn (GP b).K mainGlobals "_law_walked" = some (some (.ref 884)) := by kernel_rfl
theorem x_g_array_index : nsIn (GP b).K mainGlobals "array_index" = some (some (.ref 469)) := by kernel_rfl
theorem x_g_ceil_log2 : nsIn (GP b).K mainGlobals "ceil_log2" = some (some (.ref 139)) := by kernel_rfl
theorem x_g_children_of : nsIn (GP b).K mainGlobals "children_of" = some (some (.ref 789)) := by kernel_rfl
theorem x_g_clear_table : nsIn (GP b).K mainGlobals "clear_table" = some (some (.ref 829)) := by kernel_rfl
theorem x_g_compute_sizes : nsIn (GP b).K mainGlobals "compute_sizes" = some (some (.ref 476)) := by kernel_rfl
theorem x_g_count_key : nsIn (GP b).K mainGlobals "count_key" = some (some (.ref 483)) := by kernel_rfl
theorem x_g_is_collectable : nsIn (GP b).K mainGlobals "is_collectable" = some (some (.ref 111)) := by kernel_rfl
theorem x_g_is_lost : nsIn (GP b).K mainGlobals "is_lost" = some (some (.ref 751)) := by kernel_rfl
theorem x_g_is_lost_key : nsIn (GP b).K mainGlobals "is_lost_key" = some (some (.ref 817)) := by kernel_rfl
theorem x_g_is_lost_value : nsIn (GP b).K mainGlobals "is_lost_value" = some (some (.ref 824)) := by kernel_rfl
theorem x_g_is_number : nsIn (GP b).K mainGlobals "is_number" = some (some (.ref 97)) := by kernel_rfl
theorem x_g_is_object : nsIn (GP b).K mainGlobals "is_object" = some (some (.ref 777)) := by kernel_rfl
theorem x_g_is_white : nsIn (GP b).K mainGlobals "is_white" = some (some (.ref 744)) := by kernel_rfl
theorem x_g_kept_of_entry : nsIn (GP b).K mainGlobals "kept_of_entry" = some (some (.ref 770)) := by kernel_rfl
theorem x_g_log2 : nsIn (GP b).K mainGlobals "log2" = some (some (.ref 132)) := by kernel_rfl
theorem x_g_lost_entries : nsIn (GP b).K mainGlobals "lost_entries" = some (some (.ref 763)) := by kernel_rfl
theorem x_g_lost_places : nsIn (GP b).K mainGlobals "lost_places" = some (some (.ref 756)) := by kernel_rfl
theorem x_g_objects_of : nsIn (GP b).K mainGlobals "objects_of" = some (some (.ref 782)) := by kernel_rfl
theorem x_g_raw_equal : nsIn (GP b).K mainGlobals "raw_equal" = some (some (.ref 118)) := by kernel_rfl
theorem x_g_string_hash : nsIn (GP b).K mainGlobals "string_hash" = some (some (.ref 125)) := by kernel_rfl
theorem x_g_table_children : nsIn (GP b).K mainGlobals "table_children" = some (some (.ref 796)) := by kernel_rfl
theorem x_g_table_size : nsIn (GP b).K mainGlobals "table_size" = some (some (.ref 810)) := by kernel_rfl
theorem x_g_type_of : nsIn (GP b).K mainGlobals "type_of" = some (some (.ref 104)) := by kernel_rfl
theorem x_g_weak_mode : nsIn (GP b).K mainGlobals "weak_mode" = some (some (.ref 28)) := by kernel_rfl
theorem x_g_without : nsIn (GP b).K mainGlobals "without" = some (some (.ref 834)) := by kernel_rfl
theorem x_ga_HeapObject : specialIn (GP b).K (.ref 65) "__getattribute__" = some (some (.builtin "type.__getattribute__")) := by kernel_rfl
theorem x_i_BASE_SIZE : ∃ t, nsIn (GP b).K mainGlobals "BASE_SIZE" = some (some (.int (56) t)) := ⟨788, by kernel_rfl⟩
theorem x_i_BLACK : ∃ t, nsIn (GP b).K mainGlobals "BLACK" = some (some (.int (3) t)) := ⟨1263, by kernel_rfl⟩
theorem x_i_GREY : ∃ t, nsIn (GP b).K mainGlobals "GREY" = some (some (.int (2) t)) := ⟨1261, by kernel_rfl⟩
theorem x_i_HASH_MASK : ∃ t, nsIn (GP b).K mainGlobals "HASH_MASK" = some (some (.int (4294967295) t)) := ⟨234, by kernel_rfl⟩
theorem x_i_MAX_ARRAY : ∃ t, nsIn (GP b).K mainGlobals "MAX_ARRAY" = some (some (.int (67108864) t)) := ⟨778, by kernel_rfl⟩
theorem x_i_MAX_BITS : ∃ t, nsIn (GP b).K mainGlobals "MAX_BITS" = some (some (.int (26) t)) := ⟨775, by kernel_rfl⟩
theorem x_i_MOST_PLACES : ∃ t, nsIn (GP b).K mainGlobals "MOST_PLACES" = some (some (.int (1048576) t)) := ⟨786, by kernel_rfl⟩
theorem x_i_MOST_SLOTS : ∃ t, nsIn (GP b).K mainGlobals "MOST_SLOTS" = some (some (.int (4194304) t)) := ⟨782, by kernel_rfl⟩
theorem x_i_NODE_SIZE : ∃ t, nsIn (GP b).K mainGlobals "NODE_SIZE" = some (some (.int (32) t)) := ⟨792, by kernel_rfl⟩
theorem x_i_SIZE_ARRAY_PLACE : ∃ t, nsIn (GP b).K mainGlobals "SIZE_ARRAY_PLACE" = some (some (.int (1) t)) := ⟨1316, by kernel_rfl⟩
theorem x_i_SIZE_CLOSURE : ∃ t, nsIn (GP b).K mainGlobals "SIZE_CLOSURE" = some (some (.int (6) t)) := ⟨390, by kernel_rfl⟩
theorem x_i_SIZE_NODE : ∃ t, nsIn (GP b).K mainGlobals "SIZE_NODE" = some (some (.int (2) t)) := ⟨1318, by kernel_rfl⟩
theorem x_i_SIZE_TABLE : ∃ t, nsIn (GP b).K mainGlobals "SIZE_TABLE" = some (some (.int (8) t)) := ⟨1314, by kernel_rfl⟩
theorem x_i_SIZE_USERDATA : ∃ t, nsIn (GP b).K mainGlobals "SIZE_USERDATA" = some (some (.int (5) t)) := ⟨392, by kernel_rfl⟩
theorem x_i_SLOT_SIZE : ∃ t, nsIn (GP b).K mainGlobals "SLOT_SIZE" = some (some (.int (16) t)) := ⟨790, by kernel_rfl⟩
theorem x_i_T_BOOLEAN : ∃ t, nsIn (GP b).K mainGlobals "T_BOOLEAN" = some (some (.int (1) t)) := ⟨214, by kernel_rfl⟩
theorem x_i_T_LIGHT : ∃ t, nsIn (GP b).K mainGlobals "T_LIGHT" = some (some (.int (2) t)) := ⟨216, by kernel_rfl⟩
theorem x_i_T_NIL : ∃ t, nsIn (GP b).K mainGlobals "T_NIL" = some (some (.int (0) t)) := ⟨212, by kernel_rfl⟩
theorem x_i_T_NONE : ∃ t, nsIn (GP b).K mainGlobals "T_NONE" = some (some (.int (-1) t)) := ⟨210, by kernel_rfl⟩
theorem x_i_T_NUMBER : ∃ t, nsIn (GP b).K mainGlobals "T_NUMBER" = some (some (.int (3) t)) := ⟨218, by kernel_rfl⟩
theorem x_i_T_STRING : ∃ t, nsIn (GP b).K mainGlobals "T_STRING" = some (some (.int (4) t)) := ⟨220, by kernel_rfl⟩
theorem x_in_DeadKey : findIn (GP b).K (.ref ((GP b).ca .dead)) "__init__" = some (some (.ref 427)) := by kernel_rfl
theorem x_in_Node : findIn (GP b).K (.ref ((GP b).ca .node)) "__init__" = some (some (.ref 448)) := by kernel_rfl
theorem x_in_PyClosure : findIn (GP b).K (.ref ((GP b).ca .pyclo)) "__init__" = some (some (.ref 201)) := by kernel_rfl
theorem x_in_Table : findIn (GP b).K (.ref ((GP b).ca .table)) "__init__" = some (some (.ref 498)) := by kernel_rfl
theorem x_in_Userdata : findIn (GP b).K (.ref ((GP b).ca .udata)) "__init__" = some (some (.ref 249)) := by kernel_rfl
theorem x_k_DeadKey : keepIn (GP b).K (.ref ((GP b).ca .dead)) = true := by kernel_rfl
theorem x_k_HeapObject_init : keepIn (GP b).K (.ref 62) = true := by kernel_rfl
theorem x_k_Node : keepIn (GP b).K (.ref ((GP b).ca .node)) = true := by kernel_rfl
theorem x_k_PyClosure : keepIn (GP b).K (.ref ((GP b).ca .pyclo)) = true := by kernel_rfl
theorem x_k_Table : keepIn (GP b).K (.ref ((GP b).ca .table)) = true := by kernel_rfl
theorem x_k_Userdata : keepIn (GP b).K (.ref ((GP b).ca .udata)) = true := by kernel_rfl
theorem wH : keepIn (GP b).K (.ref 846) = true := by kernel_rfl
theorem jP : keepIn (GP b).K (.ref 872) = true := by kernel_rfl
theorem x_k__law_kept : keepIn (GP b).K (.ref 877) = true := by kernel_rfl
theorem x_k__law_lists_right : keepIn (GP b).K (.ref 889) = true := by kernel_rfl
theorem x_k__law_meta : keepIn (GP b).K (.ref 858) = true := by kernel_rfl
theorem jD : keepIn (GP b).K (.ref 865) = true := by kernel_rfl
theorem x_k__law_objects : keepIn (GP b).K (.ref 853) = true := by kernel_rfl
theorem x_k__law_sack : keepIn (GP b).K (.ref 839) = true := by kernel_rfl
theorem x_k__law_walked : keepIn (GP b).K (.ref 884) = true := by kernel_rfl
theorem x_k_array_index : keepIn (GP b).K (.ref 469) = true := by kernel_rfl
theorem x_k_bury : keepIn (GP b).K (.ref 672) = true := by kernel_rfl
theorem x_k_ceil_log2 : keepIn (GP b).K (.ref 139) = true := by kernel_rfl
theorem x_k_children_of : keepIn (GP b).K (.ref 789) = true := by kernel_rfl
theorem x_k_clear_table : keepIn (GP b).K (.ref 829) = true := by kernel_rfl
theorem x_k_compute_sizes : keepIn (GP b).K (.ref 476) = true := by kernel_rfl
theorem x_k_count_array : keepIn (GP b).K (.ref 589) = true := by kernel_rfl
theorem x_k_count_key : keepIn (GP b).K (.ref 483) = true := by kernel_rfl
theorem x_k_count_nodes : keepIn (GP b).K (.ref 596) = true := by kernel_rfl
theorem x_k_find_index : keepIn (GP b).K (.ref 644) = true := by kernel_rfl
theorem x_k_find_node : keepIn (GP b).K (.ref 512) = true := by kernel_rfl
theorem x_k_free_position : keepIn (GP b).K (.ref 519) = true := by kernel_rfl
theorem x_k_get : keepIn (GP b).K (.ref 540) = true := by kernel_rfl
theorem x_k_get_int : keepIn (GP b).K (.ref 526) = true := by kernel_rfl
theorem x_k_get_text : keepIn (GP b).K (.ref 533) = true := by kernel_rfl
theorem x_k_is_collectable : keepIn (GP b).K (.ref 111) = true := by kernel_rfl
theorem x_k_is_lost : keepIn (GP b).K (.ref 751) = true := by kernel_rfl
theorem x_k_is_lost_key : keepIn (GP b).K (.ref 817) = true := by kernel_rfl
theorem x_k_is_lost_value : keepIn (GP b).K (.ref 824) = true := by kernel_rfl
theorem x_k_is_number : keepIn (GP b).K (.ref 97) = true := by kernel_rfl
theorem x_k_is_object : keepIn (GP b).K (.ref 777) = true := by kernel_rfl
theorem x_k_is_white : keepIn (GP b).K (.ref 744) = true := by kernel_rfl
theorem x_k_kept_of_entry : keepIn (GP b).K (.ref 770) = true := by kernel_rfl
theorem x_k_log2 : keepIn (GP b).K (.ref 132) = true := by kernel_rfl
theorem x_k_lost_entries : keepIn (GP b).K (.ref 763) = true := by kernel_rfl
theorem x_k_lost_places : keepIn (GP b).K (.ref 756) = true := by kernel_rfl
theorem x_k_main_position : keepIn (GP b).K (.ref 505) = true := by kernel_rfl
theorem x_k_make_nodes : keepIn (GP b).K (.ref 623) = true := by kernel_rfl
theorem x_k_moved_to : keepIn (GP b).K (.ref 455) = true := by kernel_rfl
theorem x_k_new_key : keepIn (GP b).K (.ref 575) = true := by kernel_rfl
theorem x_k_next : keepIn (GP b).K (.ref 651) = true := by kernel_rfl
theorem x_k_objects_of : keepIn (GP b).K (.ref 782) = true := by kernel_rfl
theorem x_k_put : keepIn (GP b).K (.ref 568) = true := by kernel_rfl
theorem x_k_put_again : keepIn (GP b).K (.ref 582) = true := by kernel_rfl
theorem x_k_put_back : keepIn (GP b).K (.ref 618) = true := by kernel_rfl
theorem x_k_raw_equal : keepIn (GP b).K (.ref 118) = true := by kernel_rfl
theorem x_k_rehash : keepIn (GP b).K (.ref 603) = true := by kernel_rfl
theorem x_k_resize : keepIn (GP b).K (.ref 611) = true := by kernel_rfl
theorem x_k_set : keepIn (GP b).K (.ref 547) = true := by kernel_rfl
theorem x_k_string_hash : keepIn (GP b).K (.ref 125) = true := by kernel_rfl
theorem x_k_table_children : keepIn (GP b).K (.ref 796) = true := by kernel_rfl
theorem x_k_table_size : keepIn (GP b).K (.ref 810) = true := by kernel_rfl
theorem x_k_type_of : keepIn (GP b).K (.ref 104) = true := by kernel_rfl
theorem x_k_weak_mode : keepIn (GP b).K (.ref 28) = true := by kernel_rfl
theorem x_k_weigh : keepIn (GP b).K (.ref 637) = true := by kernel_rfl
theorem x_k_without : keepIn (GP b).K (.ref 834) = true := by kernel_rfl
theorem x_l_DeadKey_init : yY (GP b) 427 "__init__" "DeadKey.__init__" st_DeadKey_init := ⟨.type "function", none, #[], .none, .none, vS "lua.tables" 773, .ref 426, .none, none, by kernel_rfl, by kernel_rfl⟩
theorem x_l_HeapObject_init : yY (GP b) 62 "__init__" "HeapObject.__init__" st_HeapObject_init := ⟨.type "function", none, #[], .none, .none, vS "lua.values" 207, .ref 61, .none, none, by kernel_rfl, by kernel_rfl⟩
theorem x_l_Node_init : yY (GP b) 448 "__init__" "Node.__init__" st_Node_init := ⟨.type "function", none, #[], .none, .none, vS "lua.tables" 773, .ref 447, .none, none, by kernel_rfl, by kernel_rfl⟩
theorem x_l_PyClosure_init : yY (GP b) 201 "__init__" "PyClosure.__init__" st_PyClosure_init := ⟨.type "function", none, #[], .none, .none, vS "lua.objects" 384, .ref 200, .none, none, by kernel_rfl, by kernel_rfl⟩
theorem x_l_Table_init : DefAtD (GP b) 498 "__init__" "Table.__init__" st_Table_init fun l => ∃ t1 t2 t3, l = [.int 0 t1, .int 0 t2, .int 0 t3] := ⟨.type "function", none, #[], .none, .none, vS "lua.tables" 773, .ref 497, .none, none, 491, kT [(vI 0 903), (vI 0 904), (vI 0 905)] 0, [(vI 0 903), (vI 0 904), (vI 0 905)], 0, by kernel_rfl, by kernel_rfl, by kernel_rfl, by kernel_rfl, ⟨_, _, _, rfl⟩⟩
theorem x_l_Userdata_init : yY (GP b) 249 "__init__" "Userdata.__init__" st_Userdata_init := ⟨.type "function", none, #[], .none, .none, vS "lua.objects" 384, .ref 248, .none, none, by kernel_rfl, by kernel_rfl⟩
theorem x_l__law_drawn : yY (GP b) 846 "_law_drawn" "_law_drawn" st__law_drawn := ⟨.type "function", none, #[], .none, .none, vS "law_rr0068_01" 1395, .ref 845, .none, none, by kernel_rfl, by kernel_rfl⟩
theorem x_l__law_is_lost : yY (GP b) 872 "_law_is_lost" "_law_is_lost" st__law_is_lost := ⟨.type "function", none, #[], .none, .none, vS "law_rr0068_01" 1395, .ref 871, .none, none, by kernel_rfl, by kernel_rfl⟩
theorem x_l__law_kept : yY (GP b) 877 "_law_kept" "_law_kept" st__law_kept := ⟨.type "function", none, #[], .none, .none, vS "law_rr0068_01" 1395, .ref 876, .none, none, by kernel_rfl, by kernel_rfl⟩
theorem x_l__law_lists_right : yY (GP b) 889 "_law_lists_right" "_law_lists_right" st__law_lists_right := ⟨.type "function", none, #[], .none, .none, vS "law_rr0068_01" 1395, .ref 888, .none, none, by kernel_rfl, by kernel_rfl⟩
theorem x_l__law_meta : yY (GP b) 858 "_law_meta" "_law_meta" st__law_meta := ⟨.type "function", none, #[], .none, .none, vS "law_rr0068_01" 1395, .ref 857, .none, none, by kernel_rfl, by kernel_rfl⟩
theorem x_l__law_number : yY (GP b) 865 "_law_number" "_law_number" st__law_number := ⟨.type "function", none, #[], .none, .none, vS "law_rr0068_01" 1395, .ref 864, .none, none, by kernel_rfl, by kernel_rfl⟩
theorem x_l__law_objects : yY (GP b) 853 "_law_objects" "_law_objects" st__law_objects := ⟨.type "function", none, #[], .none, .none, vS "law_rr0068_01" 1395, .ref 852, .none, none, by kernel_rfl, by kernel_rfl⟩
theorem x_l__law_sack : yY (GP b) 839 "_law_sack" "_law_sack" st__law_sack := ⟨.type "function", none, #[], .none, .none, vS "law_rr0068_01" 1395, .ref 838, .none, none, by kernel_rfl, by kernel_rfl⟩
theorem x_l__law_walked : yY (GP b) 884 "_law_walked" "_law_walked" st__law_walked := ⟨.type "function", none, #[], .none, .none, vS "law_rr0068_01" 1395, .ref 883, .none, none, by kernel_rfl, by kernel_rfl⟩
theorem x_l_array_index : yY (GP b) 469 "array_index" "array_index" st_array_index := ⟨.type "function", none, #[], .none, .none, vS "lua.tables" 773, .ref 468, .none, none, by kernel_rfl, by kernel_rfl⟩
theorem x_l_bury : yY (GP b) 672 "bury" "Table.bury" st_bury := ⟨.type "function", none, #[], .none, .none, vS "lua.tables" 773, .ref 671, .none, none, by kernel_rfl, by kernel_rfl⟩
theorem x_l_ceil_log2 : yY (GP b) 139 "ceil_log2" "ceil_log2" st_ceil_log2 := ⟨.type "function", none, #[], .none, .none, vS "lua.values" 207, .ref 138, .none, none, by kernel_rfl, by kernel_rfl⟩
theorem x_l_children_of : yY (GP b) 789 "children_of" "children_of" st_children_of := ⟨.type "function", none, #[], .none, .none, vS "lua.collector" 1312, .ref 788, .none, none, by kernel_rfl, by kernel_rfl⟩
theorem x_l_clear_table : yY (GP b) 829 "clear_table" "clear_table" st_clear_table := ⟨.type "function", none, #[], .none, .none, vS "lua.collector" 1312, .ref 828, .none, none, by kernel_rfl, by kernel_rfl⟩
theorem x_l_compute_sizes : yY (GP b) 476 "compute_sizes" "compute_sizes" st_compute_sizes := ⟨.type "function", none, #[], .none, .none, vS "lua.tables" 773, .ref 475, .none, none, by kernel_rfl, by kernel_rfl⟩
theorem x_l_count_array : yY (GP b) 589 "count_array" "Table.count_array" st_count_array := ⟨.type "function", none, #[], .none, .none, vS "lua.tables" 773, .ref 588, .none, none, by kernel_rfl, by kernel_rfl⟩
theorem x_l_count_key : yY (GP b) 483 "count_key" "count_key" st_count_key := ⟨.type "function", none, #[], .none, .none, vS "lua.tables" 773, .ref 482, .none, none, by kernel_rfl, by kernel_rfl⟩
theorem x_l_count_nodes : yY (GP b) 596 "count_nodes" "Table.count_nodes" st_count_nodes := ⟨.type "function", none, #[], .none, .none, vS "lua.tables" 773, .ref 595, .none, none, by kernel_rfl, by kernel_rfl⟩
theorem x_l_find_index : yY (GP b) 644 "find_index" "Table.find_index" st_find_index := ⟨.type "function", none, #[], .none, .none, vS "lua.tables" 773, .ref 643, .none, none, by kernel_rfl, by kernel_rfl⟩
theorem x_l_find_node : yY (GP b) 512 "find_node" "Table.find_node" st_find_node := ⟨.type "function", none, #[], .none, .none, vS "lua.tables" 773, .ref 511, .none, none, by kernel_rfl, by kernel_rfl⟩
theorem x_l_free_position : yY (GP b) 519 "free_position" "Table.free_position" st_free_position := ⟨.type "function", none, #[], .none, .none, vS "lua.tables" 773, .ref 518, .none, none, by kernel_rfl, by kernel_rfl⟩
theorem x_l_get : yY (GP b) 540 "get" "Table.get" st_get := ⟨.type "function", none, #[], .none, .none, vS "lua.tables" 773, .ref 539, .none, none, by kernel_rfl, by kernel_rfl⟩
theorem x_l_get_int : yY (GP b) 526 "get_int" "Table.get_int" st_get_int := ⟨.type "function", none, #[], .none, .none, vS "lua.tables" 773, .ref 525, .none, none, by kernel_rfl, by kernel_rfl⟩
theorem x_l_get_text : yY (GP b) 533 "get_text" "Table.get_text" st_get_text := ⟨.type "function", none, #[], .none, .none, vS "lua.tables" 773, .ref 532, .none, none, by kernel_rfl, by kernel_rfl⟩
theorem x_l_is_collectable : yY (GP b) 111 "is_collectable" "is_collectable" st_is_collectable := ⟨.type "function", none, #[], .none, .none, vS "lua.values" 207, .ref 110, .none, none, by kernel_rfl, by kernel_rfl⟩
theorem x_l_is_lost : yY (GP b) 751 "is_lost" "is_lost" st_is_lost := ⟨.type "function", none, #[], .none, .none, vS "lua.weaks" 1272, .ref 750, .none, none, by kernel_rfl, by kernel_rfl⟩
theorem x_l_is_lost_key : yY (GP b) 817 "is_lost_key" "is_lost_key" st_is_lost_key := ⟨.type "function", none, #[], .none, .none, vS "lua.collector" 1312, .ref 816, .none, none, by kernel_rfl, by kernel_rfl⟩
theorem x_l_is_lost_value : yY (GP b) 824 "is_lost_value" "is_lost_value" st_is_lost_value := ⟨.type "function", none, #[], .none, .none, vS "lua.collector" 1312, .ref 823, .none, none, by kernel_rfl, by kernel_rfl⟩
theorem x_l_is_number : yY (GP b) 97 "is_number" "is_number" st_is_number := ⟨.type "function", none, #[], .none, .none, vS "lua.values" 207, .ref 96, .none, none, by kernel_rfl, by kernel_rfl⟩
theorem x_l_is_object : yY (GP b) 777 "is_object" "is_object" st_is_object := ⟨.type "function", none, #[], .none, .none, vS "lua.collector" 1312, .ref 776, .none, none, by kernel_rfl, by kernel_rfl⟩
theorem x_l_is_white : yY (GP b) 744 "is_white" "is_white" st_is_white := ⟨.type "function", none, #[], .none, .none, vS "lua.marks" 1259, .ref 743, .none, none, by kernel_rfl, by kernel_rfl⟩
theorem x_l_kept_of_entry : yY (GP b) 770 "kept_of_entry" "kept_of_entry" st_kept_of_entry := ⟨.type "function", none, #[], .none, .none, vS "lua.weaks" 1272, .ref 769, .none, none, by kernel_rfl, by kernel_rfl⟩
theorem x_l_law : yY (GP b) 894 "law" "law" st_law := ⟨.type "function", none, #[], .none, .none, vS "law_rr0068_01" 1395, .ref 893, .none, none, by kernel_rfl, by kernel_rfl⟩
theorem x_l_log2 : yY (GP b) 132 "log2" "log2" st_log2 := ⟨.type "function", none, #[], .none, .none, vS "lua.values" 207, .ref 131, .none, none, by kernel_rfl, by kernel_rfl⟩
theorem x_l_lost_entries : yY (GP b) 763 "lost_entries" "lost_entries" st_lost_entries := ⟨.type "function", none, #[], .none, .none, vS "lua.weaks" 1272, .ref 762, .none, none, by kernel_rfl, by kernel_rfl⟩
theorem x_l_lost_places : yY (GP b) 756 "lost_places" "lost_places" st_lost_places := ⟨.type "function", none, #[], .none, .none, vS "lua.weaks" 1272, .ref 755, .none, none, by kernel_rfl, by kernel_rfl⟩
theorem x_l_main_position : yY (GP b) 505 "main_position" "Table.main_position" st_main_position := ⟨.type "function", none, #[], .none, .none, vS "lua.tables" 773, .ref 504, .none, none, by kernel_rfl, by kernel_rfl⟩
theorem x_l_make_nodes : yY (GP b) 623 "make_nodes" "Table.make_nodes" st_make_nodes := ⟨.type "function", none, #[], .none, .none, vS "lua.tables" 773, .ref 622, .none, none, by kernel_rfl, by kernel_rfl⟩
theorem x_l_moved_to : yY (GP b) 455 "moved_to" "Node.moved_to" st_moved_to := ⟨.type "function", none, #[], .none, .none, vS "lua.tables" 773, .ref 454, .none, none, by kernel_rfl, by kernel_rfl⟩
theorem x_l_new_key : yY (GP b) 575 "new_key" "Table.new_key" st_new_key := ⟨.type "function", none, #[], .none, .none, vS "lua.tables" 773, .ref 574, .none, none, by kernel_rfl, by kernel_rfl⟩
theorem x_l_next : yY (GP b) 651 "next" "Table.next" st_next := ⟨.type "function", none, #[], .none, .none, vS "lua.tables" 773, .ref 650, .none, none, by kernel_rfl, by kernel_rfl⟩
theorem x_l_objects_of : yY (GP b) 782 "objects_of" "objects_of" st_objects_of := ⟨.type "function", none, #[], .none, .none, vS "lua.collector" 1312, .ref 781, .none, none, by kernel_rfl, by kernel_rfl⟩
theorem x_l_put : yY (GP b) 568 "put" "Table.put" st_put := ⟨.type "function", none, #[], .none, .none, vS "lua.tables" 773, .ref 567, .none, none, by kernel_rfl, by kernel_rfl⟩
theorem x_l_put_again : yY (GP b) 582 "put_again" "Table.put_again" st_put_again := ⟨.type "function", none, #[], .none, .none, vS "lua.tables" 773, .ref 581, .none, none, by kernel_rfl, by kernel_rfl⟩
theorem x_l_put_back : yY (GP b) 618 "put_back" "Table.put_back" st_put_back := ⟨.type "function", none, #[], .none, .none, vS "lua.tables" 773, .ref 617, .none, none, by kernel_rfl, by kernel_rfl⟩
theorem x_l_raw_equal : yY (GP b) 118 "raw_equal" "raw_equal" st_raw_equal := ⟨.type "function", none, #[], .none, .none, vS "lua.values" 207, .ref 117, .none, none, by kernel_rfl, by kernel_rfl⟩
theorem x_l_rehash : yY (GP b) 603 "rehash" "Table.rehash" st_rehash := ⟨.type "function", none, #[], .none, .none, vS "lua.tables" 773, .ref 602, .none, none, by kernel_rfl, by kernel_rfl⟩
theorem x_l_resize : DefAtD (GP b) 611 "resize" "Table.resize" st_resize fun l => l = [.none] := ⟨.type "function", none, #[], .none, .none, vS "lua.tables" 773, .ref 610, .none, none, 604, kT [N] 0, [N], 0, by kernel_rfl, by kernel_rfl, by kernel_rfl, by kernel_rfl, rfl⟩
theorem x_l_set : yY (GP b) 547 "set" "Table.set" st_set := ⟨.type "function", none, #[], .none, .none, vS "lua.tables" 773, .ref 546, .none, none, by kernel_rfl, by kernel_rfl⟩
theorem x_l_string_hash : yY (GP b) 125 "string_hash" "string_hash" st_string_hash := ⟨.type "function", none, #[], .none, .none, vS "lua.values" 207, .ref 124, .none, none, by kernel_rfl, by kernel_rfl⟩
theorem x_l_table_children : yY (GP b) 796 "table_children" "table_children" st_table_children := ⟨.type "function", none, #[], .none, .none, vS "lua.collector" 1312, .ref 795, .none, none, by kernel_rfl, by kernel_rfl⟩
theorem x_l_table_size : yY (GP b) 810 "table_size" "table_size" st_table_size := ⟨.type "function", none, #[], .none, .none, vS "lua.collector" 1312, .ref 809, .none, none, by kernel_rfl, by kernel_rfl⟩
theorem x_l_type_of : yY (GP b) 104 "type_of" "type_of" st_type_of := ⟨.type "function", none, #[], .none, .none, vS "lua.values" 207, .ref 103, .none, none, by kernel_rfl, by kernel_rfl⟩
theorem x_l_weak_mode : yY (GP b) 28 "weak_mode" "weak_mode" st_weak_mode := ⟨.type "function", none, #[], .none, .none, vS "lua.meta" 194, .ref 27, .none, none, by kernel_rfl, by kernel_rfl⟩
theorem x_l_weigh : yY (GP b) 637 "weigh" "Table.weigh" st_weigh := ⟨.type "function", none, #[], .none, .none, vS "lua.tables" 773, .ref 636, .none, none, by kernel_rfl, by kernel_rfl⟩
theorem x_l_without : yY (GP b) 834 "without" "without" st_without := ⟨.type "function", none, #[], .none, .none, vS "lua.sweeps" 1387, .ref 833, .none, none, by kernel_rfl, by kernel_rfl⟩
theorem x_m_bury : findIn (GP b).K (.ref ((GP b).ca .table)) "bury" = some (some (.ref 672)) := by kernel_rfl
theorem x_m_count_array : findIn (GP b).K (.ref ((GP b).ca .table)) "count_array" = some (some (.ref 589)) := by kernel_rfl
theorem x_m_count_nodes : findIn (GP b).K (.ref ((GP b).ca .table)) "count_nodes" = some (some (.ref 596)) := by kernel_rfl
theorem x_m_find_index : findIn (GP b).K (.ref ((GP b).ca .table)) "find_index" = some (some (.ref 644)) := by kernel_rfl
theorem x_m_find_node : findIn (GP b).K (.ref ((GP b).ca .table)) "find_node" = some (some (.ref 512)) := by kernel_rfl
theorem x_m_free_position : findIn (GP b).K (.ref ((GP b).ca .table)) "free_position" = some (some (.ref 519)) := by kernel_rfl
theorem x_m_get : findIn (GP b).K (.ref ((GP b).ca .table)) "get" = some (some (.ref 540)) := by kernel_rfl
theorem x_m_get_int : findIn (GP b).K (.ref ((GP b).ca .table)) "get_int" = some (some (.ref 526)) := by kernel_rfl
theorem x_m_get_text : findIn (GP b).K (.ref ((GP b).ca .table)) "get_text" = some (some (.ref 533)) := by kernel_rfl
theorem x_m_main_position : findIn (GP b).K (.ref ((GP b).ca .table)) "main_position" = some (some (.ref 505)) := by kernel_rfl
theorem x_m_make_nodes : findIn (GP b).K (.ref ((GP b).ca .table)) "make_nodes" = some (some (.ref 623)) := by kernel_rfl
theorem x_m_moved_to : findIn (GP b).K (.ref ((GP b).ca .node)) "moved_to" = some (some (.ref 455)) := by kernel_rfl
theorem x_m_new_key : findIn (GP b).K (.ref ((GP b).ca .table)) "new_key" = some (some (.ref 575)) := by kernel_rfl
theorem x_m_next : findIn (GP b).K (.ref ((GP b).ca .table)) "next" = some (some (.ref 651)) := by kernel_rfl
theorem x_m_put : findIn (GP b).K (.ref ((GP b).ca .table)) "put" = some (some (.ref 568)) := by kernel_rfl
theorem x_m_put_again : findIn (GP b).K (.ref ((GP b).ca .table)) "put_again" = some (some (.ref 582)) := by kernel_rfl
theorem x_m_put_back : findIn (GP b).K (.ref ((GP b).ca .table)) "put_back" = some (some (.ref 618)) := by kernel_rfl
theorem x_m_rehash : findIn (GP b).K (.ref ((GP b).ca .table)) "rehash" = some (some (.ref 603)) := by kernel_rfl
theorem x_m_resize : findIn (GP b).K (.ref ((GP b).ca .table)) "resize" = some (some (.ref 611)) := by kernel_rfl
theorem x_m_set : findIn (GP b).K (.ref ((GP b).ca .table)) "set" = some (some (.ref 547)) := by kernel_rfl
theorem x_m_weigh : findIn (GP b).K (.ref ((GP b).ca .table)) "weigh" = some (some (.ref 637)) := by kernel_rfl
theorem x_rd_HeapObject : readsIn (GP b).K 65 (.type "type") = true := by kernel_rfl
theorem x_t_DeadKey_init : typeIn (GP b).K (.ref 427) = some (.type "function") := by kernel_rfl
theorem x_t_Node_init : typeIn (GP b).K (.ref 448) = some (.type "function") := by kernel_rfl
theorem x_t_PyClosure_init : typeIn (GP b).K (.ref 201) = some (.type "function") := by kernel_rfl
theorem x_t_Table_init : typeIn (GP b).K (.ref 498) = some (.type "function") := by kernel_rfl
theorem x_t_Userdata_init : typeIn (GP b).K (.ref 249) = some (.type "function") := by kernel_rfl
theorem x_t_bury : typeIn (GP b).K (.ref 672) = some (.type "function") := by kernel_rfl
theorem x_t_count_array : typeIn (GP b).K (.ref 589) = some (.type "function") := by kernel_rfl
theorem x_t_count_nodes : typeIn (GP b).K (.ref 596) = some (.type "function") := by kernel_rfl
theorem x_t_find_index : typeIn (GP b).K (.ref 644) = some (.type "function") := by kernel_rfl
theorem x_t_find_node : typeIn (GP b).K (.ref 512) = some (.type "function") := by kernel_rfl
theorem x_t_free_position : typeIn (GP b).K (.ref 519) = some (.type "function") := by kernel_rfl
theorem x_t_get : typeIn (GP b).K (.ref 540) = some (.type "function") := by kernel_rfl
theorem x_t_get_int : typeIn (GP b).K (.ref 526) = some (.type "function") := by kernel_rfl
theorem x_t_get_text : typeIn (GP b).K (.ref 533) = some (.type "function") := by kernel_rfl
theorem x_t_main_position : typeIn (GP b).K (.ref 505) = some (.type "function") := by kernel_rfl
theorem x_t_make_nodes : typeIn (GP b).K (.ref 623) = some (.type "function") := by kernel_rfl
theorem x_t_moved_to : typeIn (GP b).K (.ref 455) = some (.type "function") := by kernel_rfl
theorem x_t_new_key : typeIn (GP b).K (.ref 575) = some (.type "function") := by kernel_rfl
theorem x_t_next : typeIn (GP b).K (.ref 651) = some (.type "function") := by kernel_rfl
theorem x_t_put : typeIn (GP b).K (.ref 568) = some (.type "function") := by kernel_rfl
theorem x_t_put_again : typeIn (GP b).K (.ref 582) = some (.type "function") := by kernel_rfl
theorem x_t_put_back : typeIn (GP b).K (.ref 618) = some (.type "function") := by kernel_rfl
theorem x_t_rehash : typeIn (GP b).K (.ref 603) = some (.type "function") := by kernel_rfl
theorem x_t_resize : typeIn (GP b).K (.ref 611) = some (.type "function") := by kernel_rfl
theorem x_t_set : typeIn (GP b).K (.ref 547) = some (.type "function") := by kernel_rfl
theorem x_t_weigh : typeIn (GP b).K (.ref 637) = some (.type "function") := by kernel_rfl
theorem x_ty_DeadKey : tyB (GP b) .dead (.ref ((GP b).ca .dead)) = true := by kernel_rfl
theorem x_ty_HeapObject : tyB (GP b) .heap (.ref 65) = true := by kernel_rfl
theorem x_ty_LightValue : tyB (GP b) .other (.ref 86) = true := by kernel_rfl
theorem x_ty_LuaClosure : tyB (GP b) .other (.ref 185) = true := by kernel_rfl
theorem x_ty_Proto : tyB (GP b) .other (.ref 411) = true := by kernel_rfl
theorem x_ty_PyClosure : tyB (GP b) .pyclo (.ref ((GP b).ca .pyclo)) = true := by kernel_rfl
theorem x_ty_Table : tyB (GP b) .table (.ref ((GP b).ca .table)) = true := by kernel_rfl
theorem x_ty_Thread : tyB (GP b) .other (.ref 371) = true := by kernel_rfl
theorem x_ty_UpVal : tyB (GP b) .other (.ref 735) = true := by kernel_rfl
theorem x_ty_Userdata : tyB (GP b) .udata (.ref ((GP b).ca .udata)) = true := by kernel_rfl
theorem x_ty_bool : tyB (GP b) .bool (.type "bool") = true := by kernel_rfl
theorem x_ty_bytes : tyB (GP b) .bytes (.type "bytes") = true := by kernel_rfl
theorem x_ty_int : tyB (GP b) .int (.type "int") = true := by kernel_rfl
theorem F_is_number : yU (GP b) 1 (.ref 97) f_is_number :=
  zZ x_l_is_number (by kernel_rfl) (by kernel_rfl) (by kernel_rfl) (fun _ _ _ _ _ _ _ => by kernel_rfl)
  (zB (zP (sim_and (xI (zA (i := 0) (k := .local) (by kernel_rfl) (by kernel_rfl) (by kernel_rfl)) x_kit (i := 1) (by kernel_rfl) zY (tyn_bui (i := 2) (by kernel_rfl) x_b_int (by decide +kernel) (by decide) (by kernel_rfl)) x_ty_int (fun _ => rfl) (fun _ => rfl)) (sim_not (xI (zA (i := 0) (k := .local) (by kernel_rfl) (by kernel_rfl) (by kernel_rfl)) x_kit (i := 1) (by kernel_rfl) zY (tyn_bui (i := 3) (by kernel_rfl) x_b_bool (by decide +kernel) (by decide) (by kernel_rfl)) x_ty_bool (fun _ => rfl) (fun _ => rfl)))))
  zD)

theorem F_type_of : yU (GP b) 1 (.ref 104) f_type_of :=
  zZ x_l_type_of (by kernel_rfl) (by kernel_rfl) (by kernel_rfl) (fun _ _ _ _ _ _ _ => by kernel_rfl)
  (zB (zT (zO (zA (i := 0) (k := .local) (by kernel_rfl) (by kernel_rfl) (by kernel_rfl)) yA cmp_is) (zB (zP (yL (i := 1) (by kernel_rfl) x_i_T_NIL (by kernel_rfl)))
  zD) zD)
  (zB (zT (yS (xI (zA (i := 0) (k := .local) (by kernel_rfl) (by kernel_rfl) (by kernel_rfl)) x_kit (i := 2) (by kernel_rfl) zY (tyn_bui (i := 3) (by kernel_rfl) x_b_bool (by decide +kernel) (by decide) (by kernel_rfl)) x_ty_bool (fun _ => rfl) (fun _ => rfl))) (zB (zP (yL (i := 4) (by kernel_rfl) x_i_T_BOOLEAN (by kernel_rfl)))
  zD) zD)
  (zB (zT (yS (xI (zA (i := 0) (k := .local) (by kernel_rfl) (by kernel_rfl) (by kernel_rfl)) x_kit (i := 2) (by kernel_rfl) zY (tyn_bui (i := 5) (by kernel_rfl) x_b_int (by decide +kernel) (by decide) (by kernel_rfl)) x_ty_int (fun _ => rfl) (fun _ => rfl))) (zB (zP (yL (i := 6) (by kernel_rfl) x_i_T_NUMBER (by kernel_rfl)))
  zD) zD)
  (zB (zT (yS (xI (zA (i := 0) (k := .local) (by kernel_rfl) (by kernel_rfl) (by kernel_rfl)) x_kit (i := 2) (by kernel_rfl) zY (tyn_bui (i := 7) (by kernel_rfl) x_b_bytes (by decide +kernel) (by decide) (by kernel_rfl)) x_ty_bytes (fun _ => rfl) (fun _ => rfl))) (zB (zP (yL (i := 8) (by kernel_rfl) x_i_T_STRING (by kernel_rfl)))
  zD) zD)
  (zB (zT (yS (xI (zA (i := 0) (k := .local) (by kernel_rfl) (by kernel_rfl) (by kernel_rfl)) x_kit (i := 2) (by kernel_rfl) zY (wA (i := 9) (by kernel_rfl) x_g_LightValue (by kernel_rfl)) x_ty_LightValue (fun _ => rfl) (fun _ => rfl))) (zB (zP (yL (i := 10) (by kernel_rfl) x_i_T_LIGHT (by kernel_rfl)))
  zD) zD)
  (zB (zT (yS (xI (zA (i := 0) (k := .local) (by kernel_rfl) (by kernel_rfl) (by kernel_rfl)) x_kit (i := 2) (by kernel_rfl) zY (wA (i := 11) (by kernel_rfl) wJ (by kernel_rfl)) x_ty_HeapObject (fun _ => rfl) (fun _ => rfl))) (zB (zP (zJ (zA (i := 0) (k := .local) (by kernel_rfl) (by kernel_rfl) (by kernel_rfl)) zM (by kernel_rfl)))
  zD) zD)
  (zB (zP (yL (i := 12) (by kernel_rfl) x_i_T_NONE (by kernel_rfl)))
  zD)))))))

theorem F_is_collectable : yU (GP b) 1 (.ref 111) wZ :=
  zZ x_l_is_collectable (by kernel_rfl) (by kernel_rfl) (by kernel_rfl) (fun _ _ _ _ _ _ _ => by kernel_rfl)
  (zB (zP (xI (zA (i := 0) (k := .local) (by kernel_rfl) (by kernel_rfl) (by kernel_rfl)) x_kit (i := 1) (by kernel_rfl) zY (wA (i := 2) (by kernel_rfl) wJ (by kernel_rfl)) x_ty_HeapObject (fun _ => rfl) (fun _ => rfl)))
  zD)

theorem F_raw_equal : yU (GP b) 2 (.ref 118) xG :=
  zZ x_l_raw_equal (by kernel_rfl) (by kernel_rfl) (by kernel_rfl) (fun _ _ _ _ _ _ _ _ => by kernel_rfl)
  (zB (zF (zS (.cons (zA (i := 0) (k := .local) (by kernel_rfl) (by kernel_rfl) (by kernel_rfl)) (fun _ => rfl) .nil) (F_type_of.mono (by decide)) (i := 3) (by kernel_rfl) x_g_type_of x_k_type_of (by kernel_rfl)) (zH (i := 2) (k := .local) (by kernel_rfl) (.inl rfl)) (fun _ => rfl) (fun _ _ => rfl) (fun _ => rfl))
  (zB (zT (zO (zA (i := 2) (k := .local) (by kernel_rfl) (by kernel_rfl) (by kernel_rfl)) (zS (.cons (zA (i := 1) (k := .local) (by kernel_rfl) (by kernel_rfl) (by kernel_rfl)) (fun _ => rfl) .nil) (F_type_of.mono (by decide)) (i := 3) (by kernel_rfl) x_g_type_of x_k_type_of (by kernel_rfl)) cmp_ne) (zB (zP xQ)
  zD) zD)
  (zB (zT (zO (zA (i := 2) (k := .local) (by kernel_rfl) (by kernel_rfl) (by kernel_rfl)) (yL (i := 4) (by kernel_rfl) x_i_T_NIL (by kernel_rfl)) cmp_eq) (zB (zP xQ)
  zD) zD)
  (zB (zT (zO (zA (i := 2) (k := .local) (by kernel_rfl) (by kernel_rfl) (by kernel_rfl)) (xX (Args.sim (.cons (yL (i := 5) (by kernel_rfl) x_i_T_BOOLEAN (by kernel_rfl)) (fun _ => rfl) (.cons (yL (i := 6) (by kernel_rfl) x_i_T_NUMBER (by kernel_rfl)) (fun _ => rfl) (.cons (yL (i := 7) (by kernel_rfl) x_i_T_STRING (by kernel_rfl)) (fun _ => rfl) .nil)))) (by decide)) cmp_in) (zB (zP (sim_cmp (zA (i := 0) (k := .local) (by kernel_rfl) (by kernel_rfl) (by kernel_rfl)) (zA (i := 1) (k := .local) (by kernel_rfl) (by kernel_rfl) (by kernel_rfl)) cmp_eq))
  zD) zD)
  (zB (zP (sim_cmp (zJ (zA (i := 0) (k := .local) (by kernel_rfl) (by kernel_rfl) (by kernel_rfl)) zM (by kernel_rfl)) (zJ (zA (i := 1) (k := .local) (by kernel_rfl) (by kernel_rfl) (by kernel_rfl)) zM (by kernel_rfl)) cmp_eq))
  zD)))))

theorem F_string_hash : yU (GP b) 1 (.ref 125) f_string_hash :=
  zZ x_l_string_hash (by kernel_rfl) (by kernel_rfl) (by kernel_rfl) (fun _ _ _ _ _ _ _ => by kernel_rfl)
  (zB (sims_swap (i := 1) (j := 2) (by kernel_rfl) (by kernel_rfl) (by decide) (xX (Args.sim (.cons (zU (xC (zA (i := 0) (k := .local) (by kernel_rfl) (by kernel_rfl) (by kernel_rfl)) (fun _ => rfl) (i := 4) (by kernel_rfl) xB) (yL (i := 5) (by kernel_rfl) x_i_HASH_MASK (by kernel_rfl)) rfl) (fun _ => rfl) (.cons (xC (zA (i := 0) (k := .local) (by kernel_rfl) (by kernel_rfl) (by kernel_rfl)) (fun _ => rfl) (i := 4) (by kernel_rfl) xB) (fun _ => rfl) .nil))) (by decide)) (fun _ => rfl) (fun env h => by cases env; cases h; kernel_rfl))
  (zB (zF (zU (zU (xC (zA (i := 0) (k := .local) (by kernel_rfl) (by kernel_rfl) (by kernel_rfl)) (fun _ => rfl) (i := 4) (by kernel_rfl) xB) zK rfl) zK rfl) (zH (i := 3) (k := .local) (by kernel_rfl) (.inl rfl)) (fun _ => rfl) (fun _ _ => rfl) (fun _ => rfl))
  (zB (jK (zO (zA (i := 2) (k := .local) (by kernel_rfl) (by kernel_rfl) (by kernel_rfl)) (zA (i := 3) (k := .local) (by kernel_rfl) (by kernel_rfl) (by kernel_rfl)) cmp_ge) (zB (zF (zU (zU (zA (i := 1) (k := .local) (by kernel_rfl) (by kernel_rfl) (by kernel_rfl)) (zU (zU (zU (zA (i := 1) (k := .local) (by kernel_rfl) (by kernel_rfl) (by kernel_rfl)) zK rfl) (zU (zA (i := 1) (k := .local) (by kernel_rfl) (by kernel_rfl) (by kernel_rfl)) zK rfl) rfl) (yI (zA (i := 0) (k := .local) (by kernel_rfl) (by kernel_rfl) (by kernel_rfl)) (zU (zA (i := 2) (k := .local) (by kernel_rfl) (by kernel_rfl) (by kernel_rfl)) zK rfl)) rfl) rfl) (yL (i := 5) (by kernel_rfl) x_i_HASH_MASK (by kernel_rfl)) rfl) (zH (i := 1) (k := .local) (by kernel_rfl) (.inl rfl)) (fun _ => rfl) (fun _ _ => rfl) (fun _ => rfl))
  (zB (zF (zU (zA (i := 2) (k := .local) (by kernel_rfl) (by kernel_rfl) (by kernel_rfl)) (zA (i := 3) (k := .local) (by kernel_rfl) (by kernel_rfl) (by kernel_rfl)) rfl) (zH (i := 2) (k := .local) (by kernel_rfl) (.inl rfl)) (fun _ => rfl) (fun _ _ => rfl) (fun _ => rfl))
  zD)))
  (zB (zP (zA (i := 1) (k := .local) (by kernel_rfl) (by kernel_rfl) (by kernel_rfl)))
  zD))))

theorem F_log2 : yU (GP b) 1 (.ref 132) f_log2 :=
  zZ x_l_log2 (by kernel_rfl) (by kernel_rfl) (by kernel_rfl) (fun _ _ _ _ _ _ _ => by kernel_rfl)
  (zB (zF (sim_neg zK) (zH (i := 1) (k := .local) (by kernel_rfl) (.inl rfl)) (fun _ => rfl) (fun _ _ => rfl) (fun _ => rfl))
  (zB (jK (zO (zA (i := 0) (k := .local) (by kernel_rfl) (by kernel_rfl) (by kernel_rfl)) zK cmp_gt) (zB (zF (zU (zA (i := 0) (k := .local) (by kernel_rfl) (by kernel_rfl) (by kernel_rfl)) zK rfl) (zH (i := 0) (k := .local) (by kernel_rfl) (.inl rfl)) (fun _ => rfl) (fun _ _ => rfl) (fun _ => rfl))
  (zB (zF (zU (zA (i := 1) (k := .local) (by kernel_rfl) (by kernel_rfl) (by kernel_rfl)) zK rfl) (zH (i := 1) (k := .local) (by kernel_rfl) (.inl rfl)) (fun _ => rfl) (fun _ _ => rfl) (fun _ => rfl))
  zD)))
  (zB (zP (zA (i := 1) (k := .local) (by kernel_rfl) (by kernel_rfl) (by kernel_rfl)))
  zD)))

theorem F_ceil_log2 : yU (GP b) 2 (.ref 139) f_ceil_log2 :=
  zZ x_l_ceil_log2 (by kernel_rfl) (by kernel_rfl) (by kernel_rfl) (fun _ _ _ _ _ _ _ => by kernel_rfl)
  (zB (zP (zU (zS (.cons (zU (zA (i := 0) (k := .local) (by kernel_rfl) (by kernel_rfl) (by kernel_rfl)) zK rfl) (fun _ => rfl) .nil) (F_log2.mono (by decide)) (i := 1) (by kernel_rfl) x_g_log2 x_k_log2 (by kernel_rfl)) zK rfl))
  zD)

theorem F_HeapObject_init : yU (GP b) 1 (.ref 62) f_HeapObject_init :=
  zZ x_l_HeapObject_init (by kernel_rfl) (by kernel_rfl) (by kernel_rfl) (fun _ _ _ _ _ _ _ _ _ => by kernel_rfl)
  (zB (zF (zA (i := 1) (k := .local) (by kernel_rfl) (by kernel_rfl) (by kernel_rfl)) (zV (zA (i := 0) (k := .local) (by kernel_rfl) (by kernel_rfl) (by kernel_rfl)) zM (by kernel_rfl)) (fun _ => rfl) (fun _ _ => rfl) (fun _ => rfl))
  (zB (zF zK (zV (zA (i := 0) (k := .local) (by kernel_rfl) (by kernel_rfl) (by kernel_rfl)) zM (by kernel_rfl)) (fun _ => rfl) (fun _ _ => rfl) (fun _ => rfl))
  (zB (zF (zA (i := 2) (k := .local) (by kernel_rfl) (by kernel_rfl) (by kernel_rfl)) (zV (zA (i := 0) (k := .local) (by kernel_rfl) (by kernel_rfl) (by kernel_rfl)) zM (by kernel_rfl)) (fun _ => rfl) (fun _ _ => rfl) (fun _ => rfl))
  zD)))

theorem F_PyClosure_init : yU (GP b) 2 (.ref 201) f_PyClosure_init :=
  zZ x_l_PyClosure_init (by kernel_rfl) (by kernel_rfl) (by kernel_rfl) (fun _ _ _ _ _ _ _ _ _ _ _ => by kernel_rfl)
  (zB (yH (sim_init (.cons (zA (i := 0) (k := .local) (by kernel_rfl) (by kernel_rfl) (by kernel_rfl)) (fun _ => rfl) (.cons zK (fun _ => rfl) (.cons (zU (yL (i := 6) (by kernel_rfl) x_i_SIZE_CLOSURE (by kernel_rfl)) (xC (zA (i := 3) (k := .local) (by kernel_rfl) (by kernel_rfl) (by kernel_rfl)) (fun _ => rfl) (i := 7) (by kernel_rfl) xB) rfl) (fun _ => rfl) .nil))) (F_HeapObject_init.mono (by decide)) (i := 5) (by kernel_rfl) wJ x_k_HeapObject_init (by kernel_rfl) x_ga_HeapObject x_rd_HeapObject x_fc_HeapObject _ (fun _ => rfl)) (fun _ => rfl))
  (zB (zF (zA (i := 1) (k := .local) (by kernel_rfl) (by kernel_rfl) (by kernel_rfl)) (zV (zA (i := 0) (k := .local) (by kernel_rfl) (by kernel_rfl) (by kernel_rfl)) zM (by kernel_rfl)) (fun _ => rfl) (fun _ _ => rfl) (fun _ => rfl))
  (zB (zF (zA (i := 2) (k := .local) (by kernel_rfl) (by kernel_rfl) (by kernel_rfl)) (zV (zA (i := 0) (k := .local) (by kernel_rfl) (by kernel_rfl) (by kernel_rfl)) zM (by kernel_rfl)) (fun _ => rfl) (fun _ _ => rfl) (fun _ => rfl))
  (zB (zF (zA (i := 3) (k := .local) (by kernel_rfl) (by kernel_rfl) (by kernel_rfl)) (zV (zA (i := 0) (k := .local) (by kernel_rfl) (by kernel_rfl) (by kernel_rfl)) zM (by kernel_rfl)) (fun _ => rfl) (fun _ _ => rfl) (fun _ => rfl))
  (zB (zF (zA (i := 4) (k := .local) (by kernel_rfl) (by kernel_rfl) (by kernel_rfl)) (zV (zA (i := 0) (k := .local) (by kernel_rfl) (by kernel_rfl) (by kernel_rfl)) zM (by kernel_rfl)) (fun _ => rfl) (fun _ _ => rfl) (fun _ => rfl))
  zD)))))

theorem F_Userdata_init : yU (GP b) 2 (.ref 249) f_Userdata_init :=
  zZ x_l_Userdata_init (by kernel_rfl) (by kernel_rfl) (by kernel_rfl) (fun _ _ _ _ _ _ _ _ _ _ => by kernel_rfl)
  (zB (yH (sim_init (.cons (zA (i := 0) (k := .local) (by kernel_rfl) (by kernel_rfl) (by kernel_rfl)) (fun _ => rfl) (.cons zK (fun _ => rfl) (.cons (yL (i := 5) (by kernel_rfl) x_i_SIZE_USERDATA (by kernel_rfl)) (fun _ => rfl) .nil))) (F_HeapObject_init.mono (by decide)) (i := 4) (by kernel_rfl) wJ x_k_HeapObject_init (by kernel_rfl) x_ga_HeapObject x_rd_HeapObject x_fc_HeapObject _ (fun _ => rfl)) (fun _ => rfl))
  (zB (zF (zA (i := 1) (k := .local) (by kernel_rfl) (by kernel_rfl) (by kernel_rfl)) (zV (zA (i := 0) (k := .local) (by kernel_rfl) (by kernel_rfl) (by kernel_rfl)) zM (by kernel_rfl)) (fun _ => rfl) (fun _ _ => rfl) (fun _ => rfl))
  (zB (zF (zA (i := 2) (k := .local) (by kernel_rfl) (by kernel_rfl) (by kernel_rfl)) (zV (zA (i := 0) (k := .local) (by kernel_rfl) (by kernel_rfl) (by kernel_rfl)) zM (by kernel_rfl)) (fun _ => rfl) (fun _ _ => rfl) (fun _ => rfl))
  (zB (zF (zA (i := 3) (k := .local) (by kernel_rfl) (by kernel_rfl) (by kernel_rfl)) (zV (zA (i := 0) (k := .local) (by kernel_rfl) (by kernel_rfl) (by kernel_rfl)) zM (by kernel_rfl)) (fun _ => rfl) (fun _ _ => rfl) (fun _ => rfl))
  (zB (zF xQ (zV (zA (i := 0) (k := .local) (by kernel_rfl) (by kernel_rfl) (by kernel_rfl)) zM (by kernel_rfl)) (fun _ => rfl) (fun _ _ => rfl) (fun _ => rfl))
  zD)))))

theorem F_DeadKey_init : yU (GP b) 1 (.ref 427) f_DeadKey_init :=
  zZ x_l_DeadKey_init (by kernel_rfl) (by kernel_rfl) (by kernel_rfl) (fun _ _ _ _ _ _ _ _ => by kernel_rfl)
  (zB (zF (zA (i := 1) (k := .local) (by kernel_rfl) (by kernel_rfl) (by kernel_rfl)) (zV (zA (i := 0) (k := .local) (by kernel_rfl) (by kernel_rfl) (by kernel_rfl)) zM (by kernel_rfl)) (fun _ => rfl) (fun _ _ => rfl) (fun _ => rfl))
  zD)

theorem F_Node_init : yU (GP b) 1 (.ref 448) f_Node_init :=
  zZ x_l_Node_init (by kernel_rfl) (by kernel_rfl) (by kernel_rfl) (fun _ _ _ _ _ _ _ => by kernel_rfl)
  (zB (zF yA (zV (zA (i := 0) (k := .local) (by kernel_rfl) (by kernel_rfl) (by kernel_rfl)) zM (by kernel_rfl)) (fun _ => rfl) (fun _ _ => rfl) (fun _ => rfl))
  (zB (zF yA (zV (zA (i := 0) (k := .local) (by kernel_rfl) (by kernel_rfl) (by kernel_rfl)) zM (by kernel_rfl)) (fun _ => rfl) (fun _ _ => rfl) (fun _ => rfl))
  (zB (zF (sim_neg zK) (zV (zA (i := 0) (k := .local) (by kernel_rfl) (by kernel_rfl) (by kernel_rfl)) zM (by kernel_rfl)) (fun _ => rfl) (fun _ _ => rfl) (fun _ => rfl))
  zD)))

theorem F_moved_to : yU (GP b) 1 (.ref 455) f_moved_to :=
  zZ x_l_moved_to (by kernel_rfl) (by kernel_rfl) (by kernel_rfl) (fun _ _ _ _ _ _ _ _ => by kernel_rfl)
  (zB (zF (zJ (zA (i := 0) (k := .local) (by kernel_rfl) (by kernel_rfl) (by kernel_rfl)) zM (by kernel_rfl)) (zV (zA (i := 1) (k := .local) (by kernel_rfl) (by kernel_rfl) (by kernel_rfl)) zM (by kernel_rfl)) (fun _ => rfl) (fun _ _ => rfl) (fun _ => rfl))
  (zB (zF (zJ (zA (i := 0) (k := .local) (by kernel_rfl) (by kernel_rfl) (by kernel_rfl)) zM (by kernel_rfl)) (zV (zA (i := 1) (k := .local) (by kernel_rfl) (by kernel_rfl) (by kernel_rfl)) zM (by kernel_rfl)) (fun _ => rfl) (fun _ _ => rfl) (fun _ => rfl))
  (zB (zF (zJ (zA (i := 0) (k := .local) (by kernel_rfl) (by kernel_rfl) (by kernel_rfl)) zM (by kernel_rfl)) (zV (zA (i := 1) (k := .local) (by kernel_rfl) (by kernel_rfl) (by kernel_rfl)) zM (by kernel_rfl)) (fun _ => rfl) (fun _ _ => rfl) (fun _ => rfl))
  zD)))

theorem F_array_index : yU (GP b) 2 (.ref 469) wY :=
  zZ x_l_array_index (by kernel_rfl) (by kernel_rfl) (by kernel_rfl) (fun _ _ _ _ _ _ _ => by kernel_rfl)
  (zB (zP (sim_ite (yS (zS (.cons (zA (i := 0) (k := .local) (by kernel_rfl) (by kernel_rfl) (by kernel_rfl)) (fun _ => rfl) .nil) (F_is_number.mono (by decide)) (i := 1) (by kernel_rfl) x_g_is_number x_k_is_number (by kernel_rfl))) (zA (i := 0) (k := .local) (by kernel_rfl) (by kernel_rfl) (by kernel_rfl)) (sim_neg zK)))
  zD)

theorem F_compute_sizes : yU (GP b) 1 (.ref 476) f_compute_sizes :=
  zZ x_l_compute_sizes (by kernel_rfl) (by kernel_rfl) (by kernel_rfl) (fun _ _ _ _ _ _ _ _ => by kernel_rfl)
  (zB (zF zK (zH (i := 2) (k := .local) (by kernel_rfl) (.inl rfl)) (fun _ => rfl) (fun _ _ => rfl) (fun _ => rfl))
  (zB (zF zK (zH (i := 3) (k := .local) (by kernel_rfl) (.inl rfl)) (fun _ => rfl) (fun _ _ => rfl) (fun _ => rfl))
  (zB (zF zK (zH (i := 4) (k := .local) (by kernel_rfl) (.inl rfl)) (fun _ => rfl) (fun _ _ => rfl) (fun _ => rfl))
  (zB (zF zK (zH (i := 5) (k := .local) (by kernel_rfl) (.inl rfl)) (fun _ => rfl) (fun _ _ => rfl) (fun _ => rfl))
  (zB (wR (xK (zA (i := 0) (k := .local) (by kernel_rfl) (by kernel_rfl) (by kernel_rfl))) (zH (i := 6) (k := .local) (by kernel_rfl) (.inl rfl)) (zB (zT (zO (zU (zA (i := 5) (k := .local) (by kernel_rfl) (by kernel_rfl) (by kernel_rfl)) zK rfl) (zA (i := 1) (k := .local) (by kernel_rfl) (by kernel_rfl) (by kernel_rfl)) cmp_ge) (zB sims_brk
  zD) zD)
  (zB (zT (zO (zA (i := 6) (k := .local) (by kernel_rfl) (by kernel_rfl) (by kernel_rfl)) zK cmp_gt) (zB (sims_aug (i := 2) (k := .local) (by kernel_rfl) (.inl rfl) (by kernel_rfl) (zA (i := 6) (k := .local) (by kernel_rfl) (by kernel_rfl) (by kernel_rfl)) rfl)
  (zB (zT (zO (zA (i := 2) (k := .local) (by kernel_rfl) (by kernel_rfl) (by kernel_rfl)) (zU (zA (i := 5) (k := .local) (by kernel_rfl) (by kernel_rfl) (by kernel_rfl)) zK rfl) cmp_gt) (zB (zF (zA (i := 5) (k := .local) (by kernel_rfl) (by kernel_rfl) (by kernel_rfl)) (zH (i := 4) (k := .local) (by kernel_rfl) (.inl rfl)) (fun _ => rfl) (fun _ _ => rfl) (fun _ => rfl))
  (zB (zF (zA (i := 2) (k := .local) (by kernel_rfl) (by kernel_rfl) (by kernel_rfl)) (zH (i := 3) (k := .local) (by kernel_rfl) (.inl rfl)) (fun _ => rfl) (fun _ _ => rfl) (fun _ => rfl))
  zD)) zD)
  zD)) zD)
  (zB (zT (zO (zA (i := 2) (k := .local) (by kernel_rfl) (by kernel_rfl) (by kernel_rfl)) (zA (i := 1) (k := .local) (by kernel_rfl) (by kernel_rfl) (by kernel_rfl)) cmp_eq) (zB sims_brk
  zD) zD)
  (zB (sims_aug (i := 5) (k := .local) (by kernel_rfl) (.inl rfl) (by kernel_rfl) zK rfl)
  zD)))) (fun _ _ => rfl))
  (zB (zP (xX (Args.sim (.cons (zA (i := 4) (k := .local) (by kernel_rfl) (by kernel_rfl) (by kernel_rfl)) (fun _ => rfl) (.cons (zA (i := 3) (k := .local) (by kernel_rfl) (by kernel_rfl) (by kernel_rfl)) (fun _ => rfl) .nil))) (by decide)))
  zD))))))

theorem F_count_key : yU (GP b) 3 (.ref 483) f_count_key :=
  zZ x_l_count_key (by kernel_rfl) (by kernel_rfl) (by kernel_rfl) (fun _ _ _ _ _ _ _ _ => by kernel_rfl)
  (zB (zF (zS (.cons (zA (i := 0) (k := .local) (by kernel_rfl) (by kernel_rfl) (by kernel_rfl)) (fun _ => rfl) .nil) (F_array_index.mono (by decide)) (i := 3) (by kernel_rfl) x_g_array_index x_k_array_index (by kernel_rfl)) (zH (i := 2) (k := .local) (by kernel_rfl) (.inl rfl)) (fun _ => rfl) (fun _ _ => rfl) (fun _ => rfl))
  (zB (zT (simt_cmp2 zK (zA (i := 2) (k := .local) (by kernel_rfl) (by kernel_rfl) (by kernel_rfl)) (yL (i := 4) (by kernel_rfl) x_i_MAX_ARRAY (by kernel_rfl)) cmp_lt cmp_le) (zB sims_no
  (zB (zP zK)
  zD)) zD)
  (zB (zP zK)
  zD)))

theorem F_main_position : yU (GP b) 2 (.ref 505) xF :=
  zZ x_l_main_position (by kernel_rfl) (by kernel_rfl) (by kernel_rfl) (fun _ _ _ _ _ _ _ _ => by kernel_rfl)
  (zB (zF (xC (zJ (zA (i := 0) (k := .local) (by kernel_rfl) (by kernel_rfl) (by kernel_rfl)) zM (by kernel_rfl)) (fun _ => rfl) (i := 3) (by kernel_rfl) xB) (zH (i := 2) (k := .local) (by kernel_rfl) (.inl rfl)) (fun _ => rfl) (fun _ _ => rfl) (fun _ => rfl))
  (zB (zT (yS (xI (zA (i := 1) (k := .local) (by kernel_rfl) (by kernel_rfl) (by kernel_rfl)) x_kit (i := 4) (by kernel_rfl) zY (tyn_bui (i := 5) (by kernel_rfl) x_b_bool (by decide +kernel) (by decide) (by kernel_rfl)) x_ty_bool (fun _ => rfl) (fun _ => rfl))) (zB (zP (zU sim_no (zU (zA (i := 2) (k := .local) (by kernel_rfl) (by kernel_rfl) (by kernel_rfl)) zK rfl) rfl))
  zD) zD)
  (zB (zT (yS (xI (zA (i := 1) (k := .local) (by kernel_rfl) (by kernel_rfl) (by kernel_rfl)) x_kit (i := 4) (by kernel_rfl) zY (tyn_bui (i := 6) (by kernel_rfl) x_b_int (by decide +kernel) (by decide) (by kernel_rfl)) x_ty_int (fun _ => rfl) (fun _ => rfl))) (zB (zP (zU (zA (i := 1) (k := .local) (by kernel_rfl) (by kernel_rfl) (by kernel_rfl)) (zU (zU (zA (i := 2) (k := .local) (by kernel_rfl) (by kernel_rfl) (by kernel_rfl)) zK rfl) zK rfl) rfl))
  zD) zD)
  (zB (zT (yS (xI (zA (i := 1) (k := .local) (by kernel_rfl) (by kernel_rfl) (by kernel_rfl)) x_kit (i := 4) (by kernel_rfl) zY (tyn_bui (i := 7) (by kernel_rfl) x_b_bytes (by decide +kernel) (by decide) (by kernel_rfl)) x_ty_bytes (fun _ => rfl) (fun _ => rfl))) (zB (zP (zU (zS (.cons (zA (i := 1) (k := .local) (by kernel_rfl) (by kernel_rfl) (by kernel_rfl)) (fun _ => rfl) .nil) (F_string_hash.mono (by decide)) (i := 8) (by kernel_rfl) x_g_string_hash x_k_string_hash (by kernel_rfl)) (zU (zA (i := 2) (k := .local) (by kernel_rfl) (by kernel_rfl) (by kernel_rfl)) zK rfl) rfl))
  zD) zD)
  (zB (zP (zU (zJ (zA (i := 1) (k := .local) (by kernel_rfl) (by kernel_rfl) (by kernel_rfl)) zM (by kernel_rfl)) (zU (zU (zA (i := 2) (k := .local) (by kernel_rfl) (by kernel_rfl) (by kernel_rfl)) zK rfl) zK rfl) rfl))
  zD)))))

theorem F_find_node : yU (GP b) 3 (.ref 512) wX :=
  zZ x_l_find_node (by kernel_rfl) (by kernel_rfl) (by kernel_rfl) (fun _ _ _ _ _ _ _ _ => by kernel_rfl)
  (zB (zT (simt_or (zO (xC (zJ (zA (i := 0) (k := .local) (by kernel_rfl) (by kernel_rfl) (by kernel_rfl)) zM (by kernel_rfl)) (fun _ => rfl) (i := 3) (by kernel_rfl) xB) zK cmp_eq) (zO (zA (i := 1) (k := .local) (by kernel_rfl) (by kernel_rfl) (by kernel_rfl)) yA cmp_is)) (zB (zP (sim_neg zK))
  zD) zD)
  (zB (zF (yN (zA (i := 0) (k := .local) (by kernel_rfl) (by kernel_rfl) (by kernel_rfl)) (.cons (zA (i := 1) (k := .local) (by kernel_rfl) (by kernel_rfl) (by kernel_rfl)) (fun _ => rfl) .nil) (F_main_position.mono (by decide)) (zM _) x_m_main_position x_t_main_position x_k_main_position (by decide +kernel) (fun _ => rfl)) (zH (i := 2) (k := .local) (by kernel_rfl) (.inl rfl)) (fun _ => rfl) (fun _ _ => rfl) (fun _ => rfl))
  (zB (jK (zO (zA (i := 2) (k := .local) (by kernel_rfl) (by kernel_rfl) (by kernel_rfl)) zK cmp_ge) (zB (zT (yS (zS (.cons (zJ (yI (zJ (zA (i := 0) (k := .local) (by kernel_rfl) (by kernel_rfl) (by kernel_rfl)) zM (by kernel_rfl)) (zA (i := 2) (k := .local) (by kernel_rfl) (by kernel_rfl) (by kernel_rfl))) zM (by kernel_rfl)) (fun _ => rfl) (.cons (zA (i := 1) (k := .local) (by kernel_rfl) (by kernel_rfl) (by kernel_rfl)) (fun _ => rfl) .nil)) (F_raw_equal.mono (by decide)) (i := 4) (by kernel_rfl) x_g_raw_equal x_k_raw_equal (by kernel_rfl))) (zB (zP (zA (i := 2) (k := .local) (by kernel_rfl) (by kernel_rfl) (by kernel_rfl)))
  zD) zD)
  (zB (zF (zJ (yI (zJ (zA (i := 0) (k := .local) (by kernel_rfl) (by kernel_rfl) (by kernel_rfl)) zM (by kernel_rfl)) (zA (i := 2) (k := .local) (by kernel_rfl) (by kernel_rfl) (by kernel_rfl))) zM (by kernel_rfl)) (zH (i := 2) (k := .local) (by kernel_rfl) (.inl rfl)) (fun _ => rfl) (fun _ _ => rfl) (fun _ => rfl))
  zD)))
  (zB (zP (sim_neg zK))
  zD))))

theorem F_free_position : yU (GP b) 1 (.ref 519) f_free_position :=
  zZ x_l_free_position (by kernel_rfl) (by kernel_rfl) (by kernel_rfl) (fun _ _ _ _ _ _ _ => by kernel_rfl)
  (zB (jK (zO (zJ (zA (i := 0) (k := .local) (by kernel_rfl) (by kernel_rfl) (by kernel_rfl)) zM (by kernel_rfl)) zK cmp_gt) (zB (sims_augF (zA (i := 0) (k := .local) (by kernel_rfl) (by kernel_rfl) (by kernel_rfl)) zM (by kernel_rfl) zK rfl)
  (zB (zT (zO (zJ (yI (zJ (zA (i := 0) (k := .local) (by kernel_rfl) (by kernel_rfl) (by kernel_rfl)) zM (by kernel_rfl)) (zJ (zA (i := 0) (k := .local) (by kernel_rfl) (by kernel_rfl) (by kernel_rfl)) zM (by kernel_rfl))) zM (by kernel_rfl)) yA cmp_is) (zB (zP (zJ (zA (i := 0) (k := .local) (by kernel_rfl) (by kernel_rfl) (by kernel_rfl)) zM (by kernel_rfl)))
  zD) zD)
  zD)))
  (zB (zP (sim_neg zK))
  zD))

theorem F_get_int : yU (GP b) 4 (.ref 526) f_get_int :=
  zZ x_l_get_int (by kernel_rfl) (by kernel_rfl) (by kernel_rfl) (fun _ _ _ _ _ _ _ _ => by kernel_rfl)
  (zB (zT (simt_cmp2 zK (zA (i := 1) (k := .local) (by kernel_rfl) (by kernel_rfl) (by kernel_rfl)) (xC (zJ (zA (i := 0) (k := .local) (by kernel_rfl) (by kernel_rfl) (by kernel_rfl)) zM (by kernel_rfl)) (fun _ => rfl) (i := 3) (by kernel_rfl) xB) cmp_le cmp_le) (zB (zP (yI (zJ (zA (i := 0) (k := .local) (by kernel_rfl) (by kernel_rfl) (by kernel_rfl)) zM (by kernel_rfl)) (zU (zA (i := 1) (k := .local) (by kernel_rfl) (by kernel_rfl) (by kernel_rfl)) zK rfl)))
  zD) zD)
  (zB (zF (yN (zA (i := 0) (k := .local) (by kernel_rfl) (by kernel_rfl) (by kernel_rfl)) (.cons (zA (i := 1) (k := .local) (by kernel_rfl) (by kernel_rfl) (by kernel_rfl)) (fun _ => rfl) .nil) (F_find_node.mono (by decide)) (zM _) x_m_find_node x_t_find_node x_k_find_node (by decide +kernel) (fun _ => rfl)) (zH (i := 2) (k := .local) (by kernel_rfl) (.inl rfl)) (fun _ => rfl) (fun _ _ => rfl) (fun _ => rfl))
  (zB (zP (sim_ite (zO (zA (i := 2) (k := .local) (by kernel_rfl) (by kernel_rfl) (by kernel_rfl)) zK cmp_lt) yA (zJ (yI (zJ (zA (i := 0) (k := .local) (by kernel_rfl) (by kernel_rfl) (by kernel_rfl)) zM (by kernel_rfl)) (zA (i := 2) (k := .local) (by kernel_rfl) (by kernel_rfl) (by kernel_rfl))) zM (by kernel_rfl))))
  zD)))

theorem F_get_text : yU (GP b) 4 (.ref 533) f_get_text :=
  zZ x_l_get_text (by kernel_rfl) (by kernel_rfl) (by kernel_rfl) (fun _ _ _ _ _ _ _ _ => by kernel_rfl)
  (zB (zF (yN (zA (i := 0) (k := .local) (by kernel_rfl) (by kernel_rfl) (by kernel_rfl)) (.cons (zA (i := 1) (k := .local) (by kernel_rfl) (by kernel_rfl) (by kernel_rfl)) (fun _ => rfl) .nil) (F_find_node.mono (by decide)) (zM _) x_m_find_node x_t_find_node x_k_find_node (by decide +kernel) (fun _ => rfl)) (zH (i := 2) (k := .local) (by kernel_rfl) (.inl rfl)) (fun _ => rfl) (fun _ _ => rfl) (fun _ => rfl))
  (zB (zP (sim_ite (zO (zA (i := 2) (k := .local) (by kernel_rfl) (by kernel_rfl) (by kernel_rfl)) zK cmp_lt) yA (zJ (yI (zJ (zA (i := 0) (k := .local) (by kernel_rfl) (by kernel_rfl) (by kernel_rfl)) zM (by kernel_rfl)) (zA (i := 2) (k := .local) (by kernel_rfl) (by kernel_rfl) (by kernel_rfl))) zM (by kernel_rfl))))
  zD))

theorem F_get : yU (GP b) 5 (.ref 540) f_get :=
  zZ x_l_get (by kernel_rfl) (by kernel_rfl) (by kernel_rfl) (fun _ _ _ _ _ _ _ _ => by kernel_rfl)
  (zB (zT (zO (zA (i := 1) (k := .local) (by kernel_rfl) (by kernel_rfl) (by kernel_rfl)) yA cmp_is) (zB (zP yA)
  zD) zD)
  (zB (zT (yS (zS (.cons (zA (i := 1) (k := .local) (by kernel_rfl) (by kernel_rfl) (by kernel_rfl)) (fun _ => rfl) .nil) (F_is_number.mono (by decide)) (i := 3) (by kernel_rfl) x_g_is_number x_k_is_number (by kernel_rfl))) (zB (zP (yN (zA (i := 0) (k := .local) (by kernel_rfl) (by kernel_rfl) (by kernel_rfl)) (.cons (zA (i := 1) (k := .local) (by kernel_rfl) (by kernel_rfl) (by kernel_rfl)) (fun _ => rfl) .nil) (F_get_int.mono (by decide)) (zM _) x_m_get_int x_t_get_int x_k_get_int (by decide +kernel) (fun _ => rfl)))
  zD) zD)
  (zB (zF (yN (zA (i := 0) (k := .local) (by kernel_rfl) (by kernel_rfl) (by kernel_rfl)) (.cons (zA (i := 1) (k := .local) (by kernel_rfl) (by kernel_rfl) (by kernel_rfl)) (fun _ => rfl) .nil) (F_find_node.mono (by decide)) (zM _) x_m_find_node x_t_find_node x_k_find_node (by decide +kernel) (fun _ => rfl)) (zH (i := 2) (k := .local) (by kernel_rfl) (.inl rfl)) (fun _ => rfl) (fun _ _ => rfl) (fun _ => rfl))
  (zB (zP (sim_ite (zO (zA (i := 2) (k := .local) (by kernel_rfl) (by kernel_rfl) (by kernel_rfl)) zK cmp_lt) yA (zJ (yI (zJ (zA (i := 0) (k := .local) (by kernel_rfl) (by kernel_rfl) (by kernel_rfl)) zM (by kernel_rfl)) (zA (i := 2) (k := .local) (by kernel_rfl) (by kernel_rfl) (by kernel_rfl))) zM (by kernel_rfl))))
  zD))))

theorem F_new_key {n : Nat} (hn : 2 ≤ n) {p_rehash p_put_again : Fn} (h_rehash : yU (GP b) n (.ref 603) p_rehash) (h_put_again : yU (GP b) n (.ref 582) p_put_again) : yU (GP b) (n + 1) (.ref 575) (f_new_key p_rehash p_put_again) :=
  zZ x_l_new_key (by kernel_rfl) (by kernel_rfl) (by kernel_rfl) (fun _ _ _ _ _ _ _ _ _ _ => by kernel_rfl)
  (zB (zT (zO (xC (zJ (zA (i := 0) (k := .local) (by kernel_rfl) (by kernel_rfl) (by kernel_rfl)) zM (by kernel_rfl)) (fun _ => rfl) (i := 8) (by kernel_rfl) xB) zK cmp_eq) (zB (yH (yN (zA (i := 0) (k := .local) (by kernel_rfl) (by kernel_rfl) (by kernel_rfl)) (.cons (zA (i := 1) (k := .local) (by kernel_rfl) (by kernel_rfl) (by kernel_rfl)) (fun _ => rfl) (.cons (zA (i := 3) (k := .local) (by kernel_rfl) (by kernel_rfl) (by kernel_rfl)) (fun _ => rfl) .nil)) h_rehash (zM _) x_m_rehash x_t_rehash x_k_rehash (by decide +kernel) (fun _ => rfl)) (fun _ => rfl))
  (zB (yH (yN (zA (i := 0) (k := .local) (by kernel_rfl) (by kernel_rfl) (by kernel_rfl)) (.cons (zA (i := 1) (k := .local) (by kernel_rfl) (by kernel_rfl) (by kernel_rfl)) (fun _ => rfl) (.cons (zA (i := 2) (k := .local) (by kernel_rfl) (by kernel_rfl) (by kernel_rfl)) (fun _ => rfl) (.cons (zA (i := 3) (k := .local) (by kernel_rfl) (by kernel_rfl) (by kernel_rfl)) (fun _ => rfl) .nil))) h_put_again (zM _) x_m_put_again x_t_put_again x_k_put_again (by decide +kernel) (fun _ => rfl)) (fun _ => rfl))
  (zB sims_ret0
  zD))) zD)
  (zB (zF (yN (zA (i := 0) (k := .local) (by kernel_rfl) (by kernel_rfl) (by kernel_rfl)) (.cons (zA (i := 1) (k := .local) (by kernel_rfl) (by kernel_rfl) (by kernel_rfl)) (fun _ => rfl) .nil) (F_main_position.mono (Nat.le_trans (by decide) hn)) (zM _) x_m_main_position x_t_main_position x_k_main_position (by decide +kernel) (fun _ => rfl)) (zH (i := 4) (k := .local) (by kernel_rfl) (.inl rfl)) (fun _ => rfl) (fun _ _ => rfl) (fun _ => rfl))
  (zB (zF (yI (zJ (zA (i := 0) (k := .local) (by kernel_rfl) (by kernel_rfl) (by kernel_rfl)) zM (by kernel_rfl)) (zA (i := 4) (k := .local) (by kernel_rfl) (by kernel_rfl) (by kernel_rfl))) (zH (i := 5) (k := .local) (by kernel_rfl) (.inl rfl)) (fun _ => rfl) (fun _ _ => rfl) (fun _ => rfl))
  (zB (zT (zO (zJ (zA (i := 5) (k := .local) (by kernel_rfl) (by kernel_rfl) (by kernel_rfl)) zM (by kernel_rfl)) yA jA) (zB (zF (yN (zA (i := 0) (k := .local) (by kernel_rfl) (by kernel_rfl) (by kernel_rfl)) .nil (F_free_position.mono (Nat.le_trans (by decide) hn)) (zM _) x_m_free_position x_t_free_position x_k_free_position (by decide +kernel) (fun _ => rfl)) (zH (i := 6) (k := .local) (by kernel_rfl) (.inl rfl)) (fun _ => rfl) (fun _ _ => rfl) (fun _ => rfl))
  (zB (zT (zO (zA (i := 6) (k := .local) (by kernel_rfl) (by kernel_rfl) (by kernel_rfl)) zK cmp_lt) (zB (yH (yN (zA (i := 0) (k := .local) (by kernel_rfl) (by kernel_rfl) (by kernel_rfl)) (.cons (zA (i := 1) (k := .local) (by kernel_rfl) (by kernel_rfl) (by kernel_rfl)) (fun _ => rfl) (.cons (zA (i := 3) (k := .local) (by kernel_rfl) (by kernel_rfl) (by kernel_rfl)) (fun _ => rfl) .nil)) h_rehash (zM _) x_m_rehash x_t_rehash x_k_rehash (by decide +kernel) (fun _ => rfl)) (fun _ => rfl))
  (zB (yH (yN (zA (i := 0) (k := .local) (by kernel_rfl) (by kernel_rfl) (by kernel_rfl)) (.cons (zA (i := 1) (k := .local) (by kernel_rfl) (by kernel_rfl) (by kernel_rfl)) (fun _ => rfl) (.cons (zA (i := 2) (k := .local) (by kernel_rfl) (by kernel_rfl) (by kernel_rfl)) (fun _ => rfl) (.cons (zA (i := 3) (k := .local) (by kernel_rfl) (by kernel_rfl) (by kernel_rfl)) (fun _ => rfl) .nil))) h_put_again (zM _) x_m_put_again x_t_put_again x_k_put_again (by decide +kernel) (fun _ => rfl)) (fun _ => rfl))
  (zB sims_ret0
  zD))) zD)
  (zB (zF (yN (zA (i := 0) (k := .local) (by kernel_rfl) (by kernel_rfl) (by kernel_rfl)) (.cons (zJ (zA (i := 5) (k := .local) (by kernel_rfl) (by kernel_rfl) (by kernel_rfl)) zM (by kernel_rfl)) (fun _ => rfl) .nil) (F_main_position.mono (Nat.le_trans (by decide) hn)) (zM _) x_m_main_position x_t_main_position x_k_main_position (by decide +kernel) (fun _ => rfl)) (zH (i := 7) (k := .local) (by kernel_rfl) (.inl rfl)) (fun _ => rfl) (fun _ _ => rfl) (fun _ => rfl))
  (zB (zT (zO (zA (i := 7) (k := .local) (by kernel_rfl) (by kernel_rfl) (by kernel_rfl)) (zA (i := 4) (k := .local) (by kernel_rfl) (by kernel_rfl) (by kernel_rfl)) cmp_ne) (zB (jK (zO (zJ (yI (zJ (zA (i := 0) (k := .local) (by kernel_rfl) (by kernel_rfl) (by kernel_rfl)) zM (by kernel_rfl)) (zA (i := 7) (k := .local) (by kernel_rfl) (by kernel_rfl) (by kernel_rfl))) zM (by kernel_rfl)) (zA (i := 4) (k := .local) (by kernel_rfl) (by kernel_rfl) (by kernel_rfl)) cmp_ne) (zB (zF (zJ (yI (zJ (zA (i := 0) (k := .local) (by kernel_rfl) (by kernel_rfl) (by kernel_rfl)) zM (by kernel_rfl)) (zA (i := 7) (k := .local) (by kernel_rfl) (by kernel_rfl) (by kernel_rfl))) zM (by kernel_rfl)) (zH (i := 7) (k := .local) (by kernel_rfl) (.inl rfl)) (fun _ => rfl) (fun _ _ => rfl) (fun _ => rfl))
  zD))
  (zB (zF (zA (i := 6) (k := .local) (by kernel_rfl) (by kernel_rfl) (by kernel_rfl)) (zV (yI (zJ (zA (i := 0) (k := .local) (by kernel_rfl) (by kernel_rfl) (by kernel_rfl)) zM (by kernel_rfl)) (zA (i := 7) (k := .local) (by kernel_rfl) (by kernel_rfl) (by kernel_rfl))) zM (by kernel_rfl)) (fun _ => rfl) (fun _ _ => rfl) (fun _ => rfl))
  (zB (yH (yN (zA (i := 5) (k := .local) (by kernel_rfl) (by kernel_rfl) (by kernel_rfl)) (.cons (yI (zJ (zA (i := 0) (k := .local) (by kernel_rfl) (by kernel_rfl) (by kernel_rfl)) zM (by kernel_rfl)) (zA (i := 6) (k := .local) (by kernel_rfl) (by kernel_rfl) (by kernel_rfl))) (fun _ => rfl) .nil) (F_moved_to.mono (Nat.le_trans (by decide) hn)) (zM _) x_m_moved_to x_t_moved_to x_k_moved_to (by decide +kernel) (fun _ => rfl)) (fun _ => rfl))
  (zB (zF (sim_neg zK) (zV (zA (i := 5) (k := .local) (by kernel_rfl) (by kernel_rfl) (by kernel_rfl)) zM (by kernel_rfl)) (fun _ => rfl) (fun _ _ => rfl) (fun _ => rfl))
  (zB (zF yA (zV (zA (i := 5) (k := .local) (by kernel_rfl) (by kernel_rfl) (by kernel_rfl)) zM (by kernel_rfl)) (fun _ => rfl) (fun _ _ => rfl) (fun _ => rfl))
  zD))))) (zB (zF (zJ (zA (i := 5) (k := .local) (by kernel_rfl) (by kernel_rfl) (by kernel_rfl)) zM (by kernel_rfl)) (zV (yI (zJ (zA (i := 0) (k := .local) (by kernel_rfl) (by kernel_rfl) (by kernel_rfl)) zM (by kernel_rfl)) (zA (i := 6) (k := .local) (by kernel_rfl) (by kernel_rfl) (by kernel_rfl))) zM (by kernel_rfl)) (fun _ => rfl) (fun _ _ => rfl) (fun _ => rfl))
  (zB (zF (zA (i := 6) (k := .local) (by kernel_rfl) (by kernel_rfl) (by kernel_rfl)) (zV (zA (i := 5) (k := .local) (by kernel_rfl) (by kernel_rfl) (by kernel_rfl)) zM (by kernel_rfl)) (fun _ => rfl) (fun _ _ => rfl) (fun _ => rfl))
  (zB (zF (yI (zJ (zA (i := 0) (k := .local) (by kernel_rfl) (by kernel_rfl) (by kernel_rfl)) zM (by kernel_rfl)) (zA (i := 6) (k := .local) (by kernel_rfl) (by kernel_rfl) (by kernel_rfl))) (zH (i := 5) (k := .local) (by kernel_rfl) (.inl rfl)) (fun _ => rfl) (fun _ _ => rfl) (fun _ => rfl))
  zD))))
  zD)))) zD)
  (zB (zF (zA (i := 1) (k := .local) (by kernel_rfl) (by kernel_rfl) (by kernel_rfl)) (zV (zA (i := 5) (k := .local) (by kernel_rfl) (by kernel_rfl) (by kernel_rfl)) zM (by kernel_rfl)) (fun _ => rfl) (fun _ _ => rfl) (fun _ => rfl))
  (zB (zF (zA (i := 2) (k := .local) (by kernel_rfl) (by kernel_rfl) (by kernel_rfl)) (zV (zA (i := 5) (k := .local) (by kernel_rfl) (by kernel_rfl) (by kernel_rfl)) zM (by kernel_rfl)) (fun _ => rfl) (fun _ _ => rfl) (fun _ => rfl))
  (zB (zT (zO (zA (i := 3) (k := .local) (by kernel_rfl) (by kernel_rfl) (by kernel_rfl)) yA jA) (zB (yH sim_no (fun _ => rfl))
  zD) zD)
  zD)))))))

theorem F_put_again {n : Nat} (hn : 2 ≤ n) {p_new_key : Fn} (h_new_key : yU (GP b) n (.ref 575) p_new_key) : yU (GP b) (n + 1) (.ref 582) (f_put_again p_new_key) :=
  zZ x_l_put_again (by kernel_rfl) (by kernel_rfl) (by kernel_rfl) (fun _ _ _ _ _ _ _ _ _ _ => by kernel_rfl)
  (zB (zF (zS (.cons (zA (i := 1) (k := .local) (by kernel_rfl) (by kernel_rfl) (by kernel_rfl)) (fun _ => rfl) .nil) (F_array_index.mono (Nat.le_trans (by decide) hn)) (i := 5) (by kernel_rfl) x_g_array_index x_k_array_index (by kernel_rfl)) (zH (i := 4) (k := .local) (by kernel_rfl) (.inl rfl)) (fun _ => rfl) (fun _ _ => rfl) (fun _ => rfl))
  (zB (zT (simt_cmp2 zK (zA (i := 4) (k := .local) (by kernel_rfl) (by kernel_rfl) (by kernel_rfl)) (xC (zJ (zA (i := 0) (k := .local) (by kernel_rfl) (by kernel_rfl) (by kernel_rfl)) zM (by kernel_rfl)) (fun _ => rfl) (i := 6) (by kernel_rfl) xB) cmp_le cmp_le) (zB (zF (zA (i := 2) (k := .local) (by kernel_rfl) (by kernel_rfl) (by kernel_rfl)) (sima_item (zJ (zA (i := 0) (k := .local) (by kernel_rfl) (by kernel_rfl) (by kernel_rfl)) zM (by kernel_rfl)) (zU (zA (i := 4) (k := .local) (by kernel_rfl) (by kernel_rfl) (by kernel_rfl)) zK rfl)) (fun _ => rfl) (fun _ _ => rfl) (fun _ => rfl))
  zD) (zB (yH (yN (zA (i := 0) (k := .local) (by kernel_rfl) (by kernel_rfl) (by kernel_rfl)) (.cons (zA (i := 1) (k := .local) (by kernel_rfl) (by kernel_rfl) (by kernel_rfl)) (fun _ => rfl) (.cons (zA (i := 2) (k := .local) (by kernel_rfl) (by kernel_rfl) (by kernel_rfl)) (fun _ => rfl) (.cons (zA (i := 3) (k := .local) (by kernel_rfl) (by kernel_rfl) (by kernel_rfl)) (fun _ => rfl) .nil))) h_new_key (zM _) x_m_new_key x_t_new_key x_k_new_key (by decide +kernel) (fun _ => rfl)) (fun _ => rfl))
  zD))
  zD))

theorem F_put_back {n : Nat} (hn : 2 ≤ n) {p_new_key : Fn} (h_new_key : yU (GP b) n (.ref 575) p_new_key) : yU (GP b) (n + 1) (.ref 618) (f_put_back p_new_key) :=
  zZ x_l_put_back (by kernel_rfl) (by kernel_rfl) (by kernel_rfl) (fun _ _ _ _ _ _ _ _ _ _ => by kernel_rfl)
  (zB (zF (zS (.cons (zA (i := 1) (k := .local) (by kernel_rfl) (by kernel_rfl) (by kernel_rfl)) (fun _ => rfl) .nil) (F_array_index.mono (Nat.le_trans (by decide) hn)) (i := 5) (by kernel_rfl) x_g_array_index x_k_array_index (by kernel_rfl)) (zH (i := 4) (k := .local) (by kernel_rfl) (.inl rfl)) (fun _ => rfl) (fun _ _ => rfl) (fun _ => rfl))
  (zB (zT (simt_cmp2 zK (zA (i := 4) (k := .local) (by kernel_rfl) (by kernel_rfl) (by kernel_rfl)) (xC (zJ (zA (i := 0) (k := .local) (by kernel_rfl) (by kernel_rfl) (by kernel_rfl)) zM (by kernel_rfl)) (fun _ => rfl) (i := 6) (by kernel_rfl) xB) cmp_le cmp_le) (zB (zF (zA (i := 2) (k := .local) (by kernel_rfl) (by kernel_rfl) (by kernel_rfl)) (sima_item (zJ (zA (i := 0) (k := .local) (by kernel_rfl) (by kernel_rfl) (by kernel_rfl)) zM (by kernel_rfl)) (zU (zA (i := 4) (k := .local) (by kernel_rfl) (by kernel_rfl) (by kernel_rfl)) zK rfl)) (fun _ => rfl) (fun _ _ => rfl) (fun _ => rfl))
  zD) (zB (yH (yN (zA (i := 0) (k := .local) (by kernel_rfl) (by kernel_rfl) (by kernel_rfl)) (.cons (zA (i := 1) (k := .local) (by kernel_rfl) (by kernel_rfl) (by kernel_rfl)) (fun _ => rfl) (.cons (zA (i := 2) (k := .local) (by kernel_rfl) (by kernel_rfl) (by kernel_rfl)) (fun _ => rfl) (.cons (zA (i := 3) (k := .local) (by kernel_rfl) (by kernel_rfl) (by kernel_rfl)) (fun _ => rfl) .nil))) h_new_key (zM _) x_m_new_key x_t_new_key x_k_new_key (by decide +kernel) (fun _ => rfl)) (fun _ => rfl))
  zD))
  zD))

theorem F_count_array : yU (GP b) 1 (.ref 589) f_count_array :=
  zZ x_l_count_array (by kernel_rfl) (by kernel_rfl) (by kernel_rfl) (fun _ _ _ _ _ _ _ _ => by kernel_rfl)
  (zB (zF zK (zH (i := 2) (k := .local) (by kernel_rfl) (.inl rfl)) (fun _ => rfl) (fun _ _ => rfl) (fun _ => rfl))
  (zB (zF zK (zH (i := 3) (k := .local) (by kernel_rfl) (.inl rfl)) (fun _ => rfl) (fun _ _ => rfl) (fun _ => rfl))
  (zB (zF zK (zH (i := 4) (k := .local) (by kernel_rfl) (.inl rfl)) (fun _ => rfl) (fun _ _ => rfl) (fun _ => rfl))
  (zB (wR (sim_rng1 (zU (yL (i := 9) (by kernel_rfl) x_i_MAX_BITS (by kernel_rfl)) zK rfl) (fun _ => rfl) (i := 8) (by kernel_rfl) x_b_range) (zH (i := 5) (k := .local) (by kernel_rfl) (.inl rfl)) (zB (zF (sim_min (zA (i := 4) (k := .local) (by kernel_rfl) (by kernel_rfl) (by kernel_rfl)) (xC (zJ (zA (i := 0) (k := .local) (by kernel_rfl) (by kernel_rfl) (by kernel_rfl)) zM (by kernel_rfl)) (fun _ => rfl) (i := 11) (by kernel_rfl) xB) (fun _ => rfl) (fun _ => rfl) (i := 10) (by kernel_rfl) x_b_min) (zH (i := 6) (k := .local) (by kernel_rfl) (.inl rfl)) (fun _ => rfl) (fun _ _ => rfl) (fun _ => rfl))
  (zB (zT (zO (zA (i := 3) (k := .local) (by kernel_rfl) (by kernel_rfl) (by kernel_rfl)) (zA (i := 6) (k := .local) (by kernel_rfl) (by kernel_rfl) (by kernel_rfl)) cmp_gt) (zB sims_brk
  zD) zD)
  (zB (zF zK (zH (i := 7) (k := .local) (by kernel_rfl) (.inl rfl)) (fun _ => rfl) (fun _ _ => rfl) (fun _ => rfl))
  (zB (jK (zO (zA (i := 3) (k := .local) (by kernel_rfl) (by kernel_rfl) (by kernel_rfl)) (zA (i := 6) (k := .local) (by kernel_rfl) (by kernel_rfl) (by kernel_rfl)) cmp_le) (zB (zT (zO (yI (zJ (zA (i := 0) (k := .local) (by kernel_rfl) (by kernel_rfl) (by kernel_rfl)) zM (by kernel_rfl)) (zU (zA (i := 3) (k := .local) (by kernel_rfl) (by kernel_rfl) (by kernel_rfl)) zK rfl)) yA jA) (zB (sims_aug (i := 7) (k := .local) (by kernel_rfl) (.inl rfl) (by kernel_rfl) zK rfl)
  zD) zD)
  (zB (sims_aug (i := 3) (k := .local) (by kernel_rfl) (.inl rfl) (by kernel_rfl) zK rfl)
  zD)))
  (zB sims_no
  (zB (sims_aug (i := 2) (k := .local) (by kernel_rfl) (.inl rfl) (by kernel_rfl) (zA (i := 7) (k := .local) (by kernel_rfl) (by kernel_rfl) (by kernel_rfl)) rfl)
  (zB (sims_aug (i := 4) (k := .local) (by kernel_rfl) (.inl rfl) (by kernel_rfl) zK rfl)
  zD))))))) (fun _ _ => rfl))
  (zB (zP (zA (i := 2) (k := .local) (by kernel_rfl) (by kernel_rfl) (by kernel_rfl)))
  zD)))))

theorem F_count_nodes : yU (GP b) 4 (.ref 596) f_count_nodes :=
  zZ x_l_count_nodes (by kernel_rfl) (by kernel_rfl) (by kernel_rfl) (fun _ _ _ _ _ _ _ _ => by kernel_rfl)
  (zB (zF zK (zH (i := 2) (k := .local) (by kernel_rfl) (.inl rfl)) (fun _ => rfl) (fun _ _ => rfl) (fun _ => rfl))
  (zB (zF zK (zH (i := 3) (k := .local) (by kernel_rfl) (.inl rfl)) (fun _ => rfl) (fun _ _ => rfl) (fun _ => rfl))
  (zB (wR (xK (zJ (zA (i := 0) (k := .local) (by kernel_rfl) (by kernel_rfl) (by kernel_rfl)) zM (by kernel_rfl))) (zH (i := 4) (k := .local) (by kernel_rfl) (.inl rfl)) (zB (zT (zO (zJ (zA (i := 4) (k := .local) (by kernel_rfl) (by kernel_rfl) (by kernel_rfl)) zM (by kernel_rfl)) yA jA) (zB (sims_aug (i := 3) (k := .local) (by kernel_rfl) (.inl rfl) (by kernel_rfl) (zS (.cons (zJ (zA (i := 4) (k := .local) (by kernel_rfl) (by kernel_rfl) (by kernel_rfl)) zM (by kernel_rfl)) (fun _ => rfl) (.cons (zA (i := 1) (k := .local) (by kernel_rfl) (by kernel_rfl) (by kernel_rfl)) (fun _ => rfl) .nil)) (F_count_key.mono (by decide)) (i := 5) (by kernel_rfl) x_g_count_key x_k_count_key (by kernel_rfl)) rfl)
  (zB (sims_aug (i := 2) (k := .local) (by kernel_rfl) (.inl rfl) (by kernel_rfl) zK rfl)
  zD)) zD)
  zD) (fun _ _ => rfl))
  (zB (zP (xX (Args.sim (.cons (zA (i := 2) (k := .local) (by kernel_rfl) (by kernel_rfl) (by kernel_rfl)) (fun _ => rfl) (.cons (zA (i := 3) (k := .local) (by kernel_rfl) (by kernel_rfl) (by kernel_rfl)) (fun _ => rfl) .nil))) (by decide)))
  zD))))

theorem F_make_nodes : yU (GP b) 3 (.ref 623) f_make_nodes :=
  zZ x_l_make_nodes (by kernel_rfl) (by kernel_rfl) (by kernel_rfl) (fun _ _ _ _ _ _ _ _ => by kernel_rfl)
  (zB (zT (zO (zA (i := 1) (k := .local) (by kernel_rfl) (by kernel_rfl) (by kernel_rfl)) (yL (i := 2) (by kernel_rfl) x_i_MOST_PLACES (by kernel_rfl)) cmp_gt) (zB sims_no
  zD) zD)
  (zB (zF (xE (Args.sim .nil)) (zV (zA (i := 0) (k := .local) (by kernel_rfl) (by kernel_rfl) (by kernel_rfl)) zM (by kernel_rfl)) (fun _ => rfl) (fun _ _ => rfl) (fun _ => rfl))
  (zB (zF zK (zV (zA (i := 0) (k := .local) (by kernel_rfl) (by kernel_rfl) (by kernel_rfl)) zM (by kernel_rfl)) (fun _ => rfl) (fun _ _ => rfl) (fun _ => rfl))
  (zB (zT (zO (zA (i := 1) (k := .local) (by kernel_rfl) (by kernel_rfl) (by kernel_rfl)) zK cmp_gt) (zB (zF (zS (.cons (zA (i := 1) (k := .local) (by kernel_rfl) (by kernel_rfl) (by kernel_rfl)) (fun _ => rfl) .nil) (F_ceil_log2.mono (by decide)) (i := 4) (by kernel_rfl) x_g_ceil_log2 x_k_ceil_log2 (by kernel_rfl)) (zV (zA (i := 0) (k := .local) (by kernel_rfl) (by kernel_rfl) (by kernel_rfl)) zM (by kernel_rfl)) (fun _ => rfl) (fun _ _ => rfl) (fun _ => rfl))
  (zB (zF (wT (sim_rng1 (zU zK (zJ (zA (i := 0) (k := .local) (by kernel_rfl) (by kernel_rfl) (by kernel_rfl)) zM (by kernel_rfl)) rfl) (fun _ => rfl) (i := 5) (by kernel_rfl) x_b_range) (xW (i := 1) (by kernel_rfl)) simts_nil (sim_new .nil (F_Node_init.mono (by decide)) (i := 2) (by kernel_rfl) x_g_Node x_k_Node (by kernel_rfl) (x_mks _) x_in_Node x_t_Node_init) (by kernel_rfl) (fun _ _ => rfl)) (zV (zA (i := 0) (k := .local) (by kernel_rfl) (by kernel_rfl) (by kernel_rfl)) zM (by kernel_rfl)) (fun _ => rfl) (fun _ _ => rfl) (fun _ => rfl))
  zD)) zD)
  (zB (zF (xC (zJ (zA (i := 0) (k := .local) (by kernel_rfl) (by kernel_rfl) (by kernel_rfl)) zM (by kernel_rfl)) (fun _ => rfl) (i := 6) (by kernel_rfl) xB) (zV (zA (i := 0) (k := .local) (by kernel_rfl) (by kernel_rfl) (by kernel_rfl)) zM (by kernel_rfl)) (fun _ => rfl) (fun _ _ => rfl) (fun _ => rfl))
  zD)))))

theorem F_weigh : yU (GP b) 1 (.ref 637) f_weigh :=
  zZ x_l_weigh (by kernel_rfl) (by kernel_rfl) (by kernel_rfl) (fun _ _ _ _ _ _ _ _ => by kernel_rfl)
  (zB (zT (zO (zA (i := 1) (k := .local) (by kernel_rfl) (by kernel_rfl) (by kernel_rfl)) yA jA) (zB (yH sim_no (fun _ => rfl))
  zD) (zB (zF (zU (zU (yL (i := 2) (by kernel_rfl) x_i_BASE_SIZE (by kernel_rfl)) (zU (yL (i := 3) (by kernel_rfl) x_i_SLOT_SIZE (by kernel_rfl)) (xC (zJ (zA (i := 0) (k := .local) (by kernel_rfl) (by kernel_rfl) (by kernel_rfl)) zM (by kernel_rfl)) (fun _ => rfl) (i := 4) (by kernel_rfl) xB) rfl) rfl) (zU (yL (i := 5) (by kernel_rfl) x_i_NODE_SIZE (by kernel_rfl)) (xC (zJ (zA (i := 0) (k := .local) (by kernel_rfl) (by kernel_rfl) (by kernel_rfl)) zM (by kernel_rfl)) (fun _ => rfl) (i := 4) (by kernel_rfl) xB) rfl) rfl) (zV (zA (i := 0) (k := .local) (by kernel_rfl) (by kernel_rfl) (by kernel_rfl)) zM (by kernel_rfl)) (fun _ => rfl) (fun _ _ => rfl) (fun _ => rfl))
  zD))
  zD)

theorem F_resize {n : Nat} (hn : 3 ≤ n) {p_put_back : Fn} (h_put_back : yU (GP b) n (.ref 618) p_put_back) : yU (GP b) (n + 1) (.ref 611) (f_resize p_put_back) :=
  simf_goN x_l_resize (by kernel_rfl) (by kernel_rfl) (by kernel_rfl) (fun _ _ _ _ _ _ _ _ _ _ => ⟨_, rfl, by kernel_rfl⟩) (fun _ _ _ _ _ _ _ _ _ _ _ => ⟨_, rfl, by kernel_rfl⟩)
  (zB (zT (simt_or (zO (zA (i := 1) (k := .local) (by kernel_rfl) (by kernel_rfl) (by kernel_rfl)) (yL (i := 9) (by kernel_rfl) x_i_MOST_SLOTS (by kernel_rfl)) cmp_gt) (zO (zA (i := 2) (k := .local) (by kernel_rfl) (by kernel_rfl) (by kernel_rfl)) (yL (i := 10) (by kernel_rfl) x_i_MOST_PLACES (by kernel_rfl)) cmp_gt)) (zB sims_no
  zD) zD)
  (zB (zF (zJ (zA (i := 0) (k := .local) (by kernel_rfl) (by kernel_rfl) (by kernel_rfl)) zM (by kernel_rfl)) (zH (i := 4) (k := .local) (by kernel_rfl) (.inl rfl)) (fun _ => rfl) (fun _ _ => rfl) (fun _ => rfl))
  (zB (zF (sim_tail (zJ (zA (i := 0) (k := .local) (by kernel_rfl) (by kernel_rfl) (by kernel_rfl)) zM (by kernel_rfl)) (zA (i := 1) (k := .local) (by kernel_rfl) (by kernel_rfl) (by kernel_rfl))) (zH (i := 5) (k := .local) (by kernel_rfl) (.inl rfl)) (fun _ => rfl) (fun _ _ => rfl) (fun _ => rfl))
  (zB (zF (sim_head (zJ (zA (i := 0) (k := .local) (by kernel_rfl) (by kernel_rfl) (by kernel_rfl)) zM (by kernel_rfl)) (zA (i := 1) (k := .local) (by kernel_rfl) (by kernel_rfl) (by kernel_rfl))) (zV (zA (i := 0) (k := .local) (by kernel_rfl) (by kernel_rfl) (by kernel_rfl)) zM (by kernel_rfl)) (fun _ => rfl) (fun _ _ => rfl) (fun _ => rfl))
  (zB (jK (zO (xC (zJ (zA (i := 0) (k := .local) (by kernel_rfl) (by kernel_rfl) (by kernel_rfl)) zM (by kernel_rfl)) (fun _ => rfl) (i := 12) (by kernel_rfl) xB) (zA (i := 1) (k := .local) (by kernel_rfl) (by kernel_rfl) (by kernel_rfl)) cmp_lt) (zB (yH (sim_append (zJ (zA (i := 0) (k := .local) (by kernel_rfl) (by kernel_rfl) (by kernel_rfl)) zM (by kernel_rfl)) yA (fun _ => rfl) (fun _ => rfl)) (fun _ => rfl))
  zD))
  (zB (yH (yN (zA (i := 0) (k := .local) (by kernel_rfl) (by kernel_rfl) (by kernel_rfl)) (.cons (zA (i := 2) (k := .local) (by kernel_rfl) (by kernel_rfl) (by kernel_rfl)) (fun _ => rfl) .nil) (F_make_nodes.mono (Nat.le_trans (by decide) hn)) (zM _) x_m_make_nodes x_t_make_nodes x_k_make_nodes (by decide +kernel) (fun _ => rfl)) (fun _ => rfl))
  (zB (wR (sim_enum (zA (i := 5) (k := .local) (by kernel_rfl) (by kernel_rfl) (by kernel_rfl)) (fun _ => rfl) (i := 13) (by kernel_rfl) x_b_enumerate) (sima_tup (.cons (zH (i := 6) (k := .local) (by kernel_rfl) (.inl rfl)) (fun _ => rfl) (.cons (zH (i := 7) (k := .local) (by kernel_rfl) (.inl rfl)) (fun _ => rfl) .nil))) (zB (zT (zO (zA (i := 7) (k := .local) (by kernel_rfl) (by kernel_rfl) (by kernel_rfl)) yA jA) (zB (yH (yN (zA (i := 0) (k := .local) (by kernel_rfl) (by kernel_rfl) (by kernel_rfl)) (.cons (zU (zU (zA (i := 1) (k := .local) (by kernel_rfl) (by kernel_rfl) (by kernel_rfl)) (zA (i := 6) (k := .local) (by kernel_rfl) (by kernel_rfl) (by kernel_rfl)) rfl) zK rfl) (fun _ => rfl) (.cons (zA (i := 7) (k := .local) (by kernel_rfl) (by kernel_rfl) (by kernel_rfl)) (fun _ => rfl) (.cons (zA (i := 3) (k := .local) (by kernel_rfl) (by kernel_rfl) (by kernel_rfl)) (fun _ => rfl) .nil))) h_put_back (zM _) x_m_put_back x_t_put_back x_k_put_back (by decide +kernel) (fun _ => rfl)) (fun _ => rfl))
  zD) zD)
  zD) (fun _ _ => rfl))
  (zB (wR (sim_rev1 (zA (i := 4) (k := .local) (by kernel_rfl) (by kernel_rfl) (by kernel_rfl)) (fun _ => rfl) (i := 14) (by kernel_rfl) x_b_reversed) (zH (i := 8) (k := .local) (by kernel_rfl) (.inl rfl)) (zB (zT (zO (zJ (zA (i := 8) (k := .local) (by kernel_rfl) (by kernel_rfl) (by kernel_rfl)) zM (by kernel_rfl)) yA jA) (zB (yH (yN (zA (i := 0) (k := .local) (by kernel_rfl) (by kernel_rfl) (by kernel_rfl)) (.cons (zJ (zA (i := 8) (k := .local) (by kernel_rfl) (by kernel_rfl) (by kernel_rfl)) zM (by kernel_rfl)) (fun _ => rfl) (.cons (zJ (zA (i := 8) (k := .local) (by kernel_rfl) (by kernel_rfl) (by kernel_rfl)) zM (by kernel_rfl)) (fun _ => rfl) (.cons (zA (i := 3) (k := .local) (by kernel_rfl) (by kernel_rfl) (by kernel_rfl)) (fun _ => rfl) .nil))) h_put_back (zM _) x_m_put_back x_t_put_back x_k_put_back (by decide +kernel) (fun _ => rfl)) (fun _ => rfl))
  zD) zD)
  zD) (fun _ _ => rfl))
  (zB (yH (yN (zA (i := 0) (k := .local) (by kernel_rfl) (by kernel_rfl) (by kernel_rfl)) (.cons (zA (i := 3) (k := .local) (by kernel_rfl) (by kernel_rfl) (by kernel_rfl)) (fun _ => rfl) .nil) (F_weigh.mono (Nat.le_trans (by decide) hn)) (zM _) x_m_weigh x_t_weigh x_k_weigh (by decide +kernel) (fun _ => rfl)) (fun _ => rfl))
  zD)))))))))

theorem F_rehash {n : Nat} (hn : 4 ≤ n) {p_resize : Fn} (h_resize : yU (GP b) n (.ref 611) p_resize) : yU (GP b) (n + 1) (.ref 603) (f_rehash p_resize) :=
  zZ x_l_rehash (by kernel_rfl) (by kernel_rfl) (by kernel_rfl) (fun _ _ _ _ _ _ _ _ _ => by kernel_rfl)
  (zB (zF (zU (xE (Args.sim (.cons zK (fun _ => rfl) .nil))) (zU (yL (i := 10) (by kernel_rfl) x_i_MAX_BITS (by kernel_rfl)) zK rfl) rfl) (zH (i := 3) (k := .local) (by kernel_rfl) (.inl rfl)) (fun _ => rfl) (fun _ _ => rfl) (fun _ => rfl))
  (zB (zF (yN (zA (i := 0) (k := .local) (by kernel_rfl) (by kernel_rfl) (by kernel_rfl)) (.cons (zA (i := 3) (k := .local) (by kernel_rfl) (by kernel_rfl) (by kernel_rfl)) (fun _ => rfl) .nil) (F_count_array.mono (Nat.le_trans (by decide) hn)) (zM _) x_m_count_array x_t_count_array x_k_count_array (by decide +kernel) (fun _ => rfl)) (zH (i := 4) (k := .local) (by kernel_rfl) (.inl rfl)) (fun _ => rfl) (fun _ _ => rfl) (fun _ => rfl))
  (zB (zF (zA (i := 4) (k := .local) (by kernel_rfl) (by kernel_rfl) (by kernel_rfl)) (zH (i := 5) (k := .local) (by kernel_rfl) (.inl rfl)) (fun _ => rfl) (fun _ _ => rfl) (fun _ => rfl))
  (zB (zF (yN (zA (i := 0) (k := .local) (by kernel_rfl) (by kernel_rfl) (by kernel_rfl)) (.cons (zA (i := 3) (k := .local) (by kernel_rfl) (by kernel_rfl) (by kernel_rfl)) (fun _ => rfl) .nil) (F_count_nodes.mono (Nat.le_trans (by decide) hn)) (zM _) x_m_count_nodes x_t_count_nodes x_k_count_nodes (by decide +kernel) (fun _ => rfl)) (sima_tup (.cons (zH (i := 6) (k := .local) (by kernel_rfl) (.inl rfl)) (fun _ => rfl) (.cons (zH (i := 7) (k := .local) (by kernel_rfl) (.inl rfl)) (fun _ => rfl) .nil))) (fun _ => rfl) (fun _ _ => rfl) (fun _ => rfl))
  (zB (sims_aug (i := 5) (k := .local) (by kernel_rfl) (.inl rfl) (by kernel_rfl) (zU (zA (i := 6) (k := .local) (by kernel_rfl) (by kernel_rfl) (by kernel_rfl)) zK rfl) rfl)
  (zB (sims_aug (i := 4) (k := .local) (by kernel_rfl) (.inl rfl) (by kernel_rfl) (zU (zA (i := 7) (k := .local) (by kernel_rfl) (by kernel_rfl) (by kernel_rfl)) (zS (.cons (zA (i := 1) (k := .local) (by kernel_rfl) (by kernel_rfl) (by kernel_rfl)) (fun _ => rfl) (.cons (zA (i := 3) (k := .local) (by kernel_rfl) (by kernel_rfl) (by kernel_rfl)) (fun _ => rfl) .nil)) (F_count_key.mono (Nat.le_trans (by decide) hn)) (i := 11) (by kernel_rfl) x_g_count_key x_k_count_key (by kernel_rfl)) rfl) rfl)
  (zB (zF (zS (.cons (zA (i := 3) (k := .local) (by kernel_rfl) (by kernel_rfl) (by kernel_rfl)) (fun _ => rfl) (.cons (zA (i := 4) (k := .local) (by kernel_rfl) (by kernel_rfl) (by kernel_rfl)) (fun _ => rfl) .nil)) (F_compute_sizes.mono (Nat.le_trans (by decide) hn)) (i := 12) (by kernel_rfl) x_g_compute_sizes x_k_compute_sizes (by kernel_rfl)) (sima_tup (.cons (zH (i := 8) (k := .local) (by kernel_rfl) (.inl rfl)) (fun _ => rfl) (.cons (zH (i := 9) (k := .local) (by kernel_rfl) (.inl rfl)) (fun _ => rfl) .nil))) (fun _ => rfl) (fun _ _ => rfl) (fun _ => rfl))
  (zB (yH (yN (zA (i := 0) (k := .local) (by kernel_rfl) (by kernel_rfl) (by kernel_rfl)) (.cons (zA (i := 8) (k := .local) (by kernel_rfl) (by kernel_rfl) (by kernel_rfl)) (fun _ => rfl) (.cons (zU (zA (i := 5) (k := .local) (by kernel_rfl) (by kernel_rfl) (by kernel_rfl)) (zA (i := 9) (k := .local) (by kernel_rfl) (by kernel_rfl) (by kernel_rfl)) rfl) (fun _ => rfl) (.cons (zA (i := 2) (k := .local) (by kernel_rfl) (by kernel_rfl) (by kernel_rfl)) (fun _ => rfl) .nil))) h_resize (zM _) x_m_resize x_t_resize x_k_resize (by decide +kernel) (fun _ => rfl)) (fun _ => rfl))
  zD))))))))

theorem F_nk0 : yU (GP b) 3 (.ref 575) nk0 := F_new_key (n := 2) (by decide) simf_no simf_no

theorem F_pb0 : yU (GP b) 4 (.ref 618) pb0 := F_put_back (n := 3) (by decide) (F_nk0.mono (by decide))

theorem F_pa0 : yU (GP b) 4 (.ref 582) pa0 := F_put_again (n := 3) (by decide) (F_nk0.mono (by decide))

theorem F_rs0 : yU (GP b) 5 (.ref 611) rs0 := F_resize (n := 4) (by decide) (F_pb0.mono (by decide))

theorem F_rh0 : yU (GP b) 6 (.ref 603) rh0 := F_rehash (n := 5) (by decide) (F_rs0.mono (by decide))

theorem F_nk1 : yU (GP b) 7 (.ref 575) nk1 := F_new_key (n := 6) (by decide) (F_rh0.mono (by decide)) (F_pa0.mono (by decide))

theorem F_put {n : Nat} (hn : 3 ≤ n) {p_new_key : Fn} (h_new_key : yU (GP b) n (.ref 575) p_new_key) : yU (GP b) (n + 1) (.ref 568) (f_put p_new_key) :=
  zZ x_l_put (by kernel_rfl) (by kernel_rfl) (by kernel_rfl) (fun _ _ _ _ _ _ _ _ _ _ => by kernel_rfl)
  (zB (zF (zS (.cons (zA (i := 1) (k := .local) (by kernel_rfl) (by kernel_rfl) (by kernel_rfl)) (fun _ => rfl) .nil) (F_array_index.mono (Nat.le_trans (by decide) hn)) (i := 6) (by kernel_rfl) x_g_array_index x_k_array_index (by kernel_rfl)) (zH (i := 4) (k := .local) (by kernel_rfl) (.inl rfl)) (fun _ => rfl) (fun _ _ => rfl) (fun _ => rfl))
  (zB (zT (simt_cmp2 zK (zA (i := 4) (k := .local) (by kernel_rfl) (by kernel_rfl) (by kernel_rfl)) (xC (zJ (zA (i := 0) (k := .local) (by kernel_rfl) (by kernel_rfl) (by kernel_rfl)) zM (by kernel_rfl)) (fun _ => rfl) (i := 7) (by kernel_rfl) xB) cmp_le cmp_le) (zB (zF (zA (i := 2) (k := .local) (by kernel_rfl) (by kernel_rfl) (by kernel_rfl)) (sima_item (zJ (zA (i := 0) (k := .local) (by kernel_rfl) (by kernel_rfl) (by kernel_rfl)) zM (by kernel_rfl)) (zU (zA (i := 4) (k := .local) (by kernel_rfl) (by kernel_rfl) (by kernel_rfl)) zK rfl)) (fun _ => rfl) (fun _ _ => rfl) (fun _ => rfl))
  zD) (zB (zF (yN (zA (i := 0) (k := .local) (by kernel_rfl) (by kernel_rfl) (by kernel_rfl)) (.cons (zA (i := 1) (k := .local) (by kernel_rfl) (by kernel_rfl) (by kernel_rfl)) (fun _ => rfl) .nil) (F_find_node.mono (Nat.le_trans (by decide) hn)) (zM _) x_m_find_node x_t_find_node x_k_find_node (by decide +kernel) (fun _ => rfl)) (zH (i := 5) (k := .local) (by kernel_rfl) (.inl rfl)) (fun _ => rfl) (fun _ _ => rfl) (fun _ => rfl))
  (zB (zT (zO (zA (i := 5) (k := .local) (by kernel_rfl) (by kernel_rfl) (by kernel_rfl)) zK cmp_ge) (zB (zF (zA (i := 2) (k := .local) (by kernel_rfl) (by kernel_rfl) (by kernel_rfl)) (zV (yI (zJ (zA (i := 0) (k := .local) (by kernel_rfl) (by kernel_rfl) (by kernel_rfl)) zM (by kernel_rfl)) (zA (i := 5) (k := .local) (by kernel_rfl) (by kernel_rfl) (by kernel_rfl))) zM (by kernel_rfl)) (fun _ => rfl) (fun _ _ => rfl) (fun _ => rfl))
  zD) (zB (yH (yN (zA (i := 0) (k := .local) (by kernel_rfl) (by kernel_rfl) (by kernel_rfl)) (.cons (zA (i := 1) (k := .local) (by kernel_rfl) (by kernel_rfl) (by kernel_rfl)) (fun _ => rfl) (.cons (zA (i := 2) (k := .local) (by kernel_rfl) (by kernel_rfl) (by kernel_rfl)) (fun _ => rfl) (.cons (zA (i := 3) (k := .local) (by kernel_rfl) (by kernel_rfl) (by kernel_rfl)) (fun _ => rfl) .nil))) h_new_key (zM _) x_m_new_key x_t_new_key x_k_new_key (by decide +kernel) (fun _ => rfl)) (fun _ => rfl))
  zD))
  zD)))
  (zB (zT (zO (zA (i := 3) (k := .local) (by kernel_rfl) (by kernel_rfl) (by kernel_rfl)) yA jA) (zB (yH sim_no (fun _ => rfl))
  zD) zD)
  zD)))

theorem F_set {n : Nat} (hn : 0 ≤ n) {p_put : Fn} (h_put : yU (GP b) n (.ref 568) p_put) : yU (GP b) (n + 1) (.ref 547) (f_set p_put) :=
  zZ x_l_set (by kernel_rfl) (by kernel_rfl) (by kernel_rfl) (fun _ _ _ _ _ _ _ _ _ _ => by kernel_rfl)
  (zB (zF zK (zV (zA (i := 0) (k := .local) (by kernel_rfl) (by kernel_rfl) (by kernel_rfl)) zM (by kernel_rfl)) (fun _ => rfl) (fun _ _ => rfl) (fun _ => rfl))
  (zB (zT (zO (zA (i := 1) (k := .local) (by kernel_rfl) (by kernel_rfl) (by kernel_rfl)) yA cmp_is) (zB sims_no
  zD) zD)
  (zB (yH (yN (zA (i := 0) (k := .local) (by kernel_rfl) (by kernel_rfl) (by kernel_rfl)) (.cons (zA (i := 1) (k := .local) (by kernel_rfl) (by kernel_rfl) (by kernel_rfl)) (fun _ => rfl) (.cons (zA (i := 2) (k := .local) (by kernel_rfl) (by kernel_rfl) (by kernel_rfl)) (fun _ => rfl) (.cons (zA (i := 3) (k := .local) (by kernel_rfl) (by kernel_rfl) (by kernel_rfl)) (fun _ => rfl) .nil))) h_put (zM _) x_m_put x_t_put x_k_put (by decide +kernel) (fun _ => rfl)) (fun _ => rfl))
  zD)))

theorem F_pt1 : yU (GP b) 8 (.ref 568) pt1 := F_put (n := 7) (by decide) (F_nk1.mono (by decide))

theorem F_set1 : yU (GP b) 9 (.ref 547) set1 := F_set (n := 8) (by decide) (F_pt1.mono (by decide))

theorem F_Table_init : yU (GP b) 6 (.ref 498) jH :=
  simf_goD x_l_Table_init (by kernel_rfl) (by kernel_rfl) (by kernel_rfl) (fun items h => by obtain ⟨t1, t2, t3, rfl⟩ := h; exact fun _ _ _ _ _ _ _ _ _ _ _ => ⟨_, rfl, by kernel_rfl⟩)
  (zB (yH (sim_init (.cons (zA (i := 0) (k := .local) (by kernel_rfl) (by kernel_rfl) (by kernel_rfl)) (fun _ => rfl) (.cons (zA (i := 1) (k := .local) (by kernel_rfl) (by kernel_rfl) (by kernel_rfl)) (fun _ => rfl) (.cons (yL (i := 5) (by kernel_rfl) x_i_BASE_SIZE (by kernel_rfl)) (fun _ => rfl) .nil))) (F_HeapObject_init.mono (by decide)) (i := 4) (by kernel_rfl) wJ x_k_HeapObject_init (by kernel_rfl) x_ga_HeapObject x_rd_HeapObject x_fc_HeapObject _ (fun _ => rfl)) (fun _ => rfl))
  (zB (zF yA (zV (zA (i := 0) (k := .local) (by kernel_rfl) (by kernel_rfl) (by kernel_rfl)) zM (by kernel_rfl)) (fun _ => rfl) (fun _ _ => rfl) (fun _ => rfl))
  (zB (zF zK (zV (zA (i := 0) (k := .local) (by kernel_rfl) (by kernel_rfl) (by kernel_rfl)) zM (by kernel_rfl)) (fun _ => rfl) (fun _ _ => rfl) (fun _ => rfl))
  (zB (zF xA (zV (zA (i := 0) (k := .local) (by kernel_rfl) (by kernel_rfl) (by kernel_rfl)) zM (by kernel_rfl)) (fun _ => rfl) (fun _ _ => rfl) (fun _ => rfl))
  (zB (zF (xE (Args.sim .nil)) (zV (zA (i := 0) (k := .local) (by kernel_rfl) (by kernel_rfl) (by kernel_rfl)) zM (by kernel_rfl)) (fun _ => rfl) (fun _ _ => rfl) (fun _ => rfl))
  (zB (zF (xE (Args.sim .nil)) (zV (zA (i := 0) (k := .local) (by kernel_rfl) (by kernel_rfl) (by kernel_rfl)) zM (by kernel_rfl)) (fun _ => rfl) (fun _ _ => rfl) (fun _ => rfl))
  (zB (zF zK (zV (zA (i := 0) (k := .local) (by kernel_rfl) (by kernel_rfl) (by kernel_rfl)) zM (by kernel_rfl)) (fun _ => rfl) (fun _ _ => rfl) (fun _ => rfl))
  (zB (zF zK (zV (zA (i := 0) (k := .local) (by kernel_rfl) (by kernel_rfl) (by kernel_rfl)) zM (by kernel_rfl)) (fun _ => rfl) (fun _ _ => rfl) (fun _ => rfl))
  (zB (zT (simt_or (zO (zA (i := 2) (k := .local) (by kernel_rfl) (by kernel_rfl) (by kernel_rfl)) zK cmp_gt) (zO (zA (i := 3) (k := .local) (by kernel_rfl) (by kernel_rfl) (by kernel_rfl)) zK cmp_gt)) (zB (yH (yN (zA (i := 0) (k := .local) (by kernel_rfl) (by kernel_rfl) (by kernel_rfl)) (.cons (zA (i := 2) (k := .local) (by kernel_rfl) (by kernel_rfl) (by kernel_rfl)) (fun _ => rfl) (.cons (zA (i := 3) (k := .local) (by kernel_rfl) (by kernel_rfl) (by kernel_rfl)) (fun _ => rfl) .nil)) (F_rs0.mono (by decide)) (zM _) x_m_resize x_t_resize x_k_resize (by decide +kernel) (fun _ => rfl)) (fun _ => rfl))
  zD) zD)
  zD)))))))))

theorem F_find_index : yU (GP b) 3 (.ref 644) xS :=
  zZ x_l_find_index (by kernel_rfl) (by kernel_rfl) (by kernel_rfl) (fun _ _ _ _ _ _ _ _ => by kernel_rfl)
  (zB (zT (zO (zA (i := 1) (k := .local) (by kernel_rfl) (by kernel_rfl) (by kernel_rfl)) yA cmp_is) (zB (zP (sim_neg zK))
  zD) zD)
  (zB (zF (zS (.cons (zA (i := 1) (k := .local) (by kernel_rfl) (by kernel_rfl) (by kernel_rfl)) (fun _ => rfl) .nil) (F_array_index.mono (by decide)) (i := 5) (by kernel_rfl) x_g_array_index x_k_array_index (by kernel_rfl)) (zH (i := 2) (k := .local) (by kernel_rfl) (.inl rfl)) (fun _ => rfl) (fun _ _ => rfl) (fun _ => rfl))
  (zB (zT (simt_cmp2 zK (zA (i := 2) (k := .local) (by kernel_rfl) (by kernel_rfl) (by kernel_rfl)) (xC (zJ (zA (i := 0) (k := .local) (by kernel_rfl) (by kernel_rfl) (by kernel_rfl)) zM (by kernel_rfl)) (fun _ => rfl) (i := 6) (by kernel_rfl) xB) cmp_le cmp_le) (zB (zP (zU (zA (i := 2) (k := .local) (by kernel_rfl) (by kernel_rfl) (by kernel_rfl)) zK rfl))
  zD) zD)
  (zB (zF (sim_ite (zO (xC (zJ (zA (i := 0) (k := .local) (by kernel_rfl) (by kernel_rfl) (by kernel_rfl)) zM (by kernel_rfl)) (fun _ => rfl) (i := 6) (by kernel_rfl) xB) zK cmp_gt) (yN (zA (i := 0) (k := .local) (by kernel_rfl) (by kernel_rfl) (by kernel_rfl)) (.cons (zA (i := 1) (k := .local) (by kernel_rfl) (by kernel_rfl) (by kernel_rfl)) (fun _ => rfl) .nil) (F_main_position.mono (by decide)) (zM _) x_m_main_position x_t_main_position x_k_main_position (by decide +kernel) (fun _ => rfl)) (sim_neg zK)) (zH (i := 3) (k := .local) (by kernel_rfl) (.inl rfl)) (fun _ => rfl) (fun _ _ => rfl) (fun _ => rfl))
  (zB (jK (zO (zA (i := 3) (k := .local) (by kernel_rfl) (by kernel_rfl) (by kernel_rfl)) zK cmp_ge) (zB (zF (zJ (yI (zJ (zA (i := 0) (k := .local) (by kernel_rfl) (by kernel_rfl) (by kernel_rfl)) zM (by kernel_rfl)) (zA (i := 3) (k := .local) (by kernel_rfl) (by kernel_rfl) (by kernel_rfl))) zM (by kernel_rfl)) (zH (i := 4) (k := .local) (by kernel_rfl) (.inl rfl)) (fun _ => rfl) (fun _ _ => rfl) (fun _ => rfl))
  (zB (zT (yS (zS (.cons (zA (i := 4) (k := .local) (by kernel_rfl) (by kernel_rfl) (by kernel_rfl)) (fun _ => rfl) (.cons (zA (i := 1) (k := .local) (by kernel_rfl) (by kernel_rfl) (by kernel_rfl)) (fun _ => rfl) .nil)) (F_raw_equal.mono (by decide)) (i := 7) (by kernel_rfl) x_g_raw_equal x_k_raw_equal (by kernel_rfl))) (zB (zP (zU (xC (zJ (zA (i := 0) (k := .local) (by kernel_rfl) (by kernel_rfl) (by kernel_rfl)) zM (by kernel_rfl)) (fun _ => rfl) (i := 6) (by kernel_rfl) xB) (zA (i := 3) (k := .local) (by kernel_rfl) (by kernel_rfl) (by kernel_rfl)) rfl))
  zD) zD)
  (zB (zT (simt_and3 (yS (xI (zA (i := 4) (k := .local) (by kernel_rfl) (by kernel_rfl) (by kernel_rfl)) x_kit (i := 8) (by kernel_rfl) zY (wA (i := 9) (by kernel_rfl) x_g_DeadKey (by kernel_rfl)) x_ty_DeadKey (fun _ => rfl) (fun _ => rfl))) (simt_and (yS (zS (.cons (zA (i := 1) (k := .local) (by kernel_rfl) (by kernel_rfl) (by kernel_rfl)) (fun _ => rfl) .nil) (F_is_collectable.mono (by decide)) (i := 10) (by kernel_rfl) x_g_is_collectable x_k_is_collectable (by kernel_rfl))) (zO (zJ (zA (i := 4) (k := .local) (by kernel_rfl) (by kernel_rfl) (by kernel_rfl)) zM (by kernel_rfl)) (zJ (zA (i := 1) (k := .local) (by kernel_rfl) (by kernel_rfl) (by kernel_rfl)) zM (by kernel_rfl)) cmp_eq))) (zB (zP (zU (xC (zJ (zA (i := 0) (k := .local) (by kernel_rfl) (by kernel_rfl) (by kernel_rfl)) zM (by kernel_rfl)) (fun _ => rfl) (i := 6) (by kernel_rfl) xB) (zA (i := 3) (k := .local) (by kernel_rfl) (by kernel_rfl) (by kernel_rfl)) rfl))
  zD) zD)
  (zB (zF (zJ (yI (zJ (zA (i := 0) (k := .local) (by kernel_rfl) (by kernel_rfl) (by kernel_rfl)) zM (by kernel_rfl)) (zA (i := 3) (k := .local) (by kernel_rfl) (by kernel_rfl) (by kernel_rfl))) zM (by kernel_rfl)) (zH (i := 3) (k := .local) (by kernel_rfl) (.inl rfl)) (fun _ => rfl) (fun _ _ => rfl) (fun _ => rfl))
  zD)))))
  (zB sims_no
  zD))))))

theorem F_next : yU (GP b) 4 (.ref 651) f_next :=
  zZ x_l_next (by kernel_rfl) (by kernel_rfl) (by kernel_rfl) (fun _ _ _ _ _ _ _ _ => by kernel_rfl)
  (zB (zF (zU (yN (zA (i := 0) (k := .local) (by kernel_rfl) (by kernel_rfl) (by kernel_rfl)) (.cons (zA (i := 1) (k := .local) (by kernel_rfl) (by kernel_rfl) (by kernel_rfl)) (fun _ => rfl) .nil) (F_find_index.mono (by decide)) (zM _) x_m_find_index x_t_find_index x_k_find_index (by decide +kernel) (fun _ => rfl)) zK rfl) (zH (i := 2) (k := .local) (by kernel_rfl) (.inl rfl)) (fun _ => rfl) (fun _ _ => rfl) (fun _ => rfl))
  (zB (jK (zO (zA (i := 2) (k := .local) (by kernel_rfl) (by kernel_rfl) (by kernel_rfl)) (xC (zJ (zA (i := 0) (k := .local) (by kernel_rfl) (by kernel_rfl) (by kernel_rfl)) zM (by kernel_rfl)) (fun _ => rfl) (i := 5) (by kernel_rfl) xB) cmp_lt) (zB (zT (zO (yI (zJ (zA (i := 0) (k := .local) (by kernel_rfl) (by kernel_rfl) (by kernel_rfl)) zM (by kernel_rfl)) (zA (i := 2) (k := .local) (by kernel_rfl) (by kernel_rfl) (by kernel_rfl))) yA jA) (zB (zP (xX (Args.sim (.cons (zU (zA (i := 2) (k := .local) (by kernel_rfl) (by kernel_rfl) (by kernel_rfl)) zK rfl) (fun _ => rfl) (.cons (yI (zJ (zA (i := 0) (k := .local) (by kernel_rfl) (by kernel_rfl) (by kernel_rfl)) zM (by kernel_rfl)) (zA (i := 2) (k := .local) (by kernel_rfl) (by kernel_rfl) (by kernel_rfl))) (fun _ => rfl) .nil))) (by decide)))
  zD) zD)
  (zB (sims_aug (i := 2) (k := .local) (by kernel_rfl) (.inl rfl) (by kernel_rfl) zK rfl)
  zD)))
  (zB (zF (zU (zA (i := 2) (k := .local) (by kernel_rfl) (by kernel_rfl) (by kernel_rfl)) (xC (zJ (zA (i := 0) (k := .local) (by kernel_rfl) (by kernel_rfl) (by kernel_rfl)) zM (by kernel_rfl)) (fun _ => rfl) (i := 5) (by kernel_rfl) xB) rfl) (zH (i := 3) (k := .local) (by kernel_rfl) (.inl rfl)) (fun _ => rfl) (fun _ _ => rfl) (fun _ => rfl))
  (zB (jK (zO (zA (i := 3) (k := .local) (by kernel_rfl) (by kernel_rfl) (by kernel_rfl)) (xC (zJ (zA (i := 0) (k := .local) (by kernel_rfl) (by kernel_rfl) (by kernel_rfl)) zM (by kernel_rfl)) (fun _ => rfl) (i := 5) (by kernel_rfl) xB) cmp_lt) (zB (zF (yI (zJ (zA (i := 0) (k := .local) (by kernel_rfl) (by kernel_rfl) (by kernel_rfl)) zM (by kernel_rfl)) (zA (i := 3) (k := .local) (by kernel_rfl) (by kernel_rfl) (by kernel_rfl))) (zH (i := 4) (k := .local) (by kernel_rfl) (.inl rfl)) (fun _ => rfl) (fun _ _ => rfl) (fun _ => rfl))
  (zB (zT (zO (zJ (zA (i := 4) (k := .local) (by kernel_rfl) (by kernel_rfl) (by kernel_rfl)) zM (by kernel_rfl)) yA jA) (zB (zP (xX (Args.sim (.cons (zJ (zA (i := 4) (k := .local) (by kernel_rfl) (by kernel_rfl) (by kernel_rfl)) zM (by kernel_rfl)) (fun _ => rfl) (.cons (zJ (zA (i := 4) (k := .local) (by kernel_rfl) (by kernel_rfl) (by kernel_rfl)) zM (by kernel_rfl)) (fun _ => rfl) .nil))) (by decide)))
  zD) zD)
  (zB (sims_aug (i := 3) (k := .local) (by kernel_rfl) (.inl rfl) (by kernel_rfl) zK rfl)
  zD))))
  (zB (zP yA)
  zD)))))

theorem F_bury : yU (GP b) 3 (.ref 672) f_bury :=
  zZ x_l_bury (by kernel_rfl) (by kernel_rfl) (by kernel_rfl) (fun _ _ _ _ _ _ _ _ => by kernel_rfl)
  (zB (zF (yI (zJ (zA (i := 0) (k := .local) (by kernel_rfl) (by kernel_rfl) (by kernel_rfl)) zM (by kernel_rfl)) (zA (i := 1) (k := .local) (by kernel_rfl) (by kernel_rfl) (by kernel_rfl))) (zH (i := 2) (k := .local) (by kernel_rfl) (.inl rfl)) (fun _ => rfl) (fun _ _ => rfl) (fun _ => rfl))
  (zB (zF yA (zV (zA (i := 2) (k := .local) (by kernel_rfl) (by kernel_rfl) (by kernel_rfl)) zM (by kernel_rfl)) (fun _ => rfl) (fun _ _ => rfl) (fun _ => rfl))
  (zB (zT (yS (zS (.cons (zJ (zA (i := 2) (k := .local) (by kernel_rfl) (by kernel_rfl) (by kernel_rfl)) zM (by kernel_rfl)) (fun _ => rfl) .nil) (F_is_collectable.mono (by decide)) (i := 3) (by kernel_rfl) x_g_is_collectable x_k_is_collectable (by kernel_rfl))) (zB (zF (sim_new (.cons (zJ (zJ (zA (i := 2) (k := .local) (by kernel_rfl) (by kernel_rfl) (by kernel_rfl)) zM (by kernel_rfl)) zM (by kernel_rfl)) (fun _ => rfl) .nil) (F_DeadKey_init.mono (by decide)) (i := 4) (by kernel_rfl) x_g_DeadKey x_k_DeadKey (by kernel_rfl) (x_mks _) x_in_DeadKey x_t_DeadKey_init) (zV (zA (i := 2) (k := .local) (by kernel_rfl) (by kernel_rfl) (by kernel_rfl)) zM (by kernel_rfl)) (fun _ => rfl) (fun _ _ => rfl) (fun _ => rfl))
  zD) zD)
  zD)))

theorem F_weak_mode : yU (GP b) 5 (.ref 28) f_weak_mode :=
  zZ x_l_weak_mode (by kernel_rfl) (by kernel_rfl) (by kernel_rfl) (fun _ _ _ _ _ _ _ => by kernel_rfl)
  (zB (zF (sim_ite (zO (zA (i := 0) (k := .local) (by kernel_rfl) (by kernel_rfl) (by kernel_rfl)) yA cmp_is) yA (yN (zA (i := 0) (k := .local) (by kernel_rfl) (by kernel_rfl) (by kernel_rfl)) (.cons xA (fun _ => rfl) .nil) (F_get_text.mono (by decide)) (zM _) x_m_get_text x_t_get_text x_k_get_text (by decide +kernel) (fun _ => rfl))) (zH (i := 1) (k := .local) (by kernel_rfl) (.inl rfl)) (fun _ => rfl) (fun _ _ => rfl) (fun _ => rfl))
  (zB (zT (simt_not (yS (xI (zA (i := 1) (k := .local) (by kernel_rfl) (by kernel_rfl) (by kernel_rfl)) x_kit (i := 5) (by kernel_rfl) zY (tyn_bui (i := 6) (by kernel_rfl) x_b_bytes (by decide +kernel) (by decide) (by kernel_rfl)) x_ty_bytes (fun _ => rfl) (fun _ => rfl)))) (zB (zP xA)
  zD) zD)
  (zB (sims_swap (i := 2) (j := 3) (by kernel_rfl) (by kernel_rfl) (by decide) (xX (Args.sim (.cons (sim_find (zA (i := 1) (k := .local) (by kernel_rfl) (by kernel_rfl) (by kernel_rfl)) xA (fun _ => rfl) (fun _ => rfl)) (fun _ => rfl) (.cons xA (fun _ => rfl) .nil))) (by decide)) (fun _ => rfl) (fun env h => by cases env; cases h; kernel_rfl))
  (zB (zF (sim_ite (zO (zA (i := 2) (k := .local) (by kernel_rfl) (by kernel_rfl) (by kernel_rfl)) zK cmp_lt) (zA (i := 1) (k := .local) (by kernel_rfl) (by kernel_rfl) (by kernel_rfl)) (sim_head (zA (i := 1) (k := .local) (by kernel_rfl) (by kernel_rfl) (by kernel_rfl)) (zA (i := 2) (k := .local) (by kernel_rfl) (by kernel_rfl) (by kernel_rfl)))) (zH (i := 1) (k := .local) (by kernel_rfl) (.inl rfl)) (fun _ => rfl) (fun _ _ => rfl) (fun _ => rfl))
  (zB (wR (xK (xX (Args.sim (.cons xA (fun _ => rfl) (.cons xA (fun _ => rfl) .nil))) (by decide))) (zH (i := 4) (k := .local) (by kernel_rfl) (.inl rfl)) (zB (zT (zO (zA (i := 4) (k := .local) (by kernel_rfl) (by kernel_rfl) (by kernel_rfl)) (zA (i := 1) (k := .local) (by kernel_rfl) (by kernel_rfl) (by kernel_rfl)) cmp_in) (zB (zF (zU (zA (i := 3) (k := .local) (by kernel_rfl) (by kernel_rfl) (by kernel_rfl)) (zA (i := 4) (k := .local) (by kernel_rfl) (by kernel_rfl) (by kernel_rfl)) rfl) (zH (i := 3) (k := .local) (by kernel_rfl) (.inl rfl)) (fun _ => rfl) (fun _ _ => rfl) (fun _ => rfl))
  zD) zD)
  zD) (fun _ _ => rfl))
  (zB (zP (zA (i := 3) (k := .local) (by kernel_rfl) (by kernel_rfl) (by kernel_rfl)))
  zD))))))

theorem F_is_white : yU (GP b) 1 (.ref 744) f_is_white :=
  zZ x_l_is_white (by kernel_rfl) (by kernel_rfl) (by kernel_rfl) (fun _ _ _ _ _ _ _ => by kernel_rfl)
  (zB (zP (sim_cmp (zJ (zA (i := 0) (k := .local) (by kernel_rfl) (by kernel_rfl) (by kernel_rfl)) zM (by kernel_rfl)) (yL (i := 1) (by kernel_rfl) x_i_GREY (by kernel_rfl)) cmp_lt))
  zD)

theorem F_is_lost : yU (GP b) 2 (.ref 751) f_is_lost :=
  zZ x_l_is_lost (by kernel_rfl) (by kernel_rfl) (by kernel_rfl) (fun _ _ _ _ _ _ _ _ _ => by kernel_rfl)
  (zB (zP (sim_or (zS (.cons (zA (i := 0) (k := .local) (by kernel_rfl) (by kernel_rfl) (by kernel_rfl)) (fun _ => rfl) .nil) (F_is_white.mono (by decide)) (i := 3) (by kernel_rfl) x_g_is_white x_k_is_white (by kernel_rfl)) (sim_and (zA (i := 2) (k := .local) (by kernel_rfl) (by kernel_rfl) (by kernel_rfl)) (sim_not (zA (i := 1) (k := .local) (by kernel_rfl) (by kernel_rfl) (by kernel_rfl))))))
  zD)

theorem F_is_object : yU (GP b) 1 (.ref 777) f_is_object :=
  zZ x_l_is_object (by kernel_rfl) (by kernel_rfl) (by kernel_rfl) (fun _ _ _ _ _ _ _ => by kernel_rfl)
  (zB (zP (sim_isiT (zA (i := 0) (k := .local) (by kernel_rfl) (by kernel_rfl) (by kernel_rfl)) x_kit (i := 1) (by kernel_rfl) zY (.cons (wA (i := 2) (by kernel_rfl) x_g_Table (by kernel_rfl)) x_ty_Table (fun _ => rfl) (.cons (wA (i := 3) (by kernel_rfl) x_g_LuaClosure (by kernel_rfl)) x_ty_LuaClosure (fun _ => rfl) (.cons (wA (i := 4) (by kernel_rfl) x_g_PyClosure (by kernel_rfl)) x_ty_PyClosure (fun _ => rfl) (.cons (wA (i := 5) (by kernel_rfl) x_g_Userdata (by kernel_rfl)) x_ty_Userdata (fun _ => rfl) (.cons (wA (i := 6) (by kernel_rfl) x_g_Thread (by kernel_rfl)) x_ty_Thread (fun _ => rfl) (.cons (wA (i := 7) (by kernel_rfl) x_g_Proto (by kernel_rfl)) x_ty_Proto (fun _ => rfl) (.cons (wA (i := 8) (by kernel_rfl) x_g_UpVal (by kernel_rfl)) x_ty_UpVal (fun _ => rfl) .nil))))))) (by decide) (fun _ => rfl) (fun _ => rfl)))
  zD)

theorem F_is_lost_key : yU (GP b) 3 (.ref 817) wG :=
  zZ x_l_is_lost_key (by kernel_rfl) (by kernel_rfl) (by kernel_rfl) (fun _ _ _ _ _ _ _ => by kernel_rfl)
  (zB (zP (sim_and (zS (.cons (zA (i := 0) (k := .local) (by kernel_rfl) (by kernel_rfl) (by kernel_rfl)) (fun _ => rfl) .nil) (F_is_object.mono (by decide)) (i := 1) (by kernel_rfl) x_g_is_object x_k_is_object (by kernel_rfl)) (zS (.cons (zA (i := 0) (k := .local) (by kernel_rfl) (by kernel_rfl) (by kernel_rfl)) (fun _ => rfl) (.cons xQ (fun _ => rfl) (.cons xQ (fun _ => rfl) .nil))) (F_is_lost.mono (by decide)) (i := 2) (by kernel_rfl) x_g_is_lost x_k_is_lost (by kernel_rfl))))
  zD)

theorem F_is_lost_value : yU (GP b) 3 (.ref 824) f_is_lost_value :=
  zZ x_l_is_lost_value (by kernel_rfl) (by kernel_rfl) (by kernel_rfl) (fun _ _ _ _ _ _ _ => by kernel_rfl)
  (zB (zT (simt_not (yS (zS (.cons (zA (i := 0) (k := .local) (by kernel_rfl) (by kernel_rfl) (by kernel_rfl)) (fun _ => rfl) .nil) (F_is_object.mono (by decide)) (i := 1) (by kernel_rfl) x_g_is_object x_k_is_object (by kernel_rfl)))) (zB (zP xQ)
  zD) zD)
  (zB (zP (zS (.cons (zA (i := 0) (k := .local) (by kernel_rfl) (by kernel_rfl) (by kernel_rfl)) (fun _ => rfl) (.cons xQ (fun _ => rfl) (.cons (sim_and (xI (zA (i := 0) (k := .local) (by kernel_rfl) (by kernel_rfl) (by kernel_rfl)) x_kit (i := 3) (by kernel_rfl) zY (wA (i := 4) (by kernel_rfl) x_g_Userdata (by kernel_rfl)) x_ty_Userdata (fun _ => rfl) (fun _ => rfl)) (zJ (zA (i := 0) (k := .local) (by kernel_rfl) (by kernel_rfl) (by kernel_rfl)) zM (by kernel_rfl))) (fun _ => rfl) .nil))) (F_is_lost.mono (by decide)) (i := 2) (by kernel_rfl) x_g_is_lost x_k_is_lost (by kernel_rfl)))
  zD))

theorem F_lost_places : yU (GP b) 4 (.ref 756) f_lost_places :=
  zZ x_l_lost_places (by kernel_rfl) (by kernel_rfl) (by kernel_rfl) (fun _ _ _ _ _ _ _ _ => by kernel_rfl)
  (zB (zP (wT (sim_rng1 (xC (zA (i := 0) (k := .cell) (by kernel_rfl) (by kernel_rfl) (by kernel_rfl)) (fun _ => rfl) (i := 3) (by kernel_rfl) xB) (fun _ => rfl) (i := 2) (by kernel_rfl) x_b_range) (xW (i := 1) (by kernel_rfl)) (simts_one (yS (sim_callV (.cons (yI (zA (i := 3) (k := .cell) (by kernel_rfl) (by kernel_rfl) (by kernel_rfl)) (zA (i := 1) (k := .local) (by kernel_rfl) (by kernel_rfl) (by kernel_rfl))) (fun _ => rfl) .nil) (F_is_lost_key.mono (by decide)) (F_is_lost_value.mono (by decide)) x_k_is_lost_key x_k_is_lost_value (i := 2) (k := .cell) (by kernel_rfl) (by kernel_rfl) (by kernel_rfl)))) (zA (i := 1) (k := .local) (by kernel_rfl) (by kernel_rfl) (by kernel_rfl)) (by kernel_rfl) (fun _ _ => rfl)))
  zD)

theorem F_lost_entries : yU (GP b) 4 (.ref 763) f_lost_entries :=
  zZ x_l_lost_entries (by kernel_rfl) (by kernel_rfl) (by kernel_rfl) (fun _ _ _ _ _ _ _ _ _ => by kernel_rfl)
  (zB (zF (xE (Args.sim .nil)) (zH (i := 3) (k := .local) (by kernel_rfl) (.inl rfl)) (fun _ => rfl) (fun _ _ => rfl) (fun _ => rfl))
  (zB (wR (sim_rng1 (xC (zA (i := 0) (k := .local) (by kernel_rfl) (by kernel_rfl) (by kernel_rfl)) (fun _ => rfl) (i := 8) (by kernel_rfl) xB) (fun _ => rfl) (i := 7) (by kernel_rfl) x_b_range) (zH (i := 4) (k := .local) (by kernel_rfl) (.inl rfl)) (zB (zF (yI (zA (i := 0) (k := .local) (by kernel_rfl) (by kernel_rfl) (by kernel_rfl)) (zA (i := 4) (k := .local) (by kernel_rfl) (by kernel_rfl) (by kernel_rfl))) (sima_tup (.cons (zH (i := 5) (k := .local) (by kernel_rfl) (.inl rfl)) (fun _ => rfl) (.cons (zH (i := 6) (k := .local) (by kernel_rfl) (.inl rfl)) (fun _ => rfl) .nil))) (fun _ => rfl) (fun _ _ => rfl) (fun _ => rfl))
  (zB (zT (simt_and (zO (zA (i := 6) (k := .local) (by kernel_rfl) (by kernel_rfl) (by kernel_rfl)) yA jA) (simt_or (yS (sim_callV (.cons (zA (i := 5) (k := .local) (by kernel_rfl) (by kernel_rfl) (by kernel_rfl)) (fun _ => rfl) .nil) (F_is_lost_key.mono (by decide)) (F_is_lost_value.mono (by decide)) x_k_is_lost_key x_k_is_lost_value (i := 1) (k := .local) (by kernel_rfl) (by kernel_rfl) (by kernel_rfl))) (yS (sim_callV (.cons (zA (i := 6) (k := .local) (by kernel_rfl) (by kernel_rfl) (by kernel_rfl)) (fun _ => rfl) .nil) (F_is_lost_key.mono (by decide)) (F_is_lost_value.mono (by decide)) x_k_is_lost_key x_k_is_lost_value (i := 2) (k := .local) (by kernel_rfl) (by kernel_rfl) (by kernel_rfl))))) (zB (yH (sim_append (zA (i := 3) (k := .local) (by kernel_rfl) (by kernel_rfl) (by kernel_rfl)) (zA (i := 4) (k := .local) (by kernel_rfl) (by kernel_rfl) (by kernel_rfl)) (fun _ => rfl) (fun _ => rfl)) (fun _ => rfl))
  zD) zD)
  zD)) (fun _ _ => rfl))
  (zB (zP (zA (i := 3) (k := .local) (by kernel_rfl) (by kernel_rfl) (by kernel_rfl)))
  zD)))

theorem F_kept_of_entry : yU (GP b) 1 (.ref 770) f_kept_of_entry :=
  zZ x_l_kept_of_entry (by kernel_rfl) (by kernel_rfl) (by kernel_rfl) (fun _ _ _ _ _ _ _ _ _ => by kernel_rfl)
  (zB (zF (sim_ite (zO xA (zA (i := 2) (k := .local) (by kernel_rfl) (by kernel_rfl) (by kernel_rfl)) cmp_in) (xE (Args.sim .nil)) (xE (Args.sim (.cons (zA (i := 0) (k := .local) (by kernel_rfl) (by kernel_rfl) (by kernel_rfl)) (fun _ => rfl) .nil)))) (zH (i := 3) (k := .local) (by kernel_rfl) (.inl rfl)) (fun _ => rfl) (fun _ _ => rfl) (fun _ => rfl))
  (zB (zT (zO xA (zA (i := 2) (k := .local) (by kernel_rfl) (by kernel_rfl) (by kernel_rfl)) cmp_notin) (zB (yH (sim_append (zA (i := 3) (k := .local) (by kernel_rfl) (by kernel_rfl) (by kernel_rfl)) (zA (i := 1) (k := .local) (by kernel_rfl) (by kernel_rfl) (by kernel_rfl)) (fun _ => rfl) (fun _ => rfl)) (fun _ => rfl))
  zD) zD)
  (zB (zP (zA (i := 3) (k := .local) (by kernel_rfl) (by kernel_rfl) (by kernel_rfl)))
  zD)))

theorem F_objects_of : yU (GP b) 2 (.ref 782) f_objects_of :=
  zZ x_l_objects_of (by kernel_rfl) (by kernel_rfl) (by kernel_rfl) (fun _ _ _ _ _ _ _ => by kernel_rfl)
  (zB (zP (wT (xK (zA (i := 0) (k := .local) (by kernel_rfl) (by kernel_rfl) (by kernel_rfl))) (xW (i := 1) (by kernel_rfl)) (simts_one (yS (zS (.cons (zA (i := 1) (k := .local) (by kernel_rfl) (by kernel_rfl) (by kernel_rfl)) (fun _ => rfl) .nil) (F_is_object.mono (by decide)) (i := 2) (by kernel_rfl) x_g_is_object x_k_is_object (by kernel_rfl)))) (zA (i := 1) (k := .local) (by kernel_rfl) (by kernel_rfl) (by kernel_rfl)) (by kernel_rfl) (fun _ _ => rfl)))
  zD)

theorem F_table_children : yU (GP b) 6 (.ref 796) f_table_children :=
  zZ x_l_table_children (by kernel_rfl) (by kernel_rfl) (by kernel_rfl) (fun _ _ _ _ _ _ _ => by kernel_rfl)
  (zB (zF (zS (.cons (zJ (zA (i := 0) (k := .local) (by kernel_rfl) (by kernel_rfl) (by kernel_rfl)) zM (by kernel_rfl)) (fun _ => rfl) .nil) (F_weak_mode.mono (by decide)) (i := 4) (by kernel_rfl) x_g_weak_mode x_k_weak_mode (by kernel_rfl)) (zV (zA (i := 0) (k := .local) (by kernel_rfl) (by kernel_rfl) (by kernel_rfl)) zM (by kernel_rfl)) (fun _ => rfl) (fun _ _ => rfl) (fun _ => rfl))
  (zB (zF (xE (Args.sim (.cons (zJ (zA (i := 0) (k := .local) (by kernel_rfl) (by kernel_rfl) (by kernel_rfl)) zM (by kernel_rfl)) (fun _ => rfl) .nil))) (zH (i := 1) (k := .local) (by kernel_rfl) (.inl rfl)) (fun _ => rfl) (fun _ _ => rfl) (fun _ => rfl))
  (zB (zT (zO xA (zJ (zA (i := 0) (k := .local) (by kernel_rfl) (by kernel_rfl) (by kernel_rfl)) zM (by kernel_rfl)) cmp_notin) (zB (yH (sim_extend (zA (i := 1) (k := .local) (by kernel_rfl) (by kernel_rfl) (by kernel_rfl)) (zJ (zA (i := 0) (k := .local) (by kernel_rfl) (by kernel_rfl) (by kernel_rfl)) zM (by kernel_rfl)) (fun _ => rfl) (fun _ => rfl)) (fun _ => rfl))
  zD) zD)
  (zB (wR (sim_rng1 (xC (zJ (zA (i := 0) (k := .local) (by kernel_rfl) (by kernel_rfl) (by kernel_rfl)) zM (by kernel_rfl)) (fun _ => rfl) (i := 6) (by kernel_rfl) xB) (fun _ => rfl) (i := 5) (by kernel_rfl) x_b_range) (zH (i := 2) (k := .local) (by kernel_rfl) (.inl rfl)) (zB (zF (yI (zJ (zA (i := 0) (k := .local) (by kernel_rfl) (by kernel_rfl) (by kernel_rfl)) zM (by kernel_rfl)) (zA (i := 2) (k := .local) (by kernel_rfl) (by kernel_rfl) (by kernel_rfl))) (zH (i := 3) (k := .local) (by kernel_rfl) (.inl rfl)) (fun _ => rfl) (fun _ _ => rfl) (fun _ => rfl))
  (zB (zT (zO (zJ (zA (i := 3) (k := .local) (by kernel_rfl) (by kernel_rfl) (by kernel_rfl)) zM (by kernel_rfl)) yA cmp_is) (zB (yH (yN (zA (i := 0) (k := .local) (by kernel_rfl) (by kernel_rfl) (by kernel_rfl)) (.cons (zA (i := 2) (k := .local) (by kernel_rfl) (by kernel_rfl) (by kernel_rfl)) (fun _ => rfl) .nil) (F_bury.mono (by decide)) (zM _) x_m_bury x_t_bury x_k_bury (by decide +kernel) (fun _ => rfl)) (fun _ => rfl))
  zD) (zB (yH (sim_extend (zA (i := 1) (k := .local) (by kernel_rfl) (by kernel_rfl) (by kernel_rfl)) (zS (.cons (zJ (zA (i := 3) (k := .local) (by kernel_rfl) (by kernel_rfl) (by kernel_rfl)) zM (by kernel_rfl)) (fun _ => rfl) (.cons (zJ (zA (i := 3) (k := .local) (by kernel_rfl) (by kernel_rfl) (by kernel_rfl)) zM (by kernel_rfl)) (fun _ => rfl) (.cons (zJ (zA (i := 0) (k := .local) (by kernel_rfl) (by kernel_rfl) (by kernel_rfl)) zM (by kernel_rfl)) (fun _ => rfl) .nil))) (F_kept_of_entry.mono (by decide)) (i := 7) (by kernel_rfl) x_g_kept_of_entry x_k_kept_of_entry (by kernel_rfl)) (fun _ => rfl) (fun _ => rfl)) (fun _ => rfl))
  zD))
  zD)) (fun _ _ => rfl))
  (zB (zP (zA (i := 1) (k := .local) (by kernel_rfl) (by kernel_rfl) (by kernel_rfl)))
  zD)))))

theorem F_children_of : yU (GP b) 7 (.ref 789) f_children_of :=
  zZ x_l_children_of (by kernel_rfl) (by kernel_rfl) (by kernel_rfl) (fun _ _ _ _ _ _ _ => by kernel_rfl)
  (zB (zT (yS (xI (zA (i := 0) (k := .local) (by kernel_rfl) (by kernel_rfl) (by kernel_rfl)) x_kit (i := 1) (by kernel_rfl) zY (wA (i := 2) (by kernel_rfl) x_g_Table (by kernel_rfl)) x_ty_Table (fun _ => rfl) (fun _ => rfl))) (zB (zP (zS (.cons (zS (.cons (zA (i := 0) (k := .local) (by kernel_rfl) (by kernel_rfl) (by kernel_rfl)) (fun _ => rfl) .nil) (F_table_children.mono (by decide)) (i := 4) (by kernel_rfl) x_g_table_children x_k_table_children (by kernel_rfl)) (fun _ => rfl) .nil) (F_objects_of.mono (by decide)) (i := 3) (by kernel_rfl) x_g_objects_of x_k_objects_of (by kernel_rfl)))
  zD) zD)
  (zB sims_no (zB sims_no (zB sims_no (zB sims_no (zB sims_no (zB sims_no (zB sims_no zD))))))))

theorem F_table_size : yU (GP b) 1 (.ref 810) f_table_size :=
  zZ x_l_table_size (by kernel_rfl) (by kernel_rfl) (by kernel_rfl) (fun _ _ _ _ _ _ _ => by kernel_rfl)
  (zB (zP (zU (zU (yL (i := 1) (by kernel_rfl) x_i_SIZE_TABLE (by kernel_rfl)) (zU (yL (i := 2) (by kernel_rfl) x_i_SIZE_ARRAY_PLACE (by kernel_rfl)) (xC (zJ (zA (i := 0) (k := .local) (by kernel_rfl) (by kernel_rfl) (by kernel_rfl)) zM (by kernel_rfl)) (fun _ => rfl) (i := 3) (by kernel_rfl) xB) rfl) rfl) (zU (yL (i := 4) (by kernel_rfl) x_i_SIZE_NODE (by kernel_rfl)) (xC (zJ (zA (i := 0) (k := .local) (by kernel_rfl) (by kernel_rfl) (by kernel_rfl)) zM (by kernel_rfl)) (fun _ => rfl) (i := 3) (by kernel_rfl) xB) rfl) rfl))
  zD)

theorem F_clear_table : yU (GP b) 5 (.ref 829) f_clear_table :=
  zZ x_l_clear_table (by kernel_rfl) (by kernel_rfl) (by kernel_rfl) (fun _ _ _ _ _ _ _ => by kernel_rfl)
  (zB (zT (zO xA (zJ (zA (i := 0) (k := .local) (by kernel_rfl) (by kernel_rfl) (by kernel_rfl)) zM (by kernel_rfl)) cmp_in) (zB (wR (xK (zS (.cons (zJ (zA (i := 0) (k := .local) (by kernel_rfl) (by kernel_rfl) (by kernel_rfl)) zM (by kernel_rfl)) (fun _ => rfl) (.cons (sim_globF (i := 5) (k := 1) (by kernel_rfl) x_g_is_lost_value (by kernel_rfl)) (fun _ => rfl) .nil)) (F_lost_places.mono (by decide)) (i := 4) (by kernel_rfl) x_g_lost_places x_k_lost_places (by kernel_rfl))) (zH (i := 1) (k := .local) (by kernel_rfl) (.inl rfl)) (zB (zF yA (sima_item (zJ (zA (i := 0) (k := .local) (by kernel_rfl) (by kernel_rfl) (by kernel_rfl)) zM (by kernel_rfl)) (zA (i := 1) (k := .local) (by kernel_rfl) (by kernel_rfl) (by kernel_rfl))) (fun _ => rfl) (fun _ _ => rfl) (fun _ => rfl))
  zD) (fun _ _ => rfl))
  zD) zD)
  (zB (sims_comp (j := 2) (by kernel_rfl) (xK (zJ (zA (i := 0) (k := .local) (by kernel_rfl) (by kernel_rfl) (by kernel_rfl)) zM (by kernel_rfl))) (xW (i := 1) (by kernel_rfl)) simts_nil (xX (Args.sim (.cons (zJ (zA (i := 1) (k := .local) (by kernel_rfl) (by kernel_rfl) (by kernel_rfl)) zM (by kernel_rfl)) (fun _ => rfl) (.cons (zJ (zA (i := 1) (k := .local) (by kernel_rfl) (by kernel_rfl) (by kernel_rfl)) zM (by kernel_rfl)) (fun _ => rfl) .nil))) (by decide)) (by kernel_rfl) (fun _ _ => rfl) (fun env h => by cases env; cases h; kernel_rfl))
  (zB (wR (xK (zS (.cons (zA (i := 2) (k := .local) (by kernel_rfl) (by kernel_rfl) (by kernel_rfl)) (fun _ => rfl) (.cons (sim_globF (i := 7) (k := 0) (by kernel_rfl) x_g_is_lost_key (by kernel_rfl)) (fun _ => rfl) (.cons (sim_globF (i := 5) (k := 1) (by kernel_rfl) x_g_is_lost_value (by kernel_rfl)) (fun _ => rfl) .nil))) (F_lost_entries.mono (by decide)) (i := 6) (by kernel_rfl) x_g_lost_entries x_k_lost_entries (by kernel_rfl))) (zH (i := 3) (k := .local) (by kernel_rfl) (.inl rfl)) (zB (yH (yN (zA (i := 0) (k := .local) (by kernel_rfl) (by kernel_rfl) (by kernel_rfl)) (.cons (zA (i := 3) (k := .local) (by kernel_rfl) (by kernel_rfl) (by kernel_rfl)) (fun _ => rfl) .nil) (F_bury.mono (by decide)) (zM _) x_m_bury x_t_bury x_k_bury (by decide +kernel) (fun _ => rfl)) (fun _ => rfl))
  zD) (fun _ _ => rfl))
  zD)))

theorem F_without : yU (GP b) 1 (.ref 834) f_without :=
  zZ x_l_without (by kernel_rfl) (by kernel_rfl) (by kernel_rfl) (fun _ _ _ _ _ _ _ _ => by kernel_rfl)
  (zB (zP (wT (xK (zA (i := 0) (k := .local) (by kernel_rfl) (by kernel_rfl) (by kernel_rfl))) (xW (i := 1) (by kernel_rfl)) (simts_one (zO (zJ (zA (i := 1) (k := .local) (by kernel_rfl) (by kernel_rfl) (by kernel_rfl)) zM (by kernel_rfl)) (zJ (zA (i := 2) (k := .cell) (by kernel_rfl) (by kernel_rfl) (by kernel_rfl)) zM (by kernel_rfl)) cmp_ne)) (zA (i := 1) (k := .local) (by kernel_rfl) (by kernel_rfl) (by kernel_rfl)) (by kernel_rfl) (fun _ _ => rfl)))
  zD)

theorem F__law_sack : yU (GP b) 1 (.ref 839) f__law_sack :=
  zZ x_l__law_sack (by kernel_rfl) (by kernel_rfl) (by kernel_rfl) (fun _ _ _ _ _ _ _ => by kernel_rfl)
  (zB (sims_comp (j := 1) (by kernel_rfl) (xK (sim_head (zA (i := 0) (k := .local) (by kernel_rfl) (by kernel_rfl) (by kernel_rfl)) zK)) (xW (i := 1) (by kernel_rfl)) simts_nil (sim_abs (zA (i := 1) (k := .local) (by kernel_rfl) (by kernel_rfl) (by kernel_rfl)) (fun _ => rfl) (i := 2) (by kernel_rfl) x_b_abs) (by kernel_rfl) (fun _ _ => rfl) (fun env h => by cases env; cases h; kernel_rfl))
  (zB (zP (xE (Args.sim (.cons (zA (i := 1) (k := .local) (by kernel_rfl) (by kernel_rfl) (by kernel_rfl)) (fun _ => rfl) (.cons (zU (sim_sum (zA (i := 1) (k := .local) (by kernel_rfl) (by kernel_rfl) (by kernel_rfl)) (fun _ => rfl) (i := 2) (by kernel_rfl) x_b_sum) zK rfl) (fun _ => rfl) (.cons zK (fun _ => rfl) .nil))))))
  zD))

theorem jI : yU (GP b) 1 (.ref 846) yG :=
  zZ x_l__law_drawn (by kernel_rfl) (by kernel_rfl) (by kernel_rfl) (fun _ _ _ _ _ _ _ _ => by kernel_rfl)
  (zB (zF (yI (zA (i := 0) (k := .local) (by kernel_rfl) (by kernel_rfl) (by kernel_rfl)) zK) (zH (i := 2) (k := .local) (by kernel_rfl) (.inl rfl)) (fun _ => rfl) (fun _ _ => rfl) (fun _ => rfl))
  (zB (zF (zU (zA (i := 2) (k := .local) (by kernel_rfl) (by kernel_rfl) (by kernel_rfl)) zK rfl) (sima_item (zA (i := 0) (k := .local) (by kernel_rfl) (by kernel_rfl) (by kernel_rfl)) zK) (fun _ => rfl) (fun _ _ => rfl) (fun _ => rfl))
  (zB (zP (zU (sim_ite (zO (zA (i := 2) (k := .local) (by kernel_rfl) (by kernel_rfl) (by kernel_rfl)) (xC (yI (zA (i := 0) (k := .local) (by kernel_rfl) (by kernel_rfl) (by kernel_rfl)) zK) (fun _ => rfl) (i := 3) (by kernel_rfl) xB) cmp_lt) (yI (yI (zA (i := 0) (k := .local) (by kernel_rfl) (by kernel_rfl) (by kernel_rfl)) zK) (zA (i := 2) (k := .local) (by kernel_rfl) (by kernel_rfl) (by kernel_rfl))) (zU (zU (yI (zA (i := 0) (k := .local) (by kernel_rfl) (by kernel_rfl) (by kernel_rfl)) zK) (zU zK (zA (i := 2) (k := .local) (by kernel_rfl) (by kernel_rfl) (by kernel_rfl)) rfl) rfl) (zU (zA (i := 2) (k := .local) (by kernel_rfl) (by kernel_rfl) (by kernel_rfl)) zK rfl) rfl)) (zA (i := 1) (k := .local) (by kernel_rfl) (by kernel_rfl) (by kernel_rfl)) rfl))
  zD)))

theorem F__law_objects : yU (GP b) 8 (.ref 853) f__law_objects :=
  zZ x_l__law_objects (by kernel_rfl) (by kernel_rfl) (by kernel_rfl) (fun _ _ _ _ _ _ _ => by kernel_rfl)
  (zB (zF (xE (Args.sim (.cons (sim_new (.cons zK (fun _ => rfl) (.cons zK (fun _ => rfl) (.cons zK (fun _ => rfl) .nil))) (F_Table_init.mono (by decide)) (i := 4) (by kernel_rfl) x_g_Table x_k_Table (by kernel_rfl) (x_mks _) x_in_Table x_t_Table_init) (fun _ => rfl) (.cons (sim_new (.cons zK (fun _ => rfl) (.cons zK (fun _ => rfl) (.cons zK (fun _ => rfl) .nil))) (F_Table_init.mono (by decide)) (i := 4) (by kernel_rfl) x_g_Table x_k_Table (by kernel_rfl) (x_mks _) x_in_Table x_t_Table_init) (fun _ => rfl) (.cons (sim_new (.cons (sim_str (by kernel_rfl)) (fun _ => rfl) (.cons yA (fun _ => rfl) (.cons yA (fun _ => rfl) .nil))) (F_Userdata_init.mono (by decide)) (i := 5) (by kernel_rfl) x_g_Userdata x_k_Userdata (by kernel_rfl) (x_mks _) x_in_Userdata x_t_Userdata_init) (fun _ => rfl) (.cons (sim_new (.cons (sim_str (by kernel_rfl)) (fun _ => rfl) (.cons yA (fun _ => rfl) (.cons yA (fun _ => rfl) .nil))) (F_Userdata_init.mono (by decide)) (i := 5) (by kernel_rfl) x_g_Userdata x_k_Userdata (by kernel_rfl) (x_mks _) x_in_Userdata x_t_Userdata_init) (fun _ => rfl) .nil)))))) (zH (i := 1) (k := .local) (by kernel_rfl) (.inl rfl)) (fun _ => rfl) (fun _ _ => rfl) (fun _ => rfl))
  (zB (zF (zU (zA (i := 1) (k := .local) (by kernel_rfl) (by kernel_rfl) (by kernel_rfl)) (xE (Args.sim (.cons (sim_new (.cons yA (fun _ => rfl) (.cons xA (fun _ => rfl) (.cons (xE (Args.sim .nil)) (fun _ => rfl) (.cons yA (fun _ => rfl) .nil)))) (F_PyClosure_init.mono (by decide)) (i := 6) (by kernel_rfl) x_g_PyClosure x_k_PyClosure (by kernel_rfl) (x_mks _) x_in_PyClosure x_t_PyClosure_init) (fun _ => rfl) (.cons (sim_new (.cons yA (fun _ => rfl) (.cons xA (fun _ => rfl) (.cons (xE (Args.sim .nil)) (fun _ => rfl) (.cons yA (fun _ => rfl) .nil)))) (F_PyClosure_init.mono (by decide)) (i := 6) (by kernel_rfl) x_g_PyClosure x_k_PyClosure (by kernel_rfl) (x_mks _) x_in_PyClosure x_t_PyClosure_init) (fun _ => rfl) .nil)))) rfl) (zH (i := 1) (k := .local) (by kernel_rfl) (.inl rfl)) (fun _ => rfl) (fun _ _ => rfl) (fun _ => rfl))
  (zB (wR (sim_enum (zA (i := 1) (k := .local) (by kernel_rfl) (by kernel_rfl) (by kernel_rfl)) (fun _ => rfl) (i := 7) (by kernel_rfl) x_b_enumerate) (sima_tup (.cons (zH (i := 2) (k := .local) (by kernel_rfl) (.inl rfl)) (fun _ => rfl) (.cons (zH (i := 3) (k := .local) (by kernel_rfl) (.inl rfl)) (fun _ => rfl) .nil))) (zB (zF (xX (Args.sim (.cons (zU zK (zA (i := 2) (k := .local) (by kernel_rfl) (by kernel_rfl) (by kernel_rfl)) rfl) (fun _ => rfl) (.cons (yI (xE (Args.sim (.cons zK (fun _ => rfl) (.cons zK (fun _ => rfl) (.cons (yL (i := 8) (by kernel_rfl) x_i_GREY (by kernel_rfl)) (fun _ => rfl) (.cons (yL (i := 9) (by kernel_rfl) x_i_BLACK (by kernel_rfl)) (fun _ => rfl) .nil)))))) (zS (.cons (zA (i := 0) (k := .local) (by kernel_rfl) (by kernel_rfl) (by kernel_rfl)) (fun _ => rfl) (.cons zK (fun _ => rfl) .nil)) (jI.mono (by decide)) (i := 10) (by kernel_rfl) wI wH (by kernel_rfl))) (fun _ => rfl) .nil))) (by decide)) (sima_tup (.cons (zV (zA (i := 3) (k := .local) (by kernel_rfl) (by kernel_rfl) (by kernel_rfl)) zM (by kernel_rfl)) (fun _ => rfl) (.cons (zV (zA (i := 3) (k := .local) (by kernel_rfl) (by kernel_rfl) (by kernel_rfl)) zM (by kernel_rfl)) (fun _ => rfl) .nil))) (fun _ => rfl) (fun env h => by cases env; cases h; kernel_rfl) (fun _ => rfl))
  (zB (zT (yS (xI (zA (i := 3) (k := .local) (by kernel_rfl) (by kernel_rfl) (by kernel_rfl)) x_kit (i := 11) (by kernel_rfl) zY (wA (i := 5) (by kernel_rfl) x_g_Userdata (by kernel_rfl)) x_ty_Userdata (fun _ => rfl) (fun _ => rfl))) (zB (zF (sim_cmp (zS (.cons (zA (i := 0) (k := .local) (by kernel_rfl) (by kernel_rfl) (by kernel_rfl)) (fun _ => rfl) (.cons zK (fun _ => rfl) .nil)) (jI.mono (by decide)) (i := 10) (by kernel_rfl) wI wH (by kernel_rfl)) zK cmp_eq) (zV (zA (i := 3) (k := .local) (by kernel_rfl) (by kernel_rfl) (by kernel_rfl)) zM (by kernel_rfl)) (fun _ => rfl) (fun _ _ => rfl) (fun _ => rfl))
  zD) zD)
  zD)) (fun _ _ => rfl))
  (zB (zP (zA (i := 1) (k := .local) (by kernel_rfl) (by kernel_rfl) (by kernel_rfl)))
  zD))))

theorem F__law_meta : yU (GP b) 10 (.ref 858) f__law_meta :=
  zZ x_l__law_meta (by kernel_rfl) (by kernel_rfl) (by kernel_rfl) (fun _ _ _ _ _ _ _ => by kernel_rfl)
  (zB (zF (zS (.cons (zA (i := 0) (k := .local) (by kernel_rfl) (by kernel_rfl) (by kernel_rfl)) (fun _ => rfl) (.cons zK (fun _ => rfl) .nil)) (jI.mono (by decide)) (i := 4) (by kernel_rfl) wI wH (by kernel_rfl)) (zH (i := 1) (k := .cell) (by kernel_rfl) (.inr rfl)) (fun _ => rfl) (fun _ _ => rfl) (fun _ => rfl))
  (zB (zT (zO (zA (i := 1) (k := .cell) (by kernel_rfl) (by kernel_rfl) (by kernel_rfl)) zK cmp_eq) (zB (zP (xX (Args.sim (.cons yA (fun _ => rfl) (.cons (sim_str (by kernel_rfl)) (fun _ => rfl) .nil))) (by decide)))
  zD) zD)
  (zB (zF (xX (Args.sim (.cons (sim_new (.cons zK (fun _ => rfl) (.cons zK (fun _ => rfl) (.cons zK (fun _ => rfl) .nil))) (F_Table_init.mono (by decide)) (i := 5) (by kernel_rfl) x_g_Table x_k_Table (by kernel_rfl) (x_mks _) x_in_Table x_t_Table_init) (fun _ => rfl) (.cons (xE (Args.sim (.cons xA (fun _ => rfl) (.cons xA (fun _ => rfl) (.cons xA (fun _ => rfl) (.cons xA (fun _ => rfl) (.cons xA (fun _ => rfl) (.cons zK (fun _ => rfl) .nil)))))))) (fun _ => rfl) .nil))) (by decide)) (sima_tup (.cons (zH (i := 2) (k := .local) (by kernel_rfl) (.inl rfl)) (fun _ => rfl) (.cons (zH (i := 3) (k := .cell) (by kernel_rfl) (.inr rfl)) (fun _ => rfl) .nil))) (fun _ => rfl) (fun env h => by cases env; cases h; kernel_rfl) (fun _ => rfl))
  (zB (yH (yN (zA (i := 2) (k := .local) (by kernel_rfl) (by kernel_rfl) (by kernel_rfl)) (.cons xA (fun _ => rfl) (.cons (yI (zA (i := 3) (k := .cell) (by kernel_rfl) (by kernel_rfl) (by kernel_rfl)) (zA (i := 1) (k := .cell) (by kernel_rfl) (by kernel_rfl) (by kernel_rfl))) (fun _ => rfl) (.cons yA (fun _ => rfl) .nil))) (F_set1.mono (by decide)) (zM _) x_m_set x_t_set x_k_set (by decide +kernel) (fun _ => rfl)) (fun _ => rfl))
  (zB (zP (xX (Args.sim (.cons (zA (i := 2) (k := .local) (by kernel_rfl) (by kernel_rfl) (by kernel_rfl)) (fun _ => rfl) (.cons (sim_join (by kernel_rfl) (wT (xK (sim_str (by kernel_rfl))) (xW (i := 1) (by kernel_rfl)) (simts_one (simt_and (yS (xI (yI (zA (i := 6) (k := .cell) (by kernel_rfl) (by kernel_rfl) (by kernel_rfl)) (zA (i := 5) (k := .cell) (by kernel_rfl) (by kernel_rfl) (by kernel_rfl))) x_kit (i := 2) (by kernel_rfl) zY (tyn_bui (i := 3) (by kernel_rfl) x_b_bytes (by decide +kernel) (by decide) (by kernel_rfl)) x_ty_bytes (fun _ => rfl) (fun _ => rfl))) (zO (sim_ord (zA (i := 1) (k := .local) (by kernel_rfl) (by kernel_rfl) (by kernel_rfl)) (fun _ => rfl) (i := 4) (by kernel_rfl) x_b_ord) (yI (zA (i := 6) (k := .cell) (by kernel_rfl) (by kernel_rfl) (by kernel_rfl)) (zA (i := 5) (k := .cell) (by kernel_rfl) (by kernel_rfl) (by kernel_rfl))) cmp_in))) (zA (i := 1) (k := .local) (by kernel_rfl) (by kernel_rfl) (by kernel_rfl)) (by kernel_rfl) (fun _ _ => rfl)) (fun _ => rfl) (fun _ => rfl)) (fun _ => rfl) .nil))) (by decide)))
  zD)))))

theorem F__law_number : yU (GP b) 1 (.ref 865) yK :=
  zZ x_l__law_number (by kernel_rfl) (by kernel_rfl) (by kernel_rfl) (fun _ _ _ _ _ _ _ => by kernel_rfl)
  (zB (zP (sim_ite (yS (xI (zA (i := 0) (k := .local) (by kernel_rfl) (by kernel_rfl) (by kernel_rfl)) x_kit (i := 1) (by kernel_rfl) zY (wA (i := 2) (by kernel_rfl) wJ (by kernel_rfl)) x_ty_HeapObject (fun _ => rfl) (fun _ => rfl))) (xX (Args.sim (.cons (sim_str (by kernel_rfl)) (fun _ => rfl) (.cons (zJ (zA (i := 0) (k := .local) (by kernel_rfl) (by kernel_rfl) (by kernel_rfl)) zM (by kernel_rfl)) (fun _ => rfl) .nil))) (by decide)) (xX (Args.sim (.cons (sim_str (by kernel_rfl)) (fun _ => rfl) (.cons (sim_repr (zA (i := 0) (k := .local) (by kernel_rfl) (by kernel_rfl) (by kernel_rfl)) (fun _ => rfl) (i := 3) (by kernel_rfl) x_b_repr) (fun _ => rfl) .nil))) (by decide))))
  zD)

theorem F__law_is_lost : yU (GP b) 1 (.ref 872) yC :=
  zZ x_l__law_is_lost (by kernel_rfl) (by kernel_rfl) (by kernel_rfl) (fun _ _ _ _ _ _ _ _ => by kernel_rfl)
  (zB (zT (simt_not (yS (xI (zA (i := 0) (k := .local) (by kernel_rfl) (by kernel_rfl) (by kernel_rfl)) x_kit (i := 2) (by kernel_rfl) zY (wA (i := 3) (by kernel_rfl) wJ (by kernel_rfl)) x_ty_HeapObject (fun _ => rfl) (fun _ => rfl)))) (zB (zP xQ)
  zD) zD)
  (zB (zP (sim_or (sim_cmp (zJ (zA (i := 0) (k := .local) (by kernel_rfl) (by kernel_rfl) (by kernel_rfl)) zM (by kernel_rfl)) (yL (i := 4) (by kernel_rfl) x_i_GREY (by kernel_rfl)) cmp_lt) (sim_and3 (sim_not (zA (i := 1) (k := .local) (by kernel_rfl) (by kernel_rfl) (by kernel_rfl))) (sim_and (xI (zA (i := 0) (k := .local) (by kernel_rfl) (by kernel_rfl) (by kernel_rfl)) x_kit (i := 2) (by kernel_rfl) zY (wA (i := 5) (by kernel_rfl) x_g_Userdata (by kernel_rfl)) x_ty_Userdata (fun _ => rfl) (fun _ => rfl)) (zJ (zA (i := 0) (k := .local) (by kernel_rfl) (by kernel_rfl) (by kernel_rfl)) zM (by kernel_rfl))))))
  zD))

theorem F__law_kept : yU (GP b) 1 (.ref 877) f__law_kept :=
  zZ x_l__law_kept (by kernel_rfl) (by kernel_rfl) (by kernel_rfl) (fun _ _ _ _ _ _ _ _ _ => by kernel_rfl)
  (zB (zF (sim_ite (zO (zJ (zA (i := 0) (k := .local) (by kernel_rfl) (by kernel_rfl) (by kernel_rfl)) zM (by kernel_rfl)) yA cmp_is) (xE (Args.sim .nil)) (xE (Args.sim (.cons (zJ (zA (i := 0) (k := .local) (by kernel_rfl) (by kernel_rfl) (by kernel_rfl)) zM (by kernel_rfl)) (fun _ => rfl) .nil)))) (zH (i := 3) (k := .local) (by kernel_rfl) (.inl rfl)) (fun _ => rfl) (fun _ _ => rfl) (fun _ => rfl))
  (zB (wR (xK (zA (i := 1) (k := .local) (by kernel_rfl) (by kernel_rfl) (by kernel_rfl))) (sima_tup (.cons (zH (i := 4) (k := .local) (by kernel_rfl) (.inl rfl)) (fun _ => rfl) (.cons (zH (i := 5) (k := .local) (by kernel_rfl) (.inl rfl)) (fun _ => rfl) .nil))) (zB (zF (sim_and (xI (zA (i := 4) (k := .local) (by kernel_rfl) (by kernel_rfl) (by kernel_rfl)) x_kit (i := 7) (by kernel_rfl) zY (tyn_bui (i := 8) (by kernel_rfl) x_b_int (by decide +kernel) (by decide) (by kernel_rfl)) x_ty_int (fun _ => rfl) (fun _ => rfl)) (sim_cmp (zA (i := 4) (k := .local) (by kernel_rfl) (by kernel_rfl) (by kernel_rfl)) zK cmp_lt)) (zH (i := 6) (k := .local) (by kernel_rfl) (.inl rfl)) (fun _ => rfl) (fun _ _ => rfl) (fun _ => rfl))
  (zB (zT (simt_and (simt_not (yS (zA (i := 6) (k := .local) (by kernel_rfl) (by kernel_rfl) (by kernel_rfl)))) (zO (sim_str (by kernel_rfl)) (zA (i := 2) (k := .local) (by kernel_rfl) (by kernel_rfl) (by kernel_rfl)) cmp_notin)) (zB (yH (sim_append (zA (i := 3) (k := .local) (by kernel_rfl) (by kernel_rfl) (by kernel_rfl)) (zA (i := 4) (k := .local) (by kernel_rfl) (by kernel_rfl) (by kernel_rfl)) (fun _ => rfl) (fun _ => rfl)) (fun _ => rfl))
  zD) zD)
  (zB (zT (zO (sim_str (by kernel_rfl)) (zA (i := 2) (k := .local) (by kernel_rfl) (by kernel_rfl) (by kernel_rfl)) cmp_notin) (zB (yH (sim_append (zA (i := 3) (k := .local) (by kernel_rfl) (by kernel_rfl) (by kernel_rfl)) (zA (i := 5) (k := .local) (by kernel_rfl) (by kernel_rfl) (by kernel_rfl)) (fun _ => rfl) (fun _ => rfl)) (fun _ => rfl))
  zD) zD)
  zD))) (fun _ _ => rfl))
  (zB (zP (sim_sorted (wT (xK (zA (i := 3) (k := .local) (by kernel_rfl) (by kernel_rfl) (by kernel_rfl))) (xW (i := 1) (by kernel_rfl)) (simts_one (yS (xI (zA (i := 1) (k := .local) (by kernel_rfl) (by kernel_rfl) (by kernel_rfl)) x_kit (i := 2) (by kernel_rfl) zY (wA (i := 3) (by kernel_rfl) wJ (by kernel_rfl)) x_ty_HeapObject (fun _ => rfl) (fun _ => rfl)))) (zJ (zA (i := 1) (k := .local) (by kernel_rfl) (by kernel_rfl) (by kernel_rfl)) zM (by kernel_rfl)) (by kernel_rfl) (fun _ _ => rfl)) (fun _ => rfl) (i := 9) (by kernel_rfl) x_b_sorted))
  zD)))

theorem F__law_walked : yU (GP b) 5 (.ref 884) f__law_walked :=
  zZ x_l__law_walked (by kernel_rfl) (by kernel_rfl) (by kernel_rfl) (fun _ _ _ _ _ _ _ => by kernel_rfl)
  (zB (sims_swap (i := 1) (j := 2) (by kernel_rfl) (by kernel_rfl) (by decide) (xX (Args.sim (.cons (xE (Args.sim .nil)) (fun _ => rfl) (.cons yA (fun _ => rfl) .nil))) (by decide)) (fun _ => rfl) (fun env h => by cases env; cases h; kernel_rfl))
  (zB (wR (sim_rng1 zK (fun _ => rfl) (i := 5) (by kernel_rfl) x_b_range) (zH (i := 3) (k := .local) (by kernel_rfl) (.inl rfl)) (zB (zF (yN (zA (i := 0) (k := .local) (by kernel_rfl) (by kernel_rfl) (by kernel_rfl)) (.cons (zA (i := 2) (k := .local) (by kernel_rfl) (by kernel_rfl) (by kernel_rfl)) (fun _ => rfl) .nil) (F_next.mono (by decide)) (zM _) x_m_next x_t_next x_k_next (by decide +kernel) (fun _ => rfl)) (zH (i := 4) (k := .local) (by kernel_rfl) (.inl rfl)) (fun _ => rfl) (fun _ _ => rfl) (fun _ => rfl))
  (zB (zT (zO (zA (i := 4) (k := .local) (by kernel_rfl) (by kernel_rfl) (by kernel_rfl)) yA cmp_is) (zB (zP (zA (i := 1) (k := .local) (by kernel_rfl) (by kernel_rfl) (by kernel_rfl)))
  zD) zD)
  (zB (zF (yI (zA (i := 4) (k := .local) (by kernel_rfl) (by kernel_rfl) (by kernel_rfl)) zK) (zH (i := 2) (k := .local) (by kernel_rfl) (.inl rfl)) (fun _ => rfl) (fun _ _ => rfl) (fun _ => rfl))
  (zB (yH (sim_append (zA (i := 1) (k := .local) (by kernel_rfl) (by kernel_rfl) (by kernel_rfl)) (xX (Args.sim (.cons (zS (.cons (zA (i := 2) (k := .local) (by kernel_rfl) (by kernel_rfl) (by kernel_rfl)) (fun _ => rfl) .nil) (F__law_number.mono (by decide)) (i := 6) (by kernel_rfl) jE jD (by kernel_rfl)) (fun _ => rfl) (.cons (zS (.cons (yI (zA (i := 4) (k := .local) (by kernel_rfl) (by kernel_rfl) (by kernel_rfl)) zK) (fun _ => rfl) .nil) (F__law_number.mono (by decide)) (i := 6) (by kernel_rfl) jE jD (by kernel_rfl)) (fun _ => rfl) .nil))) (by decide)) (fun _ => rfl) (fun _ => rfl)) (fun _ => rfl))
  zD)))) (fun _ _ => rfl))
  (zB (zP yA)
  zD)))

theorem F__law_lists_right : yU (GP b) 5 (.ref 889) f__law_lists_right :=
  zZ x_l__law_lists_right (by kernel_rfl) (by kernel_rfl) (by kernel_rfl) (fun _ _ _ _ _ _ _ _ => by kernel_rfl)
  (zB (zF (zU (wT (sim_rng1 (zS (.cons (zA (i := 1) (k := .cell) (by kernel_rfl) (by kernel_rfl) (by kernel_rfl)) (fun _ => rfl) (.cons zK (fun _ => rfl) .nil)) (jI.mono (by decide)) (i := 5) (by kernel_rfl) wI wH (by kernel_rfl)) (fun _ => rfl) (i := 4) (by kernel_rfl) x_b_range) (xW (i := 1) (by kernel_rfl)) simts_nil (yI (zA (i := 3) (k := .cell) (by kernel_rfl) (by kernel_rfl) (by kernel_rfl)) (zS (.cons (zA (i := 4) (k := .cell) (by kernel_rfl) (by kernel_rfl) (by kernel_rfl)) (fun _ => rfl) (.cons zK (fun _ => rfl) .nil)) (jI.mono (by decide)) (i := 2) (by kernel_rfl) wI wH (by kernel_rfl))) (by kernel_rfl) (fun _ _ => rfl)) (xE (Args.sim (.cons (sim_str (by kernel_rfl)) (fun _ => rfl) (.cons zK (fun _ => rfl) .nil)))) rfl) (zH (i := 2) (k := .local) (by kernel_rfl) (.inl rfl)) (fun _ => rfl) (fun _ _ => rfl) (fun _ => rfl))
  (zB (zT (zO (zS (.cons (zA (i := 2) (k := .local) (by kernel_rfl) (by kernel_rfl) (by kernel_rfl)) (fun _ => rfl) (.cons (sim_globF (i := 7) (k := 1) (by kernel_rfl) x_g_is_lost_value (by kernel_rfl)) (fun _ => rfl) .nil)) (F_lost_places.mono (by decide)) (i := 6) (by kernel_rfl) x_g_lost_places x_k_lost_places (by kernel_rfl)) (wT (sim_enum (zA (i := 2) (k := .local) (by kernel_rfl) (by kernel_rfl) (by kernel_rfl)) (fun _ => rfl) (i := 8) (by kernel_rfl) x_b_enumerate) (simal_two (i := 1) (j := 2) (by kernel_rfl) (by kernel_rfl)) (simts_one (yS (zS (.cons (zA (i := 2) (k := .local) (by kernel_rfl) (by kernel_rfl) (by kernel_rfl)) (fun _ => rfl) (.cons xQ (fun _ => rfl) .nil)) (F__law_is_lost.mono (by decide)) (i := 3) (by kernel_rfl) jQ jP (by kernel_rfl)))) (zA (i := 1) (k := .local) (by kernel_rfl) (by kernel_rfl) (by kernel_rfl)) (by kernel_rfl) (fun _ _ => rfl)) cmp_ne) (zB (zP xQ)
  zD) zD)
  (zB (zF (yI (zA (i := 0) (k := .cell) (by kernel_rfl) (by kernel_rfl) (by kernel_rfl)) (zS (.cons (zA (i := 1) (k := .cell) (by kernel_rfl) (by kernel_rfl) (by kernel_rfl)) (fun _ => rfl) (.cons zK (fun _ => rfl) .nil)) (jI.mono (by decide)) (i := 5) (by kernel_rfl) wI wH (by kernel_rfl))) (zH (i := 3) (k := .cell) (by kernel_rfl) (.inr rfl)) (fun _ => rfl) (fun _ _ => rfl) (fun _ => rfl))
  (zB (zP (sim_cmp (wT (xK (zS (.cons (zA (i := 0) (k := .cell) (by kernel_rfl) (by kernel_rfl) (by kernel_rfl)) (fun _ => rfl) (.cons (zA (i := 3) (k := .cell) (by kernel_rfl) (by kernel_rfl) (by kernel_rfl)) (fun _ => rfl) .nil)) (F_without.mono (by decide)) (i := 9) (by kernel_rfl) x_g_without x_k_without (by kernel_rfl))) (xW (i := 1) (by kernel_rfl)) simts_nil (zJ (zA (i := 1) (k := .local) (by kernel_rfl) (by kernel_rfl) (by kernel_rfl)) zM (by kernel_rfl)) (by kernel_rfl) (fun _ _ => rfl)) (wT (xK (zA (i := 0) (k := .cell) (by kernel_rfl) (by kernel_rfl) (by kernel_rfl))) (xW (i := 1) (by kernel_rfl)) (simts_one (zO (zJ (zA (i := 1) (k := .local) (by kernel_rfl) (by kernel_rfl) (by kernel_rfl)) zM (by kernel_rfl)) (zJ (zA (i := 2) (k := .cell) (by kernel_rfl) (by kernel_rfl) (by kernel_rfl)) zM (by kernel_rfl)) cmp_ne)) (zJ (zA (i := 1) (k := .local) (by kernel_rfl) (by kernel_rfl) (by kernel_rfl)) zM (by kernel_rfl)) (by kernel_rfl) (fun _ _ => rfl)) cmp_eq))
  zD))))

theorem F_law : yU (GP b) 11 (.ref 894) f_law :=
  zZ x_l_law (by kernel_rfl) (by kernel_rfl) (by kernel_rfl) (fun _ _ _ _ _ _ _ => by kernel_rfl)
  (zB (zF (zS (.cons (zA (i := 0) (k := .local) (by kernel_rfl) (by kernel_rfl) (by kernel_rfl)) (fun _ => rfl) .nil) (F__law_sack.mono (by decide)) (i := 15) (by kernel_rfl) x_g__law_sack x_k__law_sack (by kernel_rfl)) (zH (i := 1) (k := .local) (by kernel_rfl) (.inl rfl)) (fun _ => rfl) (fun _ _ => rfl) (fun _ => rfl))
  (zB (zF (xX (Args.sim (.cons (zS (.cons (zA (i := 1) (k := .local) (by kernel_rfl) (by kernel_rfl) (by kernel_rfl)) (fun _ => rfl) .nil) (F__law_meta.mono (by decide)) (i := 16) (by kernel_rfl) x_g__law_meta x_k__law_meta (by kernel_rfl)) (fun _ => rfl) (.cons (zS (.cons (zA (i := 1) (k := .local) (by kernel_rfl) (by kernel_rfl) (by kernel_rfl)) (fun _ => rfl) .nil) (F__law_objects.mono (by decide)) (i := 17) (by kernel_rfl) x_g__law_objects x_k__law_objects (by kernel_rfl)) (fun _ => rfl) .nil))) (by decide)) (sima_tup (.cons (sima_tup (.cons (zH (i := 2) (k := .local) (by kernel_rfl) (.inl rfl)) (fun _ => rfl) (.cons (zH (i := 3) (k := .local) (by kernel_rfl) (.inl rfl)) (fun _ => rfl) .nil))) (fun _ => rfl) (.cons (zH (i := 4) (k := .local) (by kernel_rfl) (.inl rfl)) (fun _ => rfl) .nil))) (fun _ => rfl) (fun env h => by cases env; cases h; kernel_rfl) (fun _ => rfl))
  (zB (zF (xX (Args.sim (.cons (sim_new (.cons zK (fun _ => rfl) (.cons zK (fun _ => rfl) (.cons zK (fun _ => rfl) .nil))) (F_Table_init.mono (by decide)) (i := 18) (by kernel_rfl) x_g_Table x_k_Table (by kernel_rfl) (x_mks _) x_in_Table x_t_Table_init) (fun _ => rfl) (.cons (xE (Args.sim .nil)) (fun _ => rfl) .nil))) (by decide)) (sima_tup (.cons (zH (i := 5) (k := .cell) (by kernel_rfl) (.inr rfl)) (fun _ => rfl) (.cons (zH (i := 6) (k := .local) (by kernel_rfl) (.inl rfl)) (fun _ => rfl) .nil))) (fun _ => rfl) (fun env h => by cases env; cases h; kernel_rfl) (fun _ => rfl))
  (zB (zF (zA (i := 2) (k := .local) (by kernel_rfl) (by kernel_rfl) (by kernel_rfl)) (zV (zA (i := 5) (k := .cell) (by kernel_rfl) (by kernel_rfl) (by kernel_rfl)) zM (by kernel_rfl)) (fun _ => rfl) (fun _ _ => rfl) (fun _ => rfl))
  (zB (zF (zU (xE (Args.sim (.cons xA (fun _ => rfl) (.cons zK (fun _ => rfl) (.cons xQ (fun _ => rfl) (.cons xA (fun _ => rfl) .nil)))))) (zA (i := 4) (k := .local) (by kernel_rfl) (by kernel_rfl) (by kernel_rfl)) rfl) (zH (i := 7) (k := .local) (by kernel_rfl) (.inl rfl)) (fun _ => rfl) (fun _ _ => rfl) (fun _ => rfl))
  (zB (wR (xK (zU (xE (Args.sim (.cons zK (fun _ => rfl) (.cons zK (fun _ => rfl) (.cons zK (fun _ => rfl) (.cons xA (fun _ => rfl) (.cons zK (fun _ => rfl) .nil))))))) (sim_rev (zA (i := 4) (k := .local) (by kernel_rfl) (by kernel_rfl) (by kernel_rfl)) fun _ _ => sim_neg zK) rfl)) (zH (i := 8) (k := .local) (by kernel_rfl) (.inl rfl)) (zB (zT (zO (zS (.cons (zA (i := 1) (k := .local) (by kernel_rfl) (by kernel_rfl) (by kernel_rfl)) (fun _ => rfl) (.cons zK (fun _ => rfl) .nil)) (jI.mono (by decide)) (i := 19) (by kernel_rfl) wI wH (by kernel_rfl)) zK cmp_gt) (zB (zF (yI (zA (i := 7) (k := .local) (by kernel_rfl) (by kernel_rfl) (by kernel_rfl)) (zS (.cons (zA (i := 1) (k := .local) (by kernel_rfl) (by kernel_rfl) (by kernel_rfl)) (fun _ => rfl) (.cons zK (fun _ => rfl) .nil)) (jI.mono (by decide)) (i := 19) (by kernel_rfl) wI wH (by kernel_rfl))) (zH (i := 9) (k := .local) (by kernel_rfl) (.inl rfl)) (fun _ => rfl) (fun _ _ => rfl) (fun _ => rfl))
  (zB (yH (yN (zA (i := 5) (k := .cell) (by kernel_rfl) (by kernel_rfl) (by kernel_rfl)) (.cons (zA (i := 8) (k := .local) (by kernel_rfl) (by kernel_rfl) (by kernel_rfl)) (fun _ => rfl) (.cons (zA (i := 9) (k := .local) (by kernel_rfl) (by kernel_rfl) (by kernel_rfl)) (fun _ => rfl) (.cons yA (fun _ => rfl) .nil))) (F_set1.mono (by decide)) (zM _) x_m_set x_t_set x_k_set (by decide +kernel) (fun _ => rfl)) (fun _ => rfl))
  (zB (yH (sim_append (zA (i := 6) (k := .local) (by kernel_rfl) (by kernel_rfl) (by kernel_rfl)) (xX (Args.sim (.cons (zA (i := 8) (k := .local) (by kernel_rfl) (by kernel_rfl) (by kernel_rfl)) (fun _ => rfl) (.cons (zA (i := 9) (k := .local) (by kernel_rfl) (by kernel_rfl) (by kernel_rfl)) (fun _ => rfl) .nil))) (by decide)) (fun _ => rfl) (fun _ => rfl)) (fun _ => rfl))
  zD))) zD)
  zD) (fun _ _ => rfl))
  (zB (zT (simt_or (zO (zS (.cons (zA (i := 5) (k := .cell) (by kernel_rfl) (by kernel_rfl) (by kernel_rfl)) (fun _ => rfl) .nil) (F_table_size.mono (by decide)) (i := 20) (by kernel_rfl) x_g_table_size x_k_table_size (by kernel_rfl)) (zU (zU zK (xC (zJ (zA (i := 5) (k := .cell) (by kernel_rfl) (by kernel_rfl) (by kernel_rfl)) zM (by kernel_rfl)) (fun _ => rfl) (i := 21) (by kernel_rfl) xB) rfl) (zU zK (xC (zJ (zA (i := 5) (k := .cell) (by kernel_rfl) (by kernel_rfl) (by kernel_rfl)) zM (by kernel_rfl)) (fun _ => rfl) (i := 21) (by kernel_rfl) xB) rfl) rfl) cmp_ne) (zO (xC (zJ (zA (i := 5) (k := .cell) (by kernel_rfl) (by kernel_rfl) (by kernel_rfl)) zM (by kernel_rfl)) (fun _ => rfl) (i := 21) (by kernel_rfl) xB) zK cmp_ne)) (zB (zP xQ)
  zD) zD)
  (zB (zT (simt_or (zO (sim_sorted (wT (xK (zS (.cons (zA (i := 5) (k := .cell) (by kernel_rfl) (by kernel_rfl) (by kernel_rfl)) (fun _ => rfl) .nil) (F_children_of.mono (by decide)) (i := 23) (by kernel_rfl) x_g_children_of x_k_children_of (by kernel_rfl))) (xW (i := 1) (by kernel_rfl)) simts_nil (zJ (zA (i := 1) (k := .local) (by kernel_rfl) (by kernel_rfl) (by kernel_rfl)) zM (by kernel_rfl)) (by kernel_rfl) (fun _ _ => rfl)) (fun _ => rfl) (i := 22) (by kernel_rfl) x_b_sorted) (zS (.cons (zA (i := 5) (k := .cell) (by kernel_rfl) (by kernel_rfl) (by kernel_rfl)) (fun _ => rfl) (.cons (zA (i := 6) (k := .local) (by kernel_rfl) (by kernel_rfl) (by kernel_rfl)) (fun _ => rfl) (.cons (zA (i := 3) (k := .local) (by kernel_rfl) (by kernel_rfl) (by kernel_rfl)) (fun _ => rfl) .nil))) (F__law_kept.mono (by decide)) (i := 24) (by kernel_rfl) x_g__law_kept x_k__law_kept (by kernel_rfl)) cmp_ne) (zO (zJ (zA (i := 5) (k := .cell) (by kernel_rfl) (by kernel_rfl) (by kernel_rfl)) zM (by kernel_rfl)) (sim_encode (by kernel_rfl) (zA (i := 3) (k := .local) (by kernel_rfl) (by kernel_rfl) (by kernel_rfl)) (fun _ => rfl) (fun _ => rfl)) cmp_ne)) (zB (zP xQ)
  zD) zD)
  (zB (zT (simt_or (zO (wT (xK (zA (i := 4) (k := .local) (by kernel_rfl) (by kernel_rfl) (by kernel_rfl))) (xW (i := 1) (by kernel_rfl)) simts_nil (zS (.cons (zA (i := 1) (k := .local) (by kernel_rfl) (by kernel_rfl) (by kernel_rfl)) (fun _ => rfl) (.cons xQ (fun _ => rfl) .nil)) (F__law_is_lost.mono (by decide)) (i := 2) (by kernel_rfl) jQ jP (by kernel_rfl)) (by kernel_rfl) (fun _ _ => rfl)) (wT (xK (zA (i := 4) (k := .local) (by kernel_rfl) (by kernel_rfl) (by kernel_rfl))) (xW (i := 1) (by kernel_rfl)) simts_nil (zS (.cons (zA (i := 1) (k := .local) (by kernel_rfl) (by kernel_rfl) (by kernel_rfl)) (fun _ => rfl) .nil) (F_is_lost_key.mono (by decide)) (i := 2) (by kernel_rfl) x_g_is_lost_key x_k_is_lost_key (by kernel_rfl)) (by kernel_rfl) (fun _ _ => rfl)) cmp_ne) (yS (zS (.cons xA (fun _ => rfl) .nil) (F_is_lost_key.mono (by decide)) (i := 25) (by kernel_rfl) x_g_is_lost_key x_k_is_lost_key (by kernel_rfl)))) (zB (zP xQ)
  zD) zD)
  (zB (yH (zS (.cons (zA (i := 5) (k := .cell) (by kernel_rfl) (by kernel_rfl) (by kernel_rfl)) (fun _ => rfl) .nil) (F_clear_table.mono (by decide)) (i := 26) (by kernel_rfl) x_g_clear_table x_k_clear_table (by kernel_rfl)) (fun _ => rfl))
  (zB (sims_swap (i := 10) (j := 11) (by kernel_rfl) (by kernel_rfl) (by decide) (xX (Args.sim (.cons (xE (Args.sim .nil)) (fun _ => rfl) (.cons (xE (Args.sim .nil)) (fun _ => rfl) .nil))) (by decide)) (fun _ => rfl) (fun env h => by cases env; cases h; kernel_rfl))
  (zB (wR (xK (zA (i := 6) (k := .local) (by kernel_rfl) (by kernel_rfl) (by kernel_rfl))) (sima_tup (.cons (zH (i := 8) (k := .local) (by kernel_rfl) (.inl rfl)) (fun _ => rfl) (.cons (zH (i := 9) (k := .local) (by kernel_rfl) (.inl rfl)) (fun _ => rfl) .nil))) (zB (zF (sim_and (xI (zA (i := 8) (k := .local) (by kernel_rfl) (by kernel_rfl) (by kernel_rfl)) x_kit (i := 27) (by kernel_rfl) zY (tyn_bui (i := 28) (by kernel_rfl) x_b_int (by decide +kernel) (by decide) (by kernel_rfl)) x_ty_int (fun _ => rfl) (fun _ => rfl)) (sim_cmp (zA (i := 8) (k := .local) (by kernel_rfl) (by kernel_rfl) (by kernel_rfl)) zK cmp_lt)) (zH (i := 12) (k := .local) (by kernel_rfl) (.inl rfl)) (fun _ => rfl) (fun _ _ => rfl) (fun _ => rfl))
  (zB (zF (sim_ite (yS (zA (i := 12) (k := .local) (by kernel_rfl) (by kernel_rfl) (by kernel_rfl))) (sim_and (sim_cmp (sim_str (by kernel_rfl)) (zA (i := 3) (k := .local) (by kernel_rfl) (by kernel_rfl) (by kernel_rfl)) cmp_in) (zS (.cons (zA (i := 9) (k := .local) (by kernel_rfl) (by kernel_rfl) (by kernel_rfl)) (fun _ => rfl) (.cons xQ (fun _ => rfl) .nil)) (F__law_is_lost.mono (by decide)) (i := 29) (by kernel_rfl) jQ jP (by kernel_rfl))) (sim_or (zS (.cons (zA (i := 8) (k := .local) (by kernel_rfl) (by kernel_rfl) (by kernel_rfl)) (fun _ => rfl) (.cons xQ (fun _ => rfl) .nil)) (F__law_is_lost.mono (by decide)) (i := 29) (by kernel_rfl) jQ jP (by kernel_rfl)) (zS (.cons (zA (i := 9) (k := .local) (by kernel_rfl) (by kernel_rfl) (by kernel_rfl)) (fun _ => rfl) (.cons xQ (fun _ => rfl) .nil)) (F__law_is_lost.mono (by decide)) (i := 29) (by kernel_rfl) jQ jP (by kernel_rfl)))) (zH (i := 13) (k := .local) (by kernel_rfl) (.inl rfl)) (fun _ => rfl) (fun _ _ => rfl) (fun _ => rfl))
  (zB (yH (sim_append (sim_ite (yS (zA (i := 13) (k := .local) (by kernel_rfl) (by kernel_rfl) (by kernel_rfl))) (zA (i := 11) (k := .local) (by kernel_rfl) (by kernel_rfl) (by kernel_rfl)) (zA (i := 10) (k := .local) (by kernel_rfl) (by kernel_rfl) (by kernel_rfl))) (xX (Args.sim (.cons (zA (i := 8) (k := .local) (by kernel_rfl) (by kernel_rfl) (by kernel_rfl)) (fun _ => rfl) (.cons (zA (i := 9) (k := .local) (by kernel_rfl) (by kernel_rfl) (by kernel_rfl)) (fun _ => rfl) .nil))) (by decide)) (fun _ => rfl) (fun _ => rfl)) (fun _ => rfl))
  zD))) (fun _ _ => rfl))
  (zB (zT (zO (wT (xK (zA (i := 11) (k := .local) (by kernel_rfl) (by kernel_rfl) (by kernel_rfl))) (simal_two (i := 1) (j := 2) (by kernel_rfl) (by kernel_rfl)) (simts_one (zO (yN (zA (i := 3) (k := .cell) (by kernel_rfl) (by kernel_rfl) (by kernel_rfl)) (.cons (zA (i := 1) (k := .local) (by kernel_rfl) (by kernel_rfl) (by kernel_rfl)) (fun _ => rfl) .nil) (F_get.mono (by decide)) (zM _) x_m_get x_t_get x_k_get (by decide +kernel) (fun _ => rfl)) yA jA)) (zA (i := 1) (k := .local) (by kernel_rfl) (by kernel_rfl) (by kernel_rfl)) (by kernel_rfl) (fun _ _ => rfl)) (xE (Args.sim .nil)) cmp_ne) (zB (zP xQ)
  zD) zD)
  (zB (zT (zO (sim_sorted (zS (.cons (zA (i := 5) (k := .cell) (by kernel_rfl) (by kernel_rfl) (by kernel_rfl)) (fun _ => rfl) .nil) (F__law_walked.mono (by decide)) (i := 30) (by kernel_rfl) x_g__law_walked x_k__law_walked (by kernel_rfl)) (fun _ => rfl) (i := 22) (by kernel_rfl) x_b_sorted) (sim_sorted (wT (xK (zA (i := 10) (k := .local) (by kernel_rfl) (by kernel_rfl) (by kernel_rfl))) (simal_two (i := 1) (j := 2) (by kernel_rfl) (by kernel_rfl)) simts_nil (xX (Args.sim (.cons (zS (.cons (zA (i := 1) (k := .local) (by kernel_rfl) (by kernel_rfl) (by kernel_rfl)) (fun _ => rfl) .nil) (F__law_number.mono (by decide)) (i := 3) (by kernel_rfl) jE jD (by kernel_rfl)) (fun _ => rfl) (.cons (zS (.cons (zA (i := 2) (k := .local) (by kernel_rfl) (by kernel_rfl) (by kernel_rfl)) (fun _ => rfl) .nil) (F__law_number.mono (by decide)) (i := 3) (by kernel_rfl) jE jD (by kernel_rfl)) (fun _ => rfl) .nil))) (by decide)) (by kernel_rfl) (fun _ _ => rfl)) (fun _ => rfl) (i := 22) (by kernel_rfl) x_b_sorted) cmp_ne) (zB (zP xQ)
  zD) zD)
  (zB (wR (xK (zA (i := 11) (k := .local) (by kernel_rfl) (by kernel_rfl) (by kernel_rfl))) (sima_tup (.cons (zH (i := 8) (k := .local) (by kernel_rfl) (.inl rfl)) (fun _ => rfl) (.cons (zH (i := 9) (k := .local) (by kernel_rfl) (.inl rfl)) (fun _ => rfl) .nil))) (zB (zT (simt_or (simt_not (yS (xI (zA (i := 8) (k := .local) (by kernel_rfl) (by kernel_rfl) (by kernel_rfl)) x_kit (i := 27) (by kernel_rfl) zY (tyn_bui (i := 28) (by kernel_rfl) x_b_int (by decide +kernel) (by decide) (by kernel_rfl)) x_ty_int (fun _ => rfl) (fun _ => rfl)))) (zO (zA (i := 8) (k := .local) (by kernel_rfl) (by kernel_rfl) (by kernel_rfl)) zK cmp_gt)) (zB (zF (yN (zA (i := 5) (k := .cell) (by kernel_rfl) (by kernel_rfl) (by kernel_rfl)) (.cons (zA (i := 8) (k := .local) (by kernel_rfl) (by kernel_rfl) (by kernel_rfl)) (fun _ => rfl) .nil) (F_next.mono (by decide)) (zM _) x_m_next x_t_next x_k_next (by decide +kernel) (fun _ => rfl)) (zH (i := 14) (k := .local) (by kernel_rfl) (.inl rfl)) (fun _ => rfl) (fun _ _ => rfl) (fun _ => rfl))
  (zB (zT (simt_and (zO (zA (i := 14) (k := .local) (by kernel_rfl) (by kernel_rfl) (by kernel_rfl)) yA jA) (zO (zS (.cons (yI (zA (i := 14) (k := .local) (by kernel_rfl) (by kernel_rfl) (by kernel_rfl)) zK) (fun _ => rfl) .nil) (F__law_number.mono (by decide)) (i := 31) (by kernel_rfl) jE jD (by kernel_rfl)) (wT (xK (zA (i := 10) (k := .local) (by kernel_rfl) (by kernel_rfl) (by kernel_rfl))) (simal_two (i := 1) (j := 2) (by kernel_rfl) (by kernel_rfl)) simts_nil (zS (.cons (zA (i := 1) (k := .local) (by kernel_rfl) (by kernel_rfl) (by kernel_rfl)) (fun _ => rfl) .nil) (F__law_number.mono (by decide)) (i := 3) (by kernel_rfl) jE jD (by kernel_rfl)) (by kernel_rfl) (fun _ _ => rfl)) cmp_notin)) (zB (zP xQ)
  zD) zD)
  zD)) zD)
  zD) (fun _ _ => rfl))
  (zB (zP (zS (.cons (zA (i := 4) (k := .local) (by kernel_rfl) (by kernel_rfl) (by kernel_rfl)) (fun _ => rfl) (.cons (zA (i := 1) (k := .local) (by kernel_rfl) (by kernel_rfl) (by kernel_rfl)) (fun _ => rfl) .nil)) (F__law_lists_right.mono (by decide)) (i := 32) (by kernel_rfl) x_g__law_lists_right x_k__law_lists_right (by kernel_rfl)))
  zD))))))))))))))))
end
end Mine


section
namespace Mine
section
variable {α β : Type} {ρ ρ' ρ₁ : Rho} {σ σ' σ₁ σ₂ : H}
theorem zW {e : Ex α} {f : α → Ex β} {a : α} {r : Option (β × H)} (h1 : e ρ σ = some (a, σ₁)) (h2 : f a ρ σ₁ = r) : yD e f ρ σ = r := by
  unfold yD; rw [h1]; exact h2
theorem read_of {f : H → Option β} {b : β} (h : f σ = some b) : readE f ρ σ = some (b, σ) := by unfold readE; rw [h]
theorem yJ {F : Fn} {es : List (Ex V)} {vs : List V} {r : Option (V × H)} (h1 : seqE es ρ σ = some (vs, σ₁)) (h2 : F vs σ₁ = r) : zR F es ρ σ = r := zW h1 h2
theorem meth_of {c : Cl} {F : Fn} {o : Ex V} {es : List (Ex V)} {x : V} {vs : List V} {r : Option (V × H)} (h0 : o ρ σ = some (x, σ₁)) (hc : isObj c x σ₁ = true) (h1 : seqE es ρ σ₁ = some (vs, σ₂)) (h2 : F (x :: vs) σ₂ = r) : yT c F o es ρ σ = r :=
  zW h0 (zW (read_of (b := ()) (by rw [hc]; rfl)) (zW h1 h2))
theorem wE {e : Ex V} {es : List (Ex V)} {v : V} {vs : List V} (h1 : e ρ σ = some (v, σ₁)) (h2 : seqE es ρ σ₁ = some (vs, σ₂)) : seqE (e :: es) ρ σ = some (v :: vs, σ₂) := zW h1 (zW h2 rfl)
theorem tup_of {es : List (Ex V)} {vs : List V} (h : seqE es ρ σ = some (vs, σ₁)) : wU es ρ σ = some (.tup vs, σ₁) := zW h rfl
theorem bin_of {op : Op} {a b : Ex V} {x y : V} {r : Option (V × H)} (h1 : a ρ σ = some (x, σ₁)) (h2 : b ρ σ₁ = some (y, σ₂)) (h3 : binO op x y σ₂ = r) : yX op a b ρ σ = r := zW h1 (zW h2 h3)
theorem item_of {a b : Ex V} {x y v : V} (h1 : a ρ σ = some (x, σ₁)) (h2 : b ρ σ₁ = some (y, σ₂)) (h3 : itemO x y σ₂ = some v) : yB a b ρ σ = some (v, σ₂) := zW h1 (zW h2 (read_of h3))
theorem attr_of {o : Ex V} {x : Fd} {w v : V} (h1 : o ρ σ = some (w, σ₁)) (h2 : getF w x σ₁ = some v) : zL o x ρ σ = some (v, σ₁) := zW h1 (read_of h2)
theorem len_of {a : Ex V} {w v : V} (h1 : a ρ σ = some (w, σ₁)) (h2 : lenO w σ₁ = some v) : wB a ρ σ = some (v, σ₁) := zW h1 (read_of h2)
theorem isi_of {a : Ex V} {ts : List Ty} {w : V} {b : Bool} (h1 : a ρ σ = some (w, σ₁)) (h2 : isTys w ts σ₁ = some b) : jC a ts ρ σ = some (.bool b, σ₁) := zW h1 (read_of (by rw [h2]; rfl))
theorem jJ {e : Ex V} {b : Bool} (h : e ρ σ = some (.bool b, σ₁)) : xO e ρ σ = some (b, σ₁) := zW h rfl
theorem not_of {t : Ex Bool} {b : Bool} (h : t ρ σ = some (b, σ₁)) : notT t ρ σ = some (!b, σ₁) := zW h rfl
theorem notE_of {a : Ex V} {b : Bool} (h : a ρ σ = some (.bool b, σ₁)) : notE a ρ σ = some (.bool !b, σ₁) := zW h rfl
theorem and_of {a b : Ex Bool} {x y : Bool} (h1 : a ρ σ = some (x, σ₁)) (h2 : b ρ σ₁ = some (y, σ₁)) : andT a b ρ σ = some (x && y, σ₁) := zW h1 (match x with | false => rfl | true => h2)
theorem or_of {a b : Ex Bool} {x y : Bool} (h1 : a ρ σ = some (x, σ₁)) (h2 : b ρ σ₁ = some (y, σ₁)) : orT a b ρ σ = some (x || y, σ₁) := zW h1 (match x with | false => h2 | true => rfl)
theorem or_f {a b : Ex Bool} {y : Bool} (h1 : a ρ σ = some (false, σ₁)) (h2 : b ρ σ₁ = some (y, σ₂)) : orT a b ρ σ = some (y, σ₂) := zW h1 h2
theorem andE_of {a b : Ex V} {x y : Bool} (h1 : a ρ σ = some (.bool x, σ₁)) (h2 : b ρ σ₁ = some (.bool y, σ₁)) : andE a b ρ σ = some (.bool (x && y), σ₁) := zW h1 (match x with | false => rfl | true => h2)
theorem andE_f {a b : Ex V} (h1 : a ρ σ = some (.bool false, σ₁)) : andE a b ρ σ = some (.bool false, σ₁) := zW h1 rfl
theorem andE_t {a b : Ex V} {r : Option (V × H)} (h1 : a ρ σ = some (.bool true, σ₁)) (h2 : b ρ σ₁ = r) : andE a b ρ σ = r := zW h1 h2
theorem orE_of {a b : Ex V} {x y : Bool} (h1 : a ρ σ = some (.bool x, σ₁)) (h2 : b ρ σ₁ = some (.bool y, σ₁)) : orE a b ρ σ = some (.bool (x || y), σ₁) := zW h1 (match x with | false => h2 | true => rfl)
theorem ite_of {t : Ex Bool} {a b : Ex β} {x : Bool} {r : Option (β × H)} (h1 : t ρ σ = some (x, σ₁)) (h2 : (if x then a else b) ρ σ₁ = r) : iteE t a b ρ σ = r := zW h1 h2
theorem wQ {c : Cm} {a e : Ex V} {x y : V} {b : Bool} (h1 : a ρ σ = some (x, σ₁)) (h2 : e ρ σ₁ = some (y, σ₂)) (h3 : cmpO c x y σ₂ = some b) : zX a [(c, e)] ρ σ = some (b, σ₂) := zW h1 (zW h2 (read_of h3))
theorem cmpE_of {a : Ex V} {r : List (Cm × Ex V)} {b : Bool} (h : zX a r ρ σ = some (b, σ₁)) : cmpE a r ρ σ = some (.bool b, σ₁) := zW h rfl
theorem attrA_of {o : Ex V} {x : Fd} {w v : V} (h1 : o ρ σ = some (w, σ₁)) (h2 : setF w x v σ₁ = some σ₂) : yQ o x v ρ σ = some (ρ, σ₂) := by unfold yQ; rw [h1]; dsimp only; rw [h2]; rfl
theorem asg_of {a : As} {e : Ex V} {v : V} (h1 : e ρ σ = some (v, σ₁)) (h2 : a v ρ σ₁ = some (ρ', σ₂)) : zQ a e ρ σ = some (.next, ρ', σ₂) := by unfold zQ; rw [h1]; dsimp only; rw [h2]
theorem wF {i : Nat} {e : Ex V} {v : V} (h1 : e ρ σ = some (v, σ₁)) (h2 : ρ.set i (some v) = ρ') : zQ (zG i) e ρ σ = some (.next, ρ', σ₁) := h2 ▸ asg_of h1 rfl
theorem expr_of {e : Ex V} (h : e ρ σ = some (.none, σ₁)) : yR e ρ σ = some (.next, ρ, σ₁) := by unfold yR; rw [h]
theorem wP {e : Ex V} {v : V} (h : e ρ σ = some (v, σ₁)) : yM e ρ σ = some (.ret v, ρ, σ₁) := by unfold yM; rw [h]
theorem zN {s : St} {r : List St} {x : Option (Fl × Rho × H)} (h1 : s ρ σ = some (.next, ρ', σ')) (h2 : zI r ρ' σ' = x) : zI (s :: r) ρ σ = x := by rw [seqS_c, h1]; exact h2
theorem yP {s : St} {r : List St} {v : V} (h1 : s ρ σ = some (.ret v, ρ', σ')) : zI (s :: r) ρ σ = some (.ret v, ρ', σ') := by rw [seqS_c, h1]
theorem if_of {t : Ex Bool} {a b : St} {x : Bool} {r : Option (Fl × Rho × H)} (h1 : t ρ σ = some (x, σ₁)) (h2 : (if x then a ρ σ₁ else b ρ σ₁) = r) : ifS t a b ρ σ = r := by unfold ifS; rw [h1]; exact h2
theorem if_tt {t : Ex Bool} {a b : St} {r : Option (Fl × Rho × H)} (h1 : t ρ σ = some (true, σ₁)) (h2 : a ρ σ₁ = r) : ifS t a b ρ σ = r := if_of h1 h2
theorem if_ff {t : Ex Bool} {a b : St} {r : Option (Fl × Rho × H)} (h1 : t ρ σ = some (false, σ₁)) (h2 : b ρ σ₁ = r) : ifS t a b ρ σ = r := if_of h1 h2
theorem for_of {it : Ex It} {tg : As} {b : St} {i : It} {r : Option (Fl × Rho × H)} (h1 : it ρ σ = some (i, σ₁)) (h2 : forL i tg b 100 0 ρ σ₁ = r) : forS it tg b ρ σ = r := by unfold forS; rw [h1]; exact h2
theorem while_next {t : Ex Bool} {b : St} {f : Nat} {r : Option (Fl × Rho × H)} (h1 : t ρ σ = some (true, σ₁)) (h2 : b ρ σ₁ = some (.next, ρ', σ')) (h3 : whileL t b f ρ' σ' = r) : whileL t b (f + 1) ρ σ = r := by rw [whileL_c, h1]; dsimp only; rw [h2]; exact h3
theorem while_ret {t : Ex Bool} {b : St} {f : Nat} {v : V} (h1 : t ρ σ = some (true, σ₁)) (h2 : b ρ σ₁ = some (.ret v, ρ', σ')) : whileL t b (f + 1) ρ σ = some (.ret v, ρ', σ') := by rw [whileL_c, h1]; dsimp only; rw [h2]
theorem while_end {t : Ex Bool} {b : St} {f : Nat} (h1 : t ρ σ = some (false, σ₁)) : whileL t b (f + 1) ρ σ = some (.next, ρ, σ₁) := by rw [whileL_c, h1]
theorem for_next {it : It} {tg : As} {b : St} {f k : Nat} {v : V} {r : Option (Fl × Rho × H)} (h0 : it.nxt k σ = some (some v)) (h1 : tg v ρ σ = some (ρ₁, σ₁)) (h2 : b ρ₁ σ₁ = some (.next, ρ', σ')) (h3 : forL it tg b f (k + 1) ρ' σ' = r) : forL it tg b (f + 1) k ρ σ = r := by
  rw [forL_c, h0]; dsimp only; rw [h1]; dsimp only; rw [h2]; exact h3
theorem for_end {it : It} {tg : As} {b : St} {f k : Nat} (h0 : it.nxt k σ = some .none) : forL it tg b (f + 1) k ρ σ = some (.next, ρ, σ) := by
  rw [forL_c, h0]
theorem xN {np ns : Nat} {ds vs : List V} {b : St} {v : V} (hρ : (vs ++ ds.drop (ds.length - (np - vs.length))).map some ++ List.replicate (ns - np) .none = ρ) (hb : b ρ σ = some (.ret v, ρ', σ')) (hc : vs.length ≤ np ∧ np ≤ vs.length + ds.length) : fnD np ns ds b vs σ = some (v, σ') := by
  unfold fnD; rw [if_pos hc, hρ, hb]
theorem fn_end {np ns : Nat} {ds vs : List V} {b : St} (hρ : (vs ++ ds.drop (ds.length - (np - vs.length))).map some ++ List.replicate (ns - np) .none = ρ) (hb : b ρ σ = some (.next, ρ', σ')) (hc : vs.length ≤ np ∧ np ≤ vs.length + ds.length) : fnD np ns ds b vs σ = some (.none, σ') := by
  unfold fnD; rw [if_pos hc, hρ, hb]
theorem jO {it : Ex It} {fv : List (Option Nat)} {tg : As} {ifs : List (Ex Bool)} {elt : Ex V} {i : It} {xs : List V} {r : Option (V × H)} (h1 : it ρ σ = some (i, σ₁)) (h2 : compL i tg ifs elt 100 0 (innerRho fv ρ) σ₁ [] = some (xs, σ₂)) (h3 : newL xs σ₂ = r) : xR it fv tg ifs elt ρ σ = r := by
  unfold xR; rw [h1]; dsimp only; rw [h2]; exact h3
end
theorem get_lt {α : Type} {l : List α} {i : Nat} {m : α} (h : l[i]? = some m) : i < l.length := by
  rcases Nat.lt_or_ge i l.length with q | q
  · exact q
  · rw [List.getElem?_eq_none q] at h; cases h
theorem get_app {α : Type} {l t : List α} {i : Nat} {m : α} (h : l[i]? = some m) : (l ++ t)[i]? = some m := by
  rw [List.getElem?_append_left (get_lt h)]; exact h
noncomputable def drw (ns : List Int) (t : Int) (c : Nat) (b : Int) : Int := (if (c : Int) < ns.length then ns.getD c 0 else t + 5 * c + (c : Int).fdiv 2).fmod b
theorem drw_nn (ns : List Int) (t : Int) (c : Nat) {b : Int} (hb : 0 < b) : 0 ≤ drw ns t c b := Int.fmod_nonneg_of_pos _ hb
theorem drw_lt (ns : List Int) (t : Int) (c : Nat) {b : Int} (hb : 0 < b) : drw ns t c b < b := Int.fmod_lt_of_pos _ hb
noncomputable def sackC (t : Int) (c : Nat) : MO := .list [.obj 2, .int t, .int c]
end Mine


section
namespace Mine
/- the state of the law's call: mt: is there a table of meta; all values by codes:
   0..4 the keys 1, 2, 3, b'k', 100; 5..10 the six objects from the last; 11..14 the plain values; 15 none; 16 the text 'text'; 17 the int 4; 18 the meta table -/
noncomputable def B : Bool → Nat | false => 4 | true => 16
noncomputable def T : Bool → Nat | false => 25 | true => 37
noncomputable def oj (mt : Bool) : Nat → Nat | 0 => B mt | 1 => B mt + 3 | 2 => B mt + 6 | 3 => B mt + 7 | 4 => B mt + 10 | _ => B mt + 12
noncomputable def uL (mt : Bool) : List V := [.int 1, .int 2, .int 3, .bytes [107], .int 100, .obj (oj mt 5), .obj (oj mt 4), .obj (oj mt 3), .obj (oj mt 2), .obj (oj mt 1), .obj (oj mt 0),
  .bytes [116, 97, 105, 108], .int 7, .bool true, .bytes [116, 101, 120, 116], .none, .str [116, 101, 120, 116], .int 4, match mt with | false => .none | true => .obj 4]
noncomputable def uV (mt : Bool) (u : Nat) : V := (uL mt).getD u .none
noncomputable def wdL : List V := [.bytes [107], .bytes [118], .bytes [107, 118], .bytes [118, 107], .bytes [120], .int 5]
noncomputable def wd (k : Nat) : V := wdL.getD k .none
structure PS where
  c0 : MO
  c1 : MO
  ns : List Int
  t : Int
  c : Nat
  fm : Nat
  ss : List V
  mark : Nat → Int
  fin : Nat → Bool
  fl : V
  wk : V
  av : Nat → Nat
  kc : Nat → Nat
  dd : Nat → Option Nat
  gn : Nat → Bool
  vv : Nat → Nat
  nx : Nat → Int
  free : Int
  kept : List (Nat × Nat)
  rest : H
noncomputable def hdH (mt : Bool) (c0 c1 : MO) (ns : List Int) (t : Int) (c fm : Nat) (ss : List V) : H := match mt with
  | false => [c0, c1, .list (ns.map .int), sackC t c]
  | true => [c0, c1, .list (ns.map .int), sackC t c, .inst .table [.int 40, .int 0, .int 88, .none, .int 0, .bytes [], .obj 11, .obj 14, .int 0, .int 1], .list [], .list [], .list wdL, .list [.int 0],
    .list (List.replicate 27 (.int 0)), .list [], .list [], .list [], .inst .node [.bytes [95, 95, 109, 111, 100, 101], wd fm, .int (-1)], .list [.obj 13], .list ss]
noncomputable def obH (b : Nat) (n : Nat → Int) (mk : Nat → Int) (fin : Nat → Bool) : H := [
  .inst .table [.int (n 0), .int (mk 0), .int 56, .none, .int 0, .bytes [], .obj (b + 1), .obj (b + 2), .int 0, .int 0], .list [], .list [],
  .inst .table [.int (n 1), .int (mk 1), .int 56, .none, .int 0, .bytes [], .obj (b + 4), .obj (b + 5), .int 0, .int 0], .list [], .list [],
  .inst .udata [.int (n 2), .int (mk 2), .int 5, .str [120], .none, .none, .bool (fin 2)],
  .inst .udata [.int (n 3), .int (mk 3), .int 5, .str [121], .none, .none, .bool (fin 3)],
  .list [.obj b, .obj (b + 3), .obj (b + 6), .obj (b + 7)], .list [],
  .inst .pyclo [.int (n 4), .int (mk 4), .int 6, .none, .bytes [102], .obj (b + 9), .none], .list [],
  .inst .pyclo [.int (n 5), .int (mk 5), .int 6, .none, .bytes [103], .obj (b + 11), .none],
  .list [.obj (b + 10), .obj (b + 12)],
  .list [.obj b, .obj (b + 3), .obj (b + 6), .obj (b + 7), .obj (b + 10), .obj (b + 12)]]
noncomputable def mnu : MO := .list [.int 0, .int 1, .int 2, .int 3]
noncomputable def ndV (mt : Bool) (s : PS) (p : Nat) : V := match s.dd p with | some d => .obj d | none => uV mt (s.kc p)
noncomputable def vcC (s : PS) (p : Nat) : Nat := match s.gn p with | true => 15 | false => s.vv (s.kc p)
noncomputable def ndC (mt : Bool) (s : PS) (p : Nat) : MO := .inst .node [ndV mt s p, uV mt (vcC s p), .int (s.nx p)]
noncomputable def metaV (mt : Bool) : V := uV mt 18
noncomputable def tbH (mt : Bool) (t : Nat) (s : PS) : H := [
  .inst .table [.int 30, .int 0, .int 360, metaV mt, s.fl, s.wk, .obj (t + 4), .obj (t + 14), .int 3, .int s.free], .list [], .list [], .list [],
  .list [uV mt (s.av 0), uV mt (s.av 1), uV mt (s.av 2)], .list [], ndC mt s 0, ndC mt s 1, ndC mt s 2, ndC mt s 3, ndC mt s 4, ndC mt s 5, ndC mt s 6, ndC mt s 7,
  .list [.obj (t + 6), .obj (t + 7), .obj (t + 8), .obj (t + 9), .obj (t + 10), .obj (t + 11), .obj (t + 12), .obj (t + 13)]]
noncomputable def prV (mt : Bool) (e : Nat × Nat) : V := .tup [uV mt e.1, uV mt e.2]
noncomputable def vals : List Nat := [11, 12, 13, 14, 10, 9, 8, 7, 6, 5]
noncomputable def ksH (mt : Bool) (s : PS) : H := [.list (s.kept.map (prV mt)), .list ([11, 12, 13, 14].map (uV mt)), .list (vals.map (uV mt)), .list ([0, 1, 2, 3, 4].map (uV mt)), .list ([5, 6, 7, 8, 9, 10].map (uV mt)), .list ((List.range 11).map (uV mt))]
noncomputable def num (j : Nat) : Int := 20 + j
noncomputable def zE (mt : Bool) (s : PS) : H := hdH mt s.c0 s.c1 s.ns s.t s.c s.fm s.ss ++ (obH (B mt) num s.mark s.fin ++ ([mnu, mnu, mnu, mnu, mnu, mnu] ++ (tbH mt (T mt) s ++ (ksH mt s ++ s.rest))))
theorem all_range {α : Type} {f g : Nat → α} {n : Nat} (h : (List.range n).map f = (List.range n).map g) {i : Nat} (hi : i < n) : f i = g i := by
  have := List.map_inj_left.mp h i (List.mem_range.mpr hi)
  exact this
theorem yF {α : Type} {f g : Nat → α} {n : Nat} (h : (List.range n).map f = (List.range n).map g) : ∀ i, i < n → f i = g i := fun i hi => all_range h hi
noncomputable def mpN (q : Nat) : Nat := [2, 2, 4, 3, 2, 1, 0, 6].getD (q - 3) 0
noncomputable def mp (q : Nat) : Int := mpN q
section
variable {mt : Bool} {s : PS}
theorem mpos {i : Nat} (hi : i < 8) : xF [.obj (T mt), uV mt (i + 3)] (zE mt s) = some (.int (mp (i + 3)), zE mt s) :=
  all_range (f := fun i => xF [.obj (T mt), uV mt (i + 3)] (zE mt s)) (g := fun i => some (.int (mp (i + 3)), zE mt s)) (by cases mt <;> kernel_rfl) hi
noncomputable def kcd (i : Nat) : Nat := if i = 0 then 15 else i + 2
theorem raw_eq {i j : Nat} (hi : i < 9) (hj : j < 8) : xG [uV mt (kcd i), uV mt (j + 3)] (zE mt s) = some (.bool (kcd i == j + 3), zE mt s) :=
  all_range (f := fun j => xG [uV mt (kcd i), uV mt (j + 3)] (zE mt s)) (g := fun j => some (.bool (kcd i == j + 3), zE mt s))
    (all_range (f := fun i => (List.range 8).map fun j => xG [uV mt (kcd i), uV mt (j + 3)] (zE mt s)) (g := fun i => (List.range 8).map fun j => some (.bool (kcd i == j + 3), zE mt s)) (by cases mt <;> kernel_rfl) hi) hj
end
end Mine


section
namespace Mine
noncomputable def Chain (nx : Nat → Int) : Int → List Nat → Prop
  | p, [] => p = -1
  | p, a :: l => p = (a : Int) ∧ a < 8 ∧ Chain nx (nx a) l
noncomputable def fnT : Ex Bool := zX (zC 2) [(.ge, (cE (.int 0)))]
noncomputable def fnB : St := zI [
    ifS (xO (zR xG [(zL (yB (zL (zC 0) .nodes) (zC 2)) .key), (zC 1)])) (zI [
      yM (zC 2)]) (zI []),
    zQ (zG 2) (zL (yB (zL (zC 0) .nodes) (zC 2)) .next)]
section
variable {mt : Bool} {s : PS}
theorem fn_key {v : V} {p : Nat} (hp : p < 8) : seqE [zL (yB (zL (zC 0) .nodes) (zC 2)) .key, zC 1] [some (.obj (T mt)), some v, some (.int p), none, none] (zE mt s) = some ([ndV mt s p, v], zE mt s) := by
  revert p; refine no_implicit_lambda% (yF ?_); cases mt <;> kernel_rfl
theorem fn_nxt {v : V} {p : Nat} (hp : p < 8) : zQ (zG 2) (zL (yB (zL (zC 0) .nodes) (zC 2)) .next) [some (.obj (T mt)), some v, some (.int p), none, none] (zE mt s) = some (.next, [some (.obj (T mt)), some v, some (.int (s.nx p)), none, none], zE mt s) := by
  revert p; refine no_implicit_lambda% (yF ?_); cases mt <;> kernel_rfl
theorem fn_tst {v : V} {p : Nat} (hp : p < 8) : fnT [some (.obj (T mt)), some v, some (.int p), none, none] (zE mt s) = some (true, zE mt s) := by
  revert p; refine no_implicit_lambda% (yF ?_); kernel_rfl
theorem find_loop {v : V} {r : Nat → Bool} (hr : ∀ p, p < 8 → xG [ndV mt s p, v] (zE mt s) = some (.bool (r p), zE mt s)) :
    ∀ (l : List Nat) (f : Nat) (p0 : Int), Chain s.nx p0 l → l.length < f → whileL fnT fnB f [some (.obj (T mt)), some v, some (.int p0), none, none] (zE mt s) =
      match l.find? r with
      | some p => some (.ret (.int p), [some (.obj (T mt)), some v, some (.int p), none, none], zE mt s)
      | none => some (.next, [some (.obj (T mt)), some v, some (.int (-1)), none, none], zE mt s)
  | _, 0, _, _, hf => absurd hf (Nat.not_lt_zero _)
  | [], f + 1, p0, hc, hf => by
    have hc : p0 = -1 := hc
    subst hc; exact while_end rfl
  | p :: l, f + 1, p0, hc, hf => by
    obtain ⟨rfl, hp, hc⟩ := hc
    have ih := find_loop hr l f _ hc (Nat.lt_of_succ_lt_succ hf)
    have h1 := yJ (fn_key (v := v) hp) (hr p hp)
    rw [List.find?_cons]
    cases e : r p with
    | true => rw [e] at h1; exact while_ret (fn_tst hp) (yP (if_of (jJ h1) rfl))
    | false => rw [e] at h1; exact while_next (fn_tst hp) (zN (if_of (jJ h1) rfl) (zN (fn_nxt hp) rfl)) ih
theorem find_node {i : Nat} (hi : i < 8) {r : Nat → Bool} (hr : ∀ p, p < 8 → xG [ndV mt s p, uV mt (i + 3)] (zE mt s) = some (.bool (r p), zE mt s)) {l : List Nat} (hc : Chain s.nx (mp (i + 3)) l) (hl : l.length < 100) :
    wX [.obj (T mt), uV mt (i + 3)] (zE mt s) = some (.int (match l.find? r with | some p => p | none => -1), zE mt s) := by
  have hw := find_loop hr l 100 _ hc hl
  have h1 : ifS (orT (zX (wB (zL (zC 0) .nodes)) [(.eq, (cE (.int 0)))]) (zX (zC 1) [(.is, (cE .none))])) (zI [yM (negE (cE (.int 1)))]) (zI []) [some (.obj (T mt)), some (uV mt (i + 3)), none, none, none] (zE mt s) = some (.next, [some (.obj (T mt)), some (uV mt (i + 3)), none, none, none], zE mt s) := by
    clear hr hc hl hw; revert i; refine no_implicit_lambda% (yF ?_); cases mt <;> kernel_rfl
  have h2 : zQ (zG 2) (yT .table xF (zC 0) [(zC 1)]) [some (.obj (T mt)), some (uV mt (i + 3)), none, none, none] (zE mt s) = some (.next, [some (.obj (T mt)), some (uV mt (i + 3)), some (.int (mp (i + 3))), none, none], zE mt s) :=
    wF (meth_of rfl (by cases mt <;> kernel_rfl) rfl (mpos hi)) rfl
  cases e : l.find? r with
  | some p => rw [e] at hw; exact xN rfl (zN h1 (zN h2 (yP hw))) (by simp)
  | none => rw [e] at hw; exact xN rfl (zN h1 (zN h2 (zN hw rfl))) (by simp)
end
end Mine


section
namespace Mine
noncomputable def fiT : Ex Bool := zX (zC 3) [(.ge, (cE (.int 0)))]
noncomputable def fiD : Ex Bool := andT (xO (jC (zC 4) [.dead])) (andT (xO (zR wZ [(zC 1)])) (zX (zL (zC 4) .number) [(.eq, (zL (zC 1) .number))]))
noncomputable def fiB : St := zI [
    zQ (zG 4) (zL (yB (zL (zC 0) .nodes) (zC 3)) .key),
    ifS (xO (zR xG [(zC 4), (zC 1)])) (zI [
      yM (yX .add (wB (zL (zC 0) .array)) (zC 3))]) (zI []),
    ifS fiD (zI [
      yM (yX .add (wB (zL (zC 0) .array)) (zC 3))]) (zI []),
    zQ (zG 3) (zL (yB (zL (zC 0) .nodes) (zC 3)) .next)]
noncomputable def fiR (mt : Bool) (v : V) (a : Int) (p : Int) (x : Option V) : Rho := [some (.obj (T mt)), some v, some (.int a), some (.int p), x, none, none, none, none, none, none, none]
section
variable {mt : Bool} {s : PS}
theorem fi_tst {v : V} {a : Int} {x : Option V} {p : Nat} (hp : p < 8) : fiT (fiR mt v a p x) (zE mt s) = some (true, zE mt s) := by
  revert p; refine no_implicit_lambda% (yF ?_); kernel_rfl
theorem fi_key {v : V} {a : Int} {x : Option V} {p : Nat} (hp : p < 8) : zQ (zG 4) (zL (yB (zL (zC 0) .nodes) (zC 3)) .key) (fiR mt v a p x) (zE mt s) = some (.next, fiR mt v a p (some (ndV mt s p)), zE mt s) := by
  revert p; refine no_implicit_lambda% (yF ?_); cases mt <;> kernel_rfl
theorem fi_ret {v : V} {a : Int} {x : Option V} {p : Nat} (hp : p < 8) : zI [yM (yX .add (wB (zL (zC 0) .array)) (zC 3))] (fiR mt v a p x) (zE mt s) = some (.ret (.int (3 + p)), fiR mt v a p x, zE mt s) := by
  revert p; refine no_implicit_lambda% (yF ?_); cases mt <;> kernel_rfl
theorem fi_nxt {v : V} {a : Int} {x : Option V} {p : Nat} (hp : p < 8) : zI [zQ (zG 3) (zL (yB (zL (zC 0) .nodes) (zC 3)) .next)] (fiR mt v a p x) (zE mt s) = some (.next, fiR mt v a (s.nx p) x, zE mt s) := by
  revert p; refine no_implicit_lambda% (yF ?_); cases mt <;> kernel_rfl
theorem index_loop {v : V} {a : Int} {r d : Nat → Bool} (hr : ∀ p, p < 8 → xG [ndV mt s p, v] (zE mt s) = some (.bool (r p), zE mt s))
    (hd : ∀ p : Nat, p < 8 → fiD (fiR mt v a p (some (ndV mt s p))) (zE mt s) = some (d p, zE mt s)) {p₁ : Nat} (hp₁ : p₁ < 8) :
    ∀ (l : List Nat) (f : Nat) (p0 : Int) (x : Option V), Chain s.nx p0 l → l.length < f → l.find? (fun p => r p || d p) = some p₁ → ∃ ρ', whileL fiT fiB f (fiR mt v a p0 x) (zE mt s) = some (.ret (.int (3 + p₁)), ρ', zE mt s)
  | _, 0, _, _, _, hf, _ => absurd hf (Nat.not_lt_zero _)
  | [], f + 1, p0, x, hc, hf, e => nomatch e
  | p :: l, f + 1, p0, x, hc, hf, e => by
    obtain ⟨rfl, hp, hc⟩ := hc
    have h1 : xO (zR xG [(zC 4), (zC 1)]) (fiR mt v a p (some (ndV mt s p))) (zE mt s) = some (r p, zE mt s) := jJ (yJ (vs := [ndV mt s p, v]) rfl (hr p hp))
    have h2 := hd p hp
    rw [List.find?_cons] at e
    cases e1 : r p with
    | true =>
      rw [e1] at h1 e
      cases e
      exact ⟨_, while_ret (fi_tst hp) (zN (fi_key hp) (yP (if_of h1 (fi_ret hp))))⟩
    | false =>
      rw [e1] at h1
      cases e2 : d p with
      | true =>
        rw [e2] at h2; rw [e1, e2] at e
        cases e
        exact ⟨_, while_ret (fi_tst hp) (zN (fi_key hp) (zN (if_of h1 rfl) (yP (if_of h2 (fi_ret hp)))))⟩
      | false =>
        rw [e2] at h2; rw [e1, e2] at e
        obtain ⟨ρ', ih⟩ := index_loop hr hd hp₁ l f _ (some (ndV mt s p)) hc (Nat.lt_of_succ_lt_succ hf) e
        exact ⟨ρ', while_next (fi_tst hp) (zN (fi_key hp) (zN (if_of h1 rfl) (zN (if_of h2 rfl) (fi_nxt hp)))) ih⟩
noncomputable def aiC (i : Nat) : Int := if i = 1 then 100 else -1
theorem find_index {i : Nat} (hi : i < 8) {r d : Nat → Bool} (hr : ∀ p, p < 8 → xG [ndV mt s p, uV mt (i + 3)] (zE mt s) = some (.bool (r p), zE mt s))
    (hd : ∀ p : Nat, p < 8 → fiD (fiR mt (uV mt (i + 3)) (aiC i) p (some (ndV mt s p))) (zE mt s) = some (d p, zE mt s)) {p₁ : Nat} (hp₁ : p₁ < 8) {l : List Nat} (hc : Chain s.nx (mp (i + 3)) l) (hl : l.length < 100) (he : l.find? (fun p => r p || d p) = some p₁) :
    xS [.obj (T mt), uV mt (i + 3)] (zE mt s) = some (.int (3 + p₁), zE mt s) := by
  obtain ⟨ρ', hw⟩ := index_loop hr hd hp₁ l 100 _ none hc hl he
  have h1 : zI [ifS (zX (zC 1) [(.is, (cE .none))]) (zI [
    yM (negE (cE (.int 1)))]) (zI []),
  zQ (zG 2) (zR wY [(zC 1)]),
  ifS (zX (cE (.int 1)) [(.le, (zC 2)), (.le, (wB (zL (zC 0) .array)))]) (zI [
    yM (yX .sub (zC 2) (cE (.int 1)))]) (zI []),
  zQ (zG 3) (iteE (zX (wB (zL (zC 0) .nodes)) [(.gt, (cE (.int 0)))]) (yT .table xF (zC 0) [(zC 1)]) (negE (cE (.int 1)))),
  whileS fiT fiB, noS] [some (.obj (T mt)), some (uV mt (i + 3)), none, none, none, none, none, none, none, none, none, none] (zE mt s) = zI [whileS fiT fiB, noS] (fiR mt (uV mt (i + 3)) (aiC i) (mp (i + 3)) none) (zE mt s) := by
    clear hw hr hd hc he; revert i; refine no_implicit_lambda% (yF ?_); cases mt <;> kernel_rfl
  refine xN rfl (Eq.trans h1 (yP hw)) (by simp)
theorem find_index_arr : ∀ q, q < 3 → xS [.obj (T mt), uV mt q] (zE mt s) = some (.int q, zE mt s) := by
  refine yF ?_; cases mt <;> kernel_rfl
theorem find_index_none : xS [.obj (T mt), .none] (zE mt s) = some (.int (-1), zE mt s) := by cases mt <;> kernel_rfl
theorem fiD_live {v : V} {a p : Int} : ∀ j, j < 9 → fiD (fiR mt v a p (some (uV mt (kcd j)))) (zE mt s) = some (false, zE mt s) := by
  refine yF ?_; cases mt <;> kernel_rfl
theorem isTy_dead {σ : H} {d : Nat} {fs : List V} (h : σ[d]? = some (.inst .dead fs)) (t : Ty) : isTy (.obj d) t σ = some (t == .dead) := by
  unfold isTy; dsimp only; rw [h]
theorem isTys1 {v : V} {t : Ty} {σ : H} {b : Bool} (h : isTy v t σ = some b) : isTys v [t] σ = some b := by
  rw [isTys_c, h]; cases b <;> rfl
theorem collect : ∀ i, i < 8 → wZ [uV mt (i + 3)] (zE mt s) = some (.bool (decide (2 ≤ i)), zE mt s) := by
  refine yF ?_; cases mt <;> kernel_rfl
theorem num_obj : ∀ i, i < 6 → getF (uV mt (i + 5)) .number (zE mt s) = some (.int (25 - i)) := by
  refine yF ?_; cases mt <;> kernel_rfl
theorem fiD_dead {a p : Int} {d : Nat} {n : Int} (h : (zE mt s)[d]? = some (.inst .dead [.int n])) {i : Nat} (hi : i < 8) :
    fiD (fiR mt (uV mt (i + 3)) a p (some (.obj d))) (zE mt s) = some (decide (2 ≤ i) && (n == 27 - (i : Int)), zE mt s) := by
  have h1 : isTys (.obj d) [.dead] (zE mt s) = some true := isTys1 (isTy_dead h .dead)
  have h2 : getF (.obj d) .number (zE mt s) = some (.int n) := by unfold getF; dsimp only; rw [h]; rfl
  refine and_of (x := true) (jJ (isi_of rfl h1)) ?_
  refine zW (jJ (yJ (vs := [uV mt (i + 3)]) rfl (collect i hi))) ?_
  by_cases hg : 2 ≤ i
  · rw [decide_eq_true hg]
    obtain ⟨k, rfl⟩ : ∃ k, i = k + 2 := ⟨i - 2, by exact (Nat.sub_add_cancel ‹_›).symm⟩
    have h3 := num_obj (mt := mt) (s := s) k (Nat.lt_of_add_lt_add_right ‹_›)
    refine wQ (attr_of rfl h2) (attr_of rfl h3) ?_
    show some (n == 25 - (k : Int)) = some (true && (n == 27 - ((k + 2 : Nat) : Int)))
    rw [show 27 - ((k + 2 : Nat) : Int) = 25 - (k : Int) by omega]; rfl
  · rw [decide_eq_false hg]; rfl
end
end Mine


section
namespace Mine
noncomputable def upd {α : Type} (f : Nat → α) (a : Nat) (b : α) : Nat → α := fun x => if x = a then b else f x
structure Tb where
  kc : Nat → Nat
  nx : Nat → Int
  free : Nat
noncomputable def ins (t : Tb) (q : Nat) : Option Tb :=
  if t.kc (mpN q) = 15 then some { t with kc := upd t.kc (mpN q) q }
  else if mpN q = 2 ∧ mpN (t.kc 2) = 2 ∧ 3 ≤ t.kc 2 ∧ t.kc 2 < 11 ∧ t.free = 8 ∧ t.kc 7 = 15 then some ⟨upd t.kc 7 q, upd (upd t.nx 7 (t.nx 2)) 2 7, 7⟩
  else if mpN q = 2 ∧ mpN (t.kc 2) = 2 ∧ 3 ≤ t.kc 2 ∧ t.kc 2 < 11 ∧ t.free = 7 ∧ t.kc 6 = 15 then some ⟨upd t.kc 6 q, upd (upd t.nx 6 (t.nx 2)) 2 6, 6⟩
  else if mpN q = 6 ∧ t.kc 6 = 7 ∧ t.nx 2 = 6 ∧ t.free = 6 ∧ t.kc 5 = 15 then some ⟨upd (upd t.kc 5 (t.kc 6)) 6 q, upd (upd (upd t.nx 2 5) 5 (t.nx 6)) 6 (-1), 5⟩
  else none
noncomputable def nkT : Ex Bool := zX (zL (zC 5) .value) [(.isnot, (cE .none))]
noncomputable def nkA (rh pa : Fn) : St := zI [
    zQ (zG 6) (yT .table f_free_position (zC 0) []),
    ifS (zX (zC 6) [(.lt, (cE (.int 0)))]) (zI [
      yR (yT .table rh (zC 0) [(zC 1), (zC 3)]),
      yR (yT .table pa (zC 0) [(zC 1), (zC 2), (zC 3)]),
      yM (cE .none)]) (zI []),
    zQ (zG 7) (yT .table xF (zC 0) [(zL (zC 5) .key)]),
    ifS (zX (zC 7) [(.ne, (zC 4))]) (zI [
      whileS (zX (zL (yB (zL (zC 0) .nodes) (zC 7)) .next) [(.ne, (zC 4))]) (zI [
        zQ (zG 7) (zL (yB (zL (zC 0) .nodes) (zC 7)) .next)]),
      zQ (yQ (yB (zL (zC 0) .nodes) (zC 7)) .next) (zC 6),
      yR (yT .node f_moved_to (zC 5) [(yB (zL (zC 0) .nodes) (zC 6))]),
      zQ (yQ (zC 5) .next) (negE (cE (.int 1))),
      zQ (yQ (zC 5) .value) (cE .none)]) (zI [
      zQ (yQ (yB (zL (zC 0) .nodes) (zC 6)) .next) (zL (zC 5) .next),
      zQ (yQ (zC 5) .next) (zC 6),
      zQ (zG 5) (yB (zL (zC 0) .nodes) (zC 6))])]
noncomputable def nkZ : List St := [
  zQ (yQ (zC 5) .key) (zC 1),
  zQ (yQ (zC 5) .value) (zC 2),
  ifS (zX (zC 3) [(.isnot, (cE .none))]) (zI [
    yR (noE)]) (zI [])]
noncomputable def nkL (rh pa : Fn) : List St := [
  ifS (zX (wB (zL (zC 0) .nodes)) [(.eq, (cE (.int 0)))]) (zI [
    yR (yT .table rh (zC 0) [(zC 1), (zC 3)]),
    yR (yT .table pa (zC 0) [(zC 1), (zC 2), (zC 3)]),
    yM (cE .none)]) (zI []),
  zQ (zG 4) (yT .table xF (zC 0) [(zC 1)]),
  zQ (zG 5) (yB (zL (zC 0) .nodes) (zC 4)),
  ifS nkT (nkA rh pa) (zI [])]
noncomputable def nkR (mt : Bool) (k v : V) (m n : Nat) (x y : Option V) : Rho := [some (.obj (T mt)), some k, some v, some .none, some (.int m), some (.obj (T mt + 6 + n)), x, y, none]
section
variable {mt : Bool} {s : PS}
noncomputable def fresh (s : PS) (t : Tb) : PS := { s with kc := t.kc, nx := t.nx, free := t.free, dd := fun _ => none, gn := fun _ => false }
theorem isN_u : ∀ u, u < 15 → isN (uV mt u) = some false := by
  refine yF ?_; cases mt <;> kernel_rfl
theorem nk_pre {rh pa : Fn} {t : Tb} {v : V} : ∀ i, i < 8 → zI (nkL rh pa ++ nkZ) [some (.obj (T mt)), some (uV mt (i + 3)), some v, some .none, none, none, none, none, none] (zE mt (fresh s t)) =
    zI (ifS nkT (nkA rh pa) (zI []) :: nkZ) (nkR mt (uV mt (i + 3)) v (mpN (i + 3)) (mpN (i + 3)) none none) (zE mt (fresh s t)) := by
  refine yF ?_; cases mt <;> kernel_rfl
theorem nk_tst {k v : V} {t : Tb} {x y : Option V} : ∀ m, m < 8 → nkT (nkR mt k v m m x y) (zE mt (fresh s t)) = match cmpO .isnot (uV mt (s.vv (t.kc m))) .none (zE mt (fresh s t)) with | some b => some (b, zE mt (fresh s t)) | .none => .none := by
  refine yF ?_; cases mt <;> kernel_rfl
theorem nk_put {t : Tb} {q m : Nat} {x y : Option V} : ∀ n, n < 8 → zI nkZ (nkR mt (uV mt q) (uV mt (s.vv q)) m n x y) (zE mt (fresh s t)) = some (.next, nkR mt (uV mt q) (uV mt (s.vv q)) m n x y, zE mt (fresh s { t with kc := upd t.kc n q })) := by
  refine yF ?_; cases mt <;> kernel_rfl
theorem nk_t {k v : V} {t : Tb} {x y : Option V} {m : Nat} (hm : m < 8) (h : s.vv (t.kc m) < 15) : nkT (nkR mt k v m m x y) (zE mt (fresh s t)) = some (true, zE mt (fresh s t)) := by
  rw [nk_tst m hm]; unfold cmpO; dsimp only; rw [isN_u _ h]; rfl
theorem nk_f {k v : V} {t : Tb} {x y : Option V} {m : Nat} (hm : m < 8) (h : s.vv (t.kc m) = 15) : nkT (nkR mt k v m m x y) (zE mt (fresh s t)) = some (false, zE mt (fresh s t)) := by
  rw [nk_tst m hm, h]; cases mt <;> rfl
end
end Mine


section
namespace Mine
noncomputable def tri (c : Nat) : Nat := [3, 4, 7].getD c 0
theorem tri_of : ∀ k, k < 11 → 3 ≤ k → mpN k = 2 → ∃ c, c < 3 ∧ k = tri c := by decide
theorem upd_self {α : Type} (f : Nat → α) (a : Nat) : upd f a (f a) = f := by
  funext x; unfold upd; split
  · rename_i h; rw [h]
  · rfl
theorem upd_eq {α : Type} {f : Nat → α} {a : Nat} {b : α} (h : f a = b) : upd f a b = f := h ▸ upd_self f a
section
variable {mt : Bool} {s : PS}
theorem nk_col7 {rh pa : Fn} {q : Nat} {kc : Nat → Nat} {nx : Nat → Int} : ∀ c, c < 3 → zI (nkA rh pa :: nkZ) (nkR mt (uV mt q) (uV mt (s.vv q)) 2 2 none none) (zE mt (fresh s ⟨upd (upd kc 2 (tri c)) 7 15, nx, 8⟩)) =
    some (.next, nkR mt (uV mt q) (uV mt (s.vv q)) 2 7 (some (.int 7)) (some (.int 2)), zE mt (fresh s ⟨upd (upd (upd kc 2 (tri c)) 7 15) 7 q, upd (upd nx 7 (nx 2)) 2 7, 7⟩)) := by
  refine yF ?_; cases mt <;> kernel_rfl
theorem nk_col6 {rh pa : Fn} {q : Nat} {kc : Nat → Nat} {nx : Nat → Int} : ∀ c, c < 3 → zI (nkA rh pa :: nkZ) (nkR mt (uV mt q) (uV mt (s.vv q)) 2 2 none none) (zE mt (fresh s ⟨upd (upd kc 2 (tri c)) 6 15, nx, 7⟩)) =
    some (.next, nkR mt (uV mt q) (uV mt (s.vv q)) 2 6 (some (.int 6)) (some (.int 2)), zE mt (fresh s ⟨upd (upd (upd kc 2 (tri c)) 6 15) 6 q, upd (upd nx 6 (nx 2)) 2 6, 6⟩)) := by
  refine yF ?_; cases mt <;> kernel_rfl
theorem nk_mov {rh pa : Fn} {q : Nat} {kc : Nat → Nat} {nx : Nat → Int} : zI (nkA rh pa :: nkZ) (nkR mt (uV mt q) (uV mt (s.vv q)) 6 6 none none) (zE mt (fresh s ⟨upd (upd kc 6 7) 5 15, upd nx 2 6, 6⟩)) =
    some (.next, nkR mt (uV mt q) (uV mt (s.vv q)) 6 6 (some (.int 5)) (some (.int 2)), zE mt (fresh s ⟨upd (upd (upd (upd kc 6 7) 5 15) 5 7) 6 q, upd (upd (upd (upd nx 2 6) 2 5) 5 (nx 6)) 6 (-1), 5⟩)) := by
  cases mt <;> kernel_rfl
theorem if_t {t : Ex Bool} {a b : St} {r : List St} {ρ : Rho} {σ : H} (h : t ρ σ = some (true, σ)) : zI (ifS t a b :: r) ρ σ = zI (a :: r) ρ σ := by
  rw [seqS_c, seqS_c]; unfold ifS; rw [h]; rfl
theorem new_key_run {rh pa : Fn} {t t' : Tb} {i : Nat} (hi : i < 8) (hz : s.vv 15 = 15) (hv : ∀ p, p < 8 → t.kc p ≠ 15 → s.vv (t.kc p) < 15) (h : ins t (i + 3) = some t') :
    f_new_key rh pa [.obj (T mt), uV mt (i + 3), uV mt (s.vv (i + 3)), .none] (zE mt (fresh s t)) = some (.none, zE mt (fresh s t')) := by
  have hm : ∀ i, i < 8 → mpN (i + 3) < 8 := by decide
  have hm := hm i hi
  suffices hs : ∃ ρ', zI (ifS nkT (nkA rh pa) (zI []) :: nkZ) (nkR mt (uV mt (i + 3)) (uV mt (s.vv (i + 3))) (mpN (i + 3)) (mpN (i + 3)) none none) (zE mt (fresh s t)) = some (.next, ρ', zE mt (fresh s t')) by
    obtain ⟨ρ', hs⟩ := hs
    exact fn_end rfl (Eq.trans (nk_pre i hi) hs) (by simp)
  unfold ins at h
  obtain ⟨kc, nx, free⟩ := t
  dsimp only at h hv
  by_cases h1 : kc (mpN (i + 3)) = 15
  · rw [if_pos h1] at h; cases h
    exact ⟨_, zN (if_of (nk_f hm (by dsimp only; rw [h1, hz])) rfl) (nk_put _ hm)⟩
  rw [if_neg h1] at h
  have ht := if_t (a := nkA rh pa) (b := zI []) (r := nkZ) (nk_t (mt := mt) (s := s) (k := uV mt (i + 3)) (v := uV mt (s.vv (i + 3))) (t := ⟨kc, nx, free⟩) (x := none) (y := none) hm (hv _ hm h1))
  by_cases h2 : mpN (i + 3) = 2 ∧ mpN (kc 2) = 2 ∧ 3 ≤ kc 2 ∧ kc 2 < 11 ∧ free = 8 ∧ kc 7 = 15
  · rw [if_pos h2] at h; cases h
    obtain ⟨e1, e2, e3, e4, rfl, e6⟩ := h2
    obtain ⟨c, hc, e5⟩ := tri_of _ e4 e3 e2
    have hk := nk_col7 (mt := mt) (s := s) (rh := rh) (pa := pa) (q := i + 3) (kc := kc) (nx := nx) c hc
    rw [upd_eq e5, upd_eq e6] at hk
    rw [e1] at ht ⊢
    exact ⟨_, ht.trans hk⟩
  rw [if_neg h2] at h
  by_cases h3 : mpN (i + 3) = 2 ∧ mpN (kc 2) = 2 ∧ 3 ≤ kc 2 ∧ kc 2 < 11 ∧ free = 7 ∧ kc 6 = 15
  · rw [if_pos h3] at h; cases h
    obtain ⟨e1, e2, e3, e4, rfl, e6⟩ := h3
    obtain ⟨c, hc, e5⟩ := tri_of _ e4 e3 e2
    have hk := nk_col6 (mt := mt) (s := s) (rh := rh) (pa := pa) (q := i + 3) (kc := kc) (nx := nx) c hc
    rw [upd_eq e5, upd_eq e6] at hk
    rw [e1] at ht ⊢
    exact ⟨_, ht.trans hk⟩
  rw [if_neg h3] at h
  by_cases h4 : mpN (i + 3) = 6 ∧ kc 6 = 7 ∧ nx 2 = 6 ∧ free = 6 ∧ kc 5 = 15
  · rw [if_pos h4] at h; cases h
    obtain ⟨e1, e2, e3, rfl, e6⟩ := h4
    have hk := nk_mov (mt := mt) (s := s) (rh := rh) (pa := pa) (q := i + 3) (kc := kc) (nx := nx)
    rw [upd_eq e2, upd_eq e6, upd_eq e3] at hk
    rw [e1] at ht ⊢
    rw [e2]
    exact ⟨_, ht.trans hk⟩
  · rw [if_neg h4] at h; cases h
end
end Mine


section
namespace Mine
noncomputable def chainL (nx : Nat → Int) : Nat → Int → Option (List Nat)
  | 0, _ => none
  | f + 1, p => if p = -1 then some [] else if 0 ≤ p ∧ p < 8 then (chainL nx f (nx p.toNat)).map (p.toNat :: ·) else none
theorem chain_of {nx : Nat → Int} : ∀ (f : Nat) (p : Int) (l : List Nat), chainL nx f p = some l → Chain nx p l ∧ l.length ≤ f
  | 0, _, _, h => nomatch h
  | f + 1, p, l, h => by
    unfold chainL at h
    by_cases h1 : p = -1
    · rw [if_pos h1] at h; cases h; exact ⟨h1, Nat.zero_le _⟩
    rw [if_neg h1] at h
    by_cases h2 : 0 ≤ p ∧ p < 8
    · rw [if_pos h2] at h
      obtain ⟨l', e1, e2⟩ := Option.map_eq_some_iff.mp h
      obtain ⟨a, b⟩ := chain_of f _ _ e1
      cases e2
      exact ⟨⟨(Int.toNat_of_nonneg h2.1).symm, (Int.toNat_lt h2.1).mpr h2.2, a⟩, Nat.succ_le_succ b⟩
    · rw [if_neg h2] at h; cases h
noncomputable def KeyC (k : Nat) : Prop := k = 15 ∨ (3 ≤ k ∧ k < 11)
theorem kcd_of {k : Nat} (h : KeyC k) : ∃ j, j < 9 ∧ k = kcd j := by
  rcases h with rfl | ⟨h1, h2⟩
  · exact ⟨0, by decide, rfl⟩
  · refine ⟨k - 2, by omega, ?_⟩
    unfold kcd; rw [if_neg (by omega)]; omega
section
variable {mt : Bool} {s : PS}
theorem raw_key {k i : Nat} (hk : KeyC k) (hi : i < 8) : xG [uV mt k, uV mt (i + 3)] (zE mt s) = some (.bool (k == i + 3), zE mt s) := by
  obtain ⟨j, hj, rfl⟩ := kcd_of hk
  exact raw_eq hj hi
noncomputable def s1 (s : PS) : PS := { s with fl := .int 0 }
noncomputable def ptL (nk : Fn) : List St := [
    zQ (zG 5) (yT .table wX (zC 0) [(zC 1)]),
    ifS (zX (zC 5) [(.ge, (cE (.int 0)))]) (zI [
      zQ (yQ (yB (zL (zC 0) .nodes) (zC 5)) .value) (zC 2)]) (zI [
      yR (yT .table nk (zC 0) [(zC 1), (zC 2), (zC 3)])])]
noncomputable def ptR (mt : Bool) (k v : V) (a : Int) (x : Option V) : Rho := [some (.obj (T mt)), some k, some v, some .none, some (.int a), x, none, none]
theorem put_pre {nk : Fn} {v : V} {s : PS} : ∀ i, i < 8 → zI [
  zQ (zG 4) (zR wY [(zC 1)]),
  ifS (zX (cE (.int 1)) [(.le, (zC 4)), (.le, (wB (zL (zC 0) .array)))]) (zI [
    zQ (itemA (zL (zC 0) .array) (yX .sub (zC 4) (cE (.int 1)))) (zC 2)]) (zI (ptL nk)),
  ifS (zX (zC 3) [(.isnot, (cE .none))]) (zI [
    yR (noE)]) (zI [])] [some (.obj (T mt)), some (uV mt (i + 3)), some v, some .none, none, none, none, none] (zE mt s) =
    zI [zI (ptL nk), ifS (zX (zC 3) [(.isnot, (cE .none))]) (zI [yR (noE)]) (zI [])] (ptR mt (uV mt (i + 3)) v (aiC i) none) (zE mt s) := by
  refine yF ?_; cases mt <;> kernel_rfl
theorem put_new {rh pa : Fn} {t t' : Tb} {i : Nat} (hi : i < 8) (hz : s.vv 15 = 15) (hk : ∀ p, p < 8 → KeyC (t.kc p)) (hv : ∀ p, p < 8 → t.kc p ≠ 15 → s.vv (t.kc p) < 15) {l : List Nat} (hc : chainL t.nx 8 (mp (i + 3)) = some l) (hn : ∀ p ∈ l, t.kc p ≠ i + 3) (h : ins t (i + 3) = some t') :
    f_put (f_new_key rh pa) [.obj (T mt), uV mt (i + 3), uV mt (s.vv (i + 3)), .none] (zE mt (fresh s t)) = some (.none, zE mt (fresh s t')) := by
  obtain ⟨hc, hl⟩ := chain_of _ _ _ hc
  have hf := find_node (mt := mt) (s := fresh s t) hi (r := fun p => t.kc p == i + 3) (fun p hp => raw_key (hk p hp) hi) hc (Nat.lt_of_le_of_lt ‹_› (by decide))
  have e : l.find? (fun p => t.kc p == i + 3) = none := List.find?_eq_none.mpr fun p hp => by simpa using hn p hp
  rw [e] at hf
  have ht : ∀ mt : Bool, isObj .table (.obj (T mt)) (zE mt (fresh s t)) = true := fun mt => by cases mt <;> kernel_rfl
  refine fn_end rfl (Eq.trans (put_pre i hi) (zN (zN (ρ' := ptR mt (uV mt (i + 3)) (uV mt (s.vv (i + 3))) (aiC i) (some (.int (-1)))) (wF (meth_of rfl (ht mt) rfl hf) rfl) (zN (if_of (x := false) rfl (zN (expr_of (meth_of rfl (ht mt) rfl (new_key_run hi hz hv h))) rfl)) rfl)) rfl)) (by simp)
theorem set_new {t t' : Tb} {i : Nat} (hi : i < 8) (hz : s.vv 15 = 15) (hk : ∀ p, p < 8 → KeyC (t.kc p)) (hv : ∀ p, p < 8 → t.kc p ≠ 15 → s.vv (t.kc p) < 15) {l : List Nat} (hc : chainL t.nx 8 (mp (i + 3)) = some l) (hn : ∀ p ∈ l, t.kc p ≠ i + 3) (h : ins t (i + 3) = some t') :
    set1 [.obj (T mt), uV mt (i + 3), uV mt (s.vv (i + 3)), .none] (zE mt (fresh s t)) = some (.none, zE mt (fresh (s1 s) t')) := by
  have h1 : ∀ i, i < 8 → ∀ mt : Bool, zI [
    zQ (yQ (zC 0) .flags) (cE (.int 0)),
    ifS (zX (zC 1) [(.is, (cE .none))]) (zI [
      noS]) (zI []),
    yR (yT .table pt1 (zC 0) [(zC 1), (zC 2), (zC 3)])] [some (.obj (T mt)), some (uV mt (i + 3)), some (uV mt (s.vv (i + 3))), some .none, none] (zE mt (fresh s t)) =
    zI [yR (yT .table pt1 (zC 0) [(zC 1), (zC 2), (zC 3)])] [some (.obj (T mt)), some (uV mt (i + 3)), some (uV mt (s.vv (i + 3))), some .none, none] (zE mt (fresh (s1 s) t)) := fun i hi mt => by
      clear hc hn h; revert i; refine yF ?_; cases mt <;> kernel_rfl
  have ht : ∀ mt : Bool, isObj .table (.obj (T mt)) (zE mt (fresh (s1 s) t)) = true := fun mt => by cases mt <;> kernel_rfl
  show f_set pt1 _ _ = _
  refine fn_end rfl (Eq.trans (h1 i hi mt) (zN (σ' := zE mt (fresh (s1 s) t')) (expr_of (meth_of rfl (ht mt) rfl (put_new (s := s1 s) hi hz hk hv hc hn h))) rfl)) (by simp)
theorem set_arr {t : Tb} {u : Nat} : ∀ q, q < 3 → set1 [.obj (T mt), uV mt q, uV mt u, .none] (zE mt (fresh s t)) = some (.none, zE mt (fresh { s1 s with av := upd s.av q u } t)) := by
  refine yF ?_; cases mt <;> kernel_rfl
end
end Mine


section
namespace Mine
noncomputable def keysB (bs : List Bool) (t : Tb) : Bool := (List.range 8).all fun p => t.kc p == 15 || ((decide (3 ≤ t.kc p) && decide (t.kc p < 11)) && bs.getD (t.kc p - 3) false)
noncomputable def absB (t : Tb) (q : Nat) : Bool := match chainL t.nx 8 (mp q) with | some l => l.all fun p => t.kc p != q | none => false
noncomputable def hereB (t : Tb) (q : Nat) : Bool := match chainL t.nx 8 (mp q) with | some l => (l.find? fun p => t.kc p == q).isSome | none => false
noncomputable def goodB (bs : List Bool) (t : Tb) : Bool :=
  keysB bs t && (((List.range 8).all fun i => !bs.getD i false || hereB t (i + 3)) && (((List.range 8).map t.kc).filter (· != 15)).isPerm (((List.range 8).filter fun i => bs.getD i false).map (· + 3)))
noncomputable def tree : Nat → Nat → List Bool → Tb → Bool
  | 0, _, bs, t => goodB bs t
  | n + 1, i, bs, t => tree n (i + 1) (bs ++ [false]) t && (keysB bs t && (absB t (i + 3) && match ins t (i + 3) with | some t' => tree n (i + 1) (bs ++ [true]) t' | none => false))
noncomputable def t0 : Tb := ⟨fun _ => 15, fun _ => -1, 8⟩
theorem tree_ok : tree 8 0 [] t0 = true := by kernel_rfl
theorem keys_at {t : Tb} {bs : List Bool} (h : keysB bs t = true) : ∀ p, p < 8 → t.kc p = 15 ∨ (3 ≤ t.kc p ∧ t.kc p < 11) ∧ bs.getD (t.kc p - 3) false = true := fun p hp => by
  have := List.all_eq_true.mp h p (List.mem_range.mpr hp)
  rw [Bool.or_eq_true, Bool.and_eq_true, Bool.and_eq_true, decide_eq_true_iff, decide_eq_true_iff, beq_iff_eq] at this
  exact this
theorem keys_of {t : Tb} {bs : List Bool} (h : keysB bs t = true) : ∀ p, p < 8 → KeyC (t.kc p) := fun p hp =>
  (keys_at h p hp).imp id And.left
theorem getD_some {b : Nat → Bool} {n i : Nat} (h : ((List.range n).map b).getD i false = true) : b i = true := by
  rcases Nat.lt_or_ge i n with h1 | h1
  · simpa [h1] using h
  · rw [List.getD_eq_getElem?_getD, List.getElem?_eq_none (by simpa using h1)] at h; cases h
theorem keys_in {t : Tb} {b : Nat → Bool} {n : Nat} (h : keysB ((List.range n).map b) t = true) : ∀ p, p < 8 → t.kc p = 15 ∨ b (t.kc p - 3) = true ∧ 3 ≤ t.kc p := fun p hp =>
  (keys_at h p hp).imp id fun a => ⟨getD_some a.2, a.1.1⟩
theorem abs_of {t : Tb} {q : Nat} (h : absB t q = true) : ∃ l, chainL t.nx 8 (mp q) = some l ∧ ∀ p ∈ l, t.kc p ≠ q := by
  unfold absB at h
  cases e : chainL t.nx 8 (mp q) with
  | none => rw [e] at h; cases h
  | some l => rw [e] at h; exact ⟨l, rfl, fun p hp => by simpa using List.all_eq_true.mp h p hp⟩
theorem here_of {t : Tb} {q : Nat} (h : hereB t q = true) : ∃ l p, chainL t.nx 8 (mp q) = some l ∧ l.find? (fun p => t.kc p == q) = some p := by
  unfold hereB at h
  cases e : chainL t.nx 8 (mp q) with
  | none => rw [e] at h; cases h
  | some l => rw [e] at h; obtain ⟨p, hp⟩ := Option.isSome_iff_exists.mp h; exact ⟨l, p, rfl, hp⟩
structure Good (b : Nat → Bool) (t : Tb) : Prop where
  keys : ∀ p, p < 8 → KeyC (t.kc p)
  bits : ∀ p, p < 8 → t.kc p = 15 ∨ b (t.kc p - 3) = true ∧ 3 ≤ t.kc p
  here : ∀ i, i < 8 → b i = true → ∃ l p, chainL t.nx 8 (mp (i + 3)) = some l ∧ l.find? (fun p => t.kc p == i + 3) = some p
  perm : (((List.range 8).map t.kc).filter (· != 15)).Perm (((List.range 8).filter b).map (· + 3))
theorem getD_map (b : Nat → Bool) (n i : Nat) (hi : i < n) : ((List.range n).map b).getD i false = b i := by simp [hi]
theorem good_of {b : Nat → Bool} {t : Tb} (h : goodB ((List.range 8).map b) t = true) : Good b t := by
  unfold goodB at h
  rw [Bool.and_eq_true, Bool.and_eq_true] at h
  obtain ⟨h1, h2, h3⟩ := h
  refine ⟨keys_of h1, keys_in h1, fun i hi hb => ?_, ?_⟩
  · have := List.all_eq_true.mp h2 i (List.mem_range.mpr hi)
    rw [getD_map b 8 i hi, hb] at this
    exact here_of this
  · have := List.isPerm_iff.mp h3
    rwa [List.filter_congr (q := b) fun i hi => getD_map b 8 i (List.mem_range.mp hi)] at this
end Mine


section
namespace Mine
theorem okLen_of {xs : List V} (h : xs.length ≤ 100000) : okLen xs = true := decide_eq_true h
theorem mod_of {a b : Int} {σ : H} (hb : 0 < b) : binO .mod (.int a) (.int b) σ = some (.int (a.fmod b), σ) := by
  unfold binO intO; dsimp only; rw [if_neg (by omega)]; rfl
noncomputable def skH (x0 x1 : MO) (ns : List Int) (t : Int) (c : Nat) (R : H) : H := x0 :: x1 :: .list (ns.map .int) :: sackC t c :: R
theorem drawn {x0 x1 : MO} {ns : List Int} {t b : Int} {c : Nat} {R : H} (hl : ns.length ≤ 60) (hc : c < 1000) (hb : 0 < b) :
    yG [.obj 3, .int b] (skH x0 x1 ns t c R) = some (.int (drw ns t c b), skH x0 x1 ns t (c + 1) R) := by
  have hlen : lenO (.obj 2) (skH x0 x1 ns t (c + 1) R) = some (.int ns.length) := by
    show (if okLen (ns.map V.int) then some (V.int (ns.map V.int).length) else none) = _
    rw [okLen_of (by rw [List.length_map]; exact Nat.le_trans ‹_› (by decide)), List.length_map]; rfl
  have hlt : zX (zC 2) [(.lt, (wB (yB (zC 0) (cE (.int 0)))))] [some (.obj 3), some (.int b), some (.int c), none] (skH x0 x1 ns t (c + 1) R) = some (decide ((c : Int) < ns.length), skH x0 x1 ns t (c + 1) R) :=
    wQ rfl (len_of rfl hlen) rfl
  refine xN rfl (zN rfl (zN (σ' := skH x0 x1 ns t (c + 1) R) rfl (yP (wP (bin_of (ite_of hlt (r := some (.int (if (c : Int) < ns.length then ns.getD c 0 else t + 5 * c + (c : Int).fdiv 2), _)) ?_) rfl (mod_of hb)))))) (by simp)
  by_cases h : (c : Int) < ns.length
  · have hn : c < ns.length := by exact Int.ofNat_lt.mp ‹_›
    rw [decide_eq_true h, if_pos h]
    refine item_of rfl rfl ?_
    show (place (ns.map V.int).length c).bind ((ns.map V.int)[·]?) = _
    have hp : place (ns.map V.int).length (c : Int) = some c := by unfold place; simp; omega
    rw [hp]; simp [hn]
  · rw [decide_eq_false h, if_neg h]
    have sc : small (c : Int) = true := decide_eq_true (by show c < 2 ^ 40; exact Nat.lt_of_lt_of_le ‹_› (by decide))
    refine bin_of (σ₁ := skH x0 x1 ns t (c + 1) R) (σ₂ := skH x0 x1 ns t (c + 1) R) (bin_of (σ₁ := skH x0 x1 ns t (c + 1) R) rfl (bin_of (σ₁ := skH x0 x1 ns t (c + 1) R) (σ₂ := skH x0 x1 ns t (c + 1) R) rfl rfl (y := .int c) (r := some (.int (5 * c), skH x0 x1 ns t (c + 1) R)) ?_) rfl) (bin_of rfl rfl (x := .int c) (σ₁ := skH x0 x1 ns t (c + 1) R) (σ₂ := skH x0 x1 ns t (c + 1) R) (r := some (.int ((c : Int).fdiv 2), skH x0 x1 ns t (c + 1) R)) ?_) rfl
    · show (if small 5 && small (c : Int) then some (5 * (c : Int)) else none : Option Int).map _ = _
      rw [sc]; rfl
    · show (if (2 : Int) = 0 then none else if small (c : Int) && small 2 then some ((c : Int).fdiv 2) else none : Option Int).map _ = _
      rw [sc]; rfl
end Mine


section
namespace Mine
theorem compL_pure {α : Type} {it : It} {tg : As} {ifs : List (Ex Bool)} {elt : Ex V} {σ : H} {us : List α} {val : α → V} {p : α → Bool} {g : α → V} (I : Rho → Prop)
    (hn : ∀ k, it.nxt k σ = some (us.map val)[k]?)
    (step : ∀ v, v ∈ us → ∀ ρ, I ρ → ∃ ρ₁, tg (val v) ρ σ = some (ρ₁, σ) ∧ I ρ₁ ∧ allT ifs ρ₁ σ = some (p v, σ) ∧ (p v = true → elt ρ₁ σ = some (g v, σ))) :
    ∀ (f k : Nat) (ρ : Rho) (acc : List V), I ρ → k ≤ us.length → us.length < f + k → compL it tg ifs elt f k ρ σ acc = some (acc ++ ((us.drop k).filter p).map g, σ)
  | 0, k, ρ, acc, hI, hk, hf => absurd hf (by rw [Nat.zero_add]; exact Nat.not_lt_of_le hk)
  | f + 1, k, ρ, acc, hI, hk', hf => by
    have h := hn k
    rw [List.getElem?_map] at h
    rw [compL_c, h]
    rcases Nat.lt_or_ge k us.length with hk | hk
    · rw [List.getElem?_eq_getElem hk]
      obtain ⟨ρ₁, e1, i1, e2, e3⟩ := step _ (List.getElem_mem hk) ρ hI
      rw [List.drop_eq_getElem_cons hk]
      simp only [Option.map_some, e1, e2]
      cases hp : p us[k] with
      | true =>
        simp only [e3 hp]
        rw [compL_pure I hn step f (k + 1) ρ₁ _ i1 ‹_› (Nat.lt_of_lt_of_eq hf (Nat.succ_add_eq_add_succ f k)), List.filter_cons_of_pos hp, List.map_cons, List.append_assoc]; rfl
      | false =>
        simp only
        rw [compL_pure I hn step f (k + 1) ρ₁ _ i1 ‹_› (Nat.lt_of_lt_of_eq hf (Nat.succ_add_eq_add_succ f k)), List.filter_cons_of_neg (by simp [hp])]
    · rw [List.getElem?_eq_none hk, List.drop_eq_nil_of_le hk]
      simp
theorem filter_all {α : Type} {us : List α} : us.filter (fun _ => true) = us := List.filter_eq_self.mpr fun _ _ => rfl
theorem comp_run {α : Type} {it : It} {tg : As} {ifs : List (Ex Bool)} {elt : Ex V} {σ : H} {us : List α} {val : α → V} {p : α → Bool} {g : α → V} (I : Rho → Prop) {ρ : Rho} (hI : I ρ) (hl : us.length < 100)
    (hn : ∀ k, it.nxt k σ = some (us.map val)[k]?)
    (step : ∀ v, v ∈ us → ∀ ρ, I ρ → ∃ ρ₁, tg (val v) ρ σ = some (ρ₁, σ) ∧ I ρ₁ ∧ allT ifs ρ₁ σ = some (p v, σ) ∧ (p v = true → elt ρ₁ σ = some (g v, σ))) :
    compL it tg ifs elt 100 0 ρ σ [] = some ((us.filter p).map g, σ) := by
  rw [compL_pure I hn step 100 0 ρ [] hI (Nat.zero_le _) hl, List.drop_zero, List.nil_append]
theorem comp_all {α : Type} {it : It} {tg : As} {elt : Ex V} {σ : H} {us : List α} {val : α → V} {g : α → V} (I : Rho → Prop) {ρ : Rho} (hI : I ρ) (hl : us.length < 100)
    (hn : ∀ k, it.nxt k σ = some (us.map val)[k]?)
    (step : ∀ v, v ∈ us → ∀ ρ, I ρ → ∃ ρ₁, tg (val v) ρ σ = some (ρ₁, σ) ∧ I ρ₁ ∧ elt ρ₁ σ = some (g v, σ)) :
    compL it tg [] elt 100 0 ρ σ [] = some (us.map g, σ) := by
  have := comp_run (p := fun _ => true) (ifs := []) I hI hl hn fun v hv ρ h => by
    obtain ⟨ρ₁, a, b, c⟩ := step v hv ρ h
    exact ⟨ρ₁, a, b, rfl, fun _ => c⟩
  rw [filter_all] at this; exact this
theorem newL_of {xs : List V} {σ : H} (h : xs.length ≤ 100000) : newL xs σ = some (.obj σ.length, σ ++ [.list xs]) := by
  unfold newL; rw [if_pos (okLen_of h)]
theorem intsOf_mapI : ∀ (ns : List Int), intsOf (ns.map .int) = some ns
  | [] => rfl
  | n :: ns => by rw [List.map_cons, intsOf, intsOf_mapI ns]; rfl
noncomputable def hd60 (xs : List Int) : List Int := xs.take 60
noncomputable def absL (xs : List Int) : List Int := (hd60 xs).map fun i => (i.natAbs : Int)
noncomputable def tot (xs : List Int) : Int := (absL xs).sum.fmod 71
theorem len60 (xs : List Int) : (hd60 xs).length ≤ 60 := by unfold hd60; rw [List.length_take]; exact Nat.le_trans (Nat.min_le_left _ _) (by decide)
theorem lenA (xs : List Int) : (absL xs).length ≤ 60 := by unfold absL; rw [List.length_map]; exact len60 xs
theorem sack_spec {xs : List Int} (hl : xs.length ≤ 1000) : f__law_sack [.obj 0] [.list (xs.map .int)] = some (.obj 3, skH (.list (xs.map .int)) (.list ((hd60 xs).map .int)) (absL xs) (tot xs) 0 []) := by
  have e1 : (xs.map V.int).take 60 = (hd60 xs).map V.int := List.map_take.symm
  have h1 : xJ (headE (zC 0) (cE (.int 60))) [some (.obj 0), none, none] [.list (xs.map .int)] = some (.lst 1, [.list (xs.map .int), .list ((hd60 xs).map .int)]) := by
    refine zW (a := .obj 1) (σ₁ := [.list (xs.map .int), .list ((hd60 xs).map .int)]) (zW (a := .obj 0) (σ₁ := [.list (xs.map .int)]) rfl (zW (a := .int 60) (σ₁ := [.list (xs.map .int)]) rfl ?_)) rfl
    show (if okLen (xs.map .int) then newL ((xs.map V.int).take 60) [.list (xs.map .int)] else none) = _
    rw [if_pos (okLen_of (by rw [List.length_map]; exact Nat.le_trans ‹_› (by decide))), e1, newL_of (by have := len60 xs; rw [List.length_map]; exact Nat.le_trans ‹_› (by decide))]; rfl
  have h2 : compL (.lst 1) (zG 1) [] (absE (zC 1)) 100 0 [none, none, none] [.list (xs.map .int), .list ((hd60 xs).map .int)] [] = some ((hd60 xs).map fun i => V.int i.natAbs, _) :=
    comp_all (us := hd60 xs) (val := .int) (fun ρ => ∃ x, ρ = [none, x, none]) ⟨_, rfl⟩ (by have := len60 xs; exact Nat.lt_of_le_of_lt ‹_› (by decide)) (fun k => rfl) (fun v hv ρ hρ => by
      obtain ⟨x, rfl⟩ := hρ
      exact ⟨_, rfl, ⟨_, rfl⟩, rfl⟩)
  have e2 : ((hd60 xs).map fun i => V.int i.natAbs) = (absL xs).map .int := by
    unfold absL; rw [List.map_map]; rfl
  rw [e2] at h2
  have la : ((absL xs).map V.int).length ≤ 100000 := by have := lenA xs; rw [List.length_map]; exact Nat.le_trans ‹_› (by decide)
  have h3 := jO (fv := [none, none, none]) h1 h2 (newL_of la)
  have h4 : yX .mod (sumE (zC 1)) (cE (.int 71)) [some (.obj 0), some (.obj 2), none] [.list (xs.map .int), .list ((hd60 xs).map .int), .list ((absL xs).map .int)] = some (.int (tot xs), [.list (xs.map .int), .list ((hd60 xs).map .int), .list ((absL xs).map .int)]) := by
    refine bin_of (zW (a := .obj 2) (σ₁ := [.list (xs.map .int), .list ((hd60 xs).map .int), .list ((absL xs).map .int)]) rfl (read_of (b := .int (absL xs).sum) ?_)) rfl (mod_of (by decide))
    show (intsOf ((absL xs).map .int)).map (fun ns => V.int ns.sum) = _
    rw [intsOf_mapI]; rfl
  exact xN rfl (zN (wF h3 rfl) (yP (wP (zW (wE rfl (wE h4 rfl)) rfl)))) (by simp)
noncomputable def wS (k : Nat) : List Nat := [[107], [118], [107, 118], [107, 118], [], []].getD k []
noncomputable def wz : Bool → Nat → List Nat | false, _ => [] | true, k => wS k
noncomputable def ssL (k : Nat) : List V := (wS k).map fun c => .str [c]
theorem meta_spec {x0 x1 : MO} {ns : List Int} {t : Int} (hl : ns.length ≤ 60) : ∃ mt k ss, k < 6 ∧ f__law_meta [.obj 3] (skH x0 x1 ns t 0 []) = some (.tup [metaV mt, .str (wz mt k)], hdH mt x0 x1 ns t 1 k ss) := by
  have h0 := drawn (x0 := x0) (x1 := x1) (t := t) (c := 0) (R := []) hl (by decide) (b := 7) (by decide)
  have hn := drw_nn ns t 0 (b := 7) (by decide)
  have hlt := drw_lt ns t 0 (b := 7) (by decide)
  obtain ⟨k, hk⟩ := Int.eq_ofNat_of_zero_le hn
  rw [hk] at h0 hlt
  have h1 := wF (i := 1) (ρ := [some (.obj 3), none, none, none, none, none]) (ρ' := [some (.obj 3), some (.int k), none, none, none, none]) (yJ (es := [(zC 0), (cE (.int 7))]) rfl h0) rfl
  by_cases h6 : k = 6
  · subst h6
    exact ⟨false, 0, [], by decide, xN rfl (zN h1 (yP (ρ' := [some (.obj 3), some (.int 6), none, none, none, none]) (by kernel_rfl))) (by simp)⟩
  · have hk6 : k < 6 := by omega
    refine ⟨true, k, ssL k, hk6, xN (ρ' := [some (.obj 3), some (.int k), some (.obj 4), some (.obj 7), none, none]) rfl (zN h1 ?_) (by simp)⟩
    clear h1 h0 hlt h6 hn hk
    revert k; refine no_implicit_lambda% (yF ?_); kernel_rfl
end Mine


section
namespace Mine
noncomputable def cj (j : Nat) : Nat := [1, 2, 3, 5, 7, 8, 9].getD j 0
noncomputable def n0 (i : Nat) : Int := [20, 21, 0, 0, 0, 0].getD i 0
noncomputable def nj (j i : Nat) : Int := if i < j then num i else n0 i
noncomputable def mkD (ns : List Int) (t : Int) (i : Nat) : Int := drw ns t (cj i) 4
noncomputable def finD (ns : List Int) (t : Int) (i : Nat) : Bool := drw ns t (cj i + 1) 3 == 0
noncomputable def mj (ns : List Int) (t : Int) (j i : Nat) : Int := if i < j then mkD ns t i else 0
noncomputable def fj (ns : List Int) (t : Int) (j i : Nat) : Bool := if i < j then finD ns t i else false
noncomputable def oX (mt : Bool) (ns : List Int) (t : Int) (j : Nat) : H := obH (B mt) (nj j) (mj ns t j) (fj ns t j) ++ List.replicate j mnu
noncomputable def oY (mt : Bool) (ns : List Int) (t : Int) (j : Nat) : H := obH (B mt) (nj j) (mj ns t j) (fj ns t j) ++ List.replicate (j + 1) mnu
noncomputable def oZ (mt : Bool) (ns : List Int) (t : Int) (j : Nat) (m : Int) : H := obH (B mt) (nj (j + 1)) (upd (mj ns t j) j m) (fj ns t j) ++ List.replicate (j + 1) mnu
noncomputable def ud (j : Nat) : Bool := j == 2 || j == 3
noncomputable def jn (c : Nat) : Nat := [0, 1, 4, 5].getD c 0
theorem ud_f : ∀ j, j < 6 → ud j = false → ∃ c, c < 4 ∧ j = jn c := by decide
theorem ud_t : ∀ j, j < 6 → ud j = true → ∃ c, c < 2 ∧ j = c + 2 := by decide
noncomputable def obR (mt : Bool) (j : Nat) : Rho := [some (.obj 3), some (.obj (B mt + 14)), some (.int j), some (.obj (oj mt j)), none, none, none, none, none, none, none, none]
noncomputable def obS : As := jB [(yQ (zC 3) .number), (yQ (zC 3) .mark)]
noncomputable def obM : Ex V := xM [(cE (.int 0)), (cE (.int 1)), (cE (.int 2)), (cE (.int 3))]
noncomputable def obB : St := zI [
    zQ obS (wU [(yX .add (cE (.int 20)) (zC 2)), (yB obM (zR yG [(zC 0), (cE (.int 4))]))]),
    ifS (xO (jC (zC 3) [.udata])) (zI [
      zQ (yQ (zC 3) .is_finalized) (cmpE (zR yG [(zC 0), (cE (.int 3))]) [(.eq, (cE (.int 0)))])]) (zI [])]
section
variable {mt : Bool} {x0 x1 : MO} {ns : List Int} {t : Int} {c k : Nat} {ss : List V}
theorem drawn_hd {X : H} {b : Int} (hl : ns.length ≤ 60) (hc : c < 1000) (hb : 0 < b) : yG [.obj 3, .int b] (hdH mt x0 x1 ns t c k ss ++ X) = some (.int (drw ns t c b), hdH mt x0 x1 ns t (c + 1) k ss ++ X) := by
  cases mt with
  | false => exact drawn (R := X) hl hc hb
  | true => exact drawn (R := (hdH true x0 x1 ns t c k ss).drop 4 ++ X) hl hc hb
theorem ob_list : ∀ j, j < 6 → obM (obR mt j) (hdH mt x0 x1 ns t c k ss ++ oX mt ns t j) = some (.obj (B mt + 15 + j), hdH mt x0 x1 ns t c k ss ++ oY mt ns t j) := by
  refine yF ?_; cases mt <;> kernel_rfl
theorem ob_item : ∀ j, j < 6 → ∀ n : Nat, n < 4 → itemO (.obj (B mt + 15 + j)) (.int n) (hdH mt x0 x1 ns t c k ss ++ oY mt ns t j) = some (.int n) := fun j hj => by
  refine yF ?_
  exact all_range (f := fun j => (List.range 4).map fun n : Nat => itemO (.obj (B mt + 15 + j)) (.int n) (hdH mt x0 x1 ns t c k ss ++ oY mt ns t j)) (g := fun j => (List.range 4).map fun n : Nat => some (.int n)) (by cases mt <;> kernel_rfl) hj
theorem ob_store {m : Int} : ∀ j : Nat, j < 6 → obS (.tup [.int (20 + j), .int m]) (obR mt j) (hdH mt x0 x1 ns t c k ss ++ oY mt ns t j) = some (obR mt j, hdH mt x0 x1 ns t c k ss ++ oZ mt ns t j m) := by
  refine yF ?_; cases mt <;> kernel_rfl
theorem ob_isi {m : Int} : ∀ j, j < 6 → xO (jC (zC 3) [.udata]) (obR mt j) (hdH mt x0 x1 ns t c k ss ++ oZ mt ns t j m) = some (ud j, hdH mt x0 x1 ns t c k ss ++ oZ mt ns t j m) := by
  refine yF ?_; cases mt <;> kernel_rfl
theorem ob_fin : ∀ c', c' < 2 → yQ (zC 3) .is_finalized (.bool (finD ns t (c' + 2))) (obR mt (c' + 2)) (hdH mt x0 x1 ns t c k ss ++ oZ mt ns t (c' + 2) (mkD ns t (c' + 2))) = some (obR mt (c' + 2), hdH mt x0 x1 ns t c k ss ++ oX mt ns t (c' + 3)) := by
  refine yF ?_; cases mt <;> kernel_rfl
theorem ob_non : ∀ c', c' < 4 → hdH mt x0 x1 ns t (cj (jn c') + 1) k ss ++ oZ mt ns t (jn c') (mkD ns t (jn c')) = hdH mt x0 x1 ns t (cj (jn c' + 1)) k ss ++ oX mt ns t (jn c' + 1) := by
  refine yF ?_; cases mt <;> kernel_rfl
theorem ob_turn (hl : ns.length ≤ 60) {j : Nat} (hj : j < 6) : obB (obR mt j) (hdH mt x0 x1 ns t (cj j) k ss ++ oX mt ns t j) = some (.next, obR mt j, hdH mt x0 x1 ns t (cj (j + 1)) k ss ++ oX mt ns t (j + 1)) := by
  have hcj : ∀ j, j < 6 → cj j < 10 := by decide
  have hc := hcj j hj
  have h1 := yJ (ρ := obR mt j) (es := [(zC 0), (cE (.int 4))]) rfl (drawn_hd (mt := mt) (x0 := x0) (x1 := x1) (t := t) (k := k) (ss := ss) (X := oY mt ns t j) hl (Nat.lt_trans hc (by decide)) (b := 4) (by decide))
  have hn := drw_nn ns t (cj j) (b := 4) (by decide)
  have hlt := drw_lt ns t (cj j) (b := 4) (by decide)
  obtain ⟨n, hn⟩ := Int.eq_ofNat_of_zero_le hn
  have hi := ob_item (mt := mt) (x0 := x0) (x1 := x1) (ns := ns) (t := t) (c := cj j + 1) (k := k) (ss := ss) j hj n (by omega)
  rw [← hn] at hi
  have h2 := item_of (ob_list j hj) h1 hi
  have h3 : wU [(yX .add (cE (.int 20)) (zC 2)), (yB obM (zR yG [(zC 0), (cE (.int 4))]))] (obR mt j) (hdH mt x0 x1 ns t (cj j) k ss ++ oX mt ns t j) = some (.tup [.int (20 + j), .int (mkD ns t j)], hdH mt x0 x1 ns t (cj j + 1) k ss ++ oY mt ns t j) := tup_of (wE rfl (wE h2 rfl))
  have h3 := asg_of h3 (ob_store j hj)
  refine zN h3 (zN (if_of (ob_isi j hj) (r := some (.next, obR mt j, hdH mt x0 x1 ns t (cj (j + 1)) k ss ++ oX mt ns t (j + 1))) ?_) rfl)
  cases hu : ud j with
  | false =>
    obtain ⟨c', hc', rfl⟩ := ud_f j hj hu
    have := ob_non (mt := mt) (x0 := x0) (x1 := x1) (ns := ns) (t := t) (k := k) (ss := ss) c' hc'
    show some (Fl.next, obR mt (jn c'), hdH mt x0 x1 ns t (cj (jn c') + 1) k ss ++ oZ mt ns t (jn c') (mkD ns t (jn c'))) = _
    rw [this]
  | true =>
    obtain ⟨c', hc', rfl⟩ := ud_t j hj hu
    have h4 := yJ (ρ := obR mt (c' + 2)) (es := [(zC 0), (cE (.int 3))]) rfl (drawn_hd (mt := mt) (x0 := x0) (x1 := x1) (t := t) (c := cj (c' + 2) + 1) (k := k) (ss := ss) (X := oZ mt ns t (c' + 2) (mkD ns t (c' + 2))) hl (Nat.lt_of_le_of_lt ‹_› (by decide)) (b := 3) (by decide))
    have e : cj (c' + 2 + 1) = cj (c' + 2) + 1 + 1 := (by decide : ∀ c', c' < 2 → cj (c' + 2 + 1) = cj (c' + 2) + 1 + 1) c' hc'
    rw [e]
    exact zN (asg_of (cmpE_of (wQ h4 rfl rfl)) (ob_fin c' hc')) rfl
theorem ob_next {x y : Option V} : ∀ j, j < 6 → (It.enm (B mt + 14)).nxt j (hdH mt x0 x1 ns t c k ss ++ oX mt ns t j) = some (some (.tup [.int j, .obj (oj mt j)])) := by
  refine yF ?_; cases mt <;> kernel_rfl
theorem ob_loop (hl : ns.length ≤ 60) : ∀ (n j f : Nat) (x y : Option V), n + j = 6 → n < f → ∃ ρ', ρ'[1]? = some (some (.obj (B mt + 14))) ∧
    forL (.enm (B mt + 14)) (jB [(zG 2), (zG 3)]) obB f j [some (.obj 3), some (.obj (B mt + 14)), x, y, none, none, none, none, none, none, none, none] (hdH mt x0 x1 ns t (cj j) k ss ++ oX mt ns t j) =
      some (.next, ρ', hdH mt x0 x1 ns t 9 k ss ++ oX mt ns t 6)
  | _, _, 0, _, _, _, hf => absurd hf (Nat.not_lt_zero _)
  | 0, j, f + 1, x, y, e, hf => by
    rw [Nat.zero_add] at e; subst e
    exact ⟨_, rfl, for_end (by cases mt <;> kernel_rfl)⟩
  | n + 1, j, f + 1, x, y, e, hf => by
    have hj : j < 6 := by exact oA ‹_›
    obtain ⟨ρ', h1, ih⟩ := ob_loop hl n (j + 1) f (some (.int j)) (some (.obj (oj mt j))) (by exact oB ‹_›) (Nat.lt_of_succ_lt_succ hf)
    exact ⟨ρ', h1, for_next (ob_next (x := x) (y := y) j hj) rfl (ob_turn hl hj) ih⟩
noncomputable def obI : List St := [
  zQ (zG 1) (xM [(newE .table jH [(cE (.int 20)), (cE (.int 0)), (cE (.int 0))]), (newE .table jH [(cE (.int 21)), (cE (.int 0)), (cE (.int 0))]), (newE .udata f_Userdata_init [(cE (.str [120])), (cE .none), (cE .none)]), (newE .udata f_Userdata_init [(cE (.str [121])), (cE .none), (cE .none)])]),
  zQ (zG 1) (yX .add (zC 1) (xM [(newE .pyclo f_PyClosure_init [(cE .none), (cE (.bytes [102])), (xM []), (cE .none)]), (newE .pyclo f_PyClosure_init [(cE .none), (cE (.bytes [103])), (xM []), (cE .none)])]))]
theorem ob_make : zI obI [some (.obj 3), none, none, none, none, none, none, none, none, none, none, none] (hdH mt x0 x1 ns t 1 k ss) = some (.next, [some (.obj 3), some (.obj (B mt + 14)), none, none, none, none, none, none, none, none, none, none], hdH mt x0 x1 ns t 1 k ss ++ oX mt ns t 0) := by
  cases mt <;> kernel_rfl
set_option tactic.hygienic true in
theorem seq_app {l r : List St} {ρ ρ' : Rho} {σ σ' : H} {x : Option (Fl × Rho × H)} (h : zI l ρ σ = some (.next, ρ', σ')) (h2 : zI r ρ' σ' = x) : zI (l ++ r) ρ σ = x := by
  induction l generalizing ρ σ with
  | nil => cases h; exact h2
  | cons s l ih =>
    rw [seqS_c] at h
    split at h
    · rename_i e; exact zN e (ih h)
    · rename_i f _ _ hn _; cases h; exact absurd rfl hn
    · cases h
theorem objects_spec (hl : ns.length ≤ 60) : f__law_objects [.obj 3] (hdH mt x0 x1 ns t 1 k ss) = some (.obj (B mt + 14), hdH mt x0 x1 ns t 9 k ss ++ (obH (B mt) num (mkD ns t) (finD ns t) ++ [mnu, mnu, mnu, mnu, mnu, mnu])) := by
  obtain ⟨ρ', h1, h2⟩ := ob_loop (mt := mt) (x0 := x0) (x1 := x1) (t := t) (k := k) (ss := ss) hl 6 0 100 none none rfl (by decide)
  refine xN (ρ' := ρ') rfl (seq_app (l := obI) ob_make (zN (for_of (i := .enm (B mt + 14)) (by cases mt <;> kernel_rfl) h2) (yP (wP ?_)))) (by simp)
  unfold zC; rw [h1]
  cases mt <;> kernel_rfl
end
end Mine


section
namespace Mine
noncomputable def lR (mt : Bool) (w : List Nat) (a8 a9 a10 a11 a12 a13 a14 : Option V) : Rho := [some (.obj 0), some (.obj 3), some (metaV mt), some (.str w), some (.obj (B mt + 14)), some (.obj (T mt)), some (.obj (T mt + 15)), some (.obj (T mt + 17)), a8, a9, a10, a11, a12, a13, a14,
  none, none, none, none, none, none, none, none, none, none, none, none, none, none, none, none, none, none]
noncomputable def inB : St := zI [
    ifS (zX (zR yG [(zC 1), (cE (.int 3))]) [(.gt, (cE (.int 0)))]) (zI [
      zQ (zG 9) (yB (zC 7) (zR yG [(zC 1), (cE (.int 10))])),
      yR (yT .table set1 (zC 5) [(zC 8), (zC 9), (cE .none)]),
      yR (xZ (zC 6) (wU [(zC 8), (zC 9)]))]) (zI [])]
theorem app_of {o a : Ex V} {ρ : Rho} {σ σ₁ : H} {i : Nat} {xs : List V} {y : V} (h1 : o ρ σ = some (.obj i, σ)) (hl : listAt σ (.obj i) = some xs) (h2 : a ρ σ = some (y, σ₁)) (hl' : listAt σ₁ (.obj i) = some xs) (hn : xs.length < 1000) (hi : Nat.beq i 0 = false := by kernel_rfl) :
    xZ o a ρ σ = some (.none, σ₁.set i (.list (xs ++ [y]))) := by
  refine zW h1 (zW (a := ()) (read_of (by rw [hl]; rfl)) (zW h2 ?_))
  show (if i = 0 then .none else match listAt σ₁ (.obj i) with | some xs => if okLen (xs ++ [y]) then some (V.none, σ₁.set i (.list (xs ++ [y]))) else .none | _ => .none : Option (V × H)) = _
  rw [if_neg (fun z => by subst z; cases hi), hl']; dsimp only
  rw [if_pos (okLen_of (by rw [List.length_append]; exact Nat.le_trans (Nat.succ_le_of_lt hn) (by decide)))]
section
variable {mt : Bool} {s s' : PS} {w : List Nat}
theorem drawn_pre {b : Int} (hl : s.ns.length ≤ 60) (hc : s.c < 1000) (hb : 0 < b) : yG [.obj 3, .int b] (zE mt s) = some (.int (drw s.ns s.t s.c b), zE mt { s with c := s.c + 1 }) :=
  drawn_hd hl hc hb
theorem val_item : ∀ r : Nat, r < 10 → itemO (.obj (T mt + 17)) (.int r) (zE mt s) = some (uV mt (vals.getD r 15)) := by
  refine yF ?_; cases mt <;> kernel_rfl
theorem kept_at : listAt (zE mt s) (.obj (T mt + 15)) = some (s.kept.map (prV mt)) := by cases mt <;> kernel_rfl
theorem kept_set {l : List (Nat × Nat)} : (zE mt s).set (T mt + 15) (.list (l.map (prV mt))) = zE mt { s with kept := l } := by cases mt <;> kernel_rfl
theorem turn_no {q : Nat} {x9 : Option V} (hl : s.ns.length ≤ 60) (hc : s.c < 1000) (h : ¬ 0 < drw s.ns s.t s.c 3) :
    inB (lR mt w (some (uV mt q)) x9 none none none none none) (zE mt s) = some (.next, lR mt w (some (uV mt q)) x9 none none none none none, zE mt { s with c := s.c + 1 }) := by
  refine zN (if_of (x := decide (0 < drw s.ns s.t s.c 3)) (wQ (yJ rfl (drawn_pre hl hc (by decide))) rfl rfl) ?_) rfl
  rw [decide_eq_false h]; rfl
theorem turn_yes {q u : Nat} {x9 : Option V} (hl : s.ns.length ≤ 60) (hc : s.c < 900) (h : 0 < drw s.ns s.t s.c 3) (hu : vals.getD (drw s.ns s.t (s.c + 1) 10).toNat 15 = u)
    (hset : set1 [.obj (T mt), uV mt q, uV mt u, .none] (zE mt { s with c := s.c + 2 }) = some (.none, zE mt s')) (hk : s'.kept = s.kept) (hn : s.kept.length < 1000) :
    inB (lR mt w (some (uV mt q)) x9 none none none none none) (zE mt s) = some (.next, lR mt w (some (uV mt q)) (some (uV mt u)) none none none none none, zE mt { s' with kept := s.kept ++ [(q, u)] }) := by
  have h1 := drawn_pre (mt := mt) (s := { s with c := s.c + 1 }) hl (by dsimp only; exact Nat.lt_of_le_of_lt ‹_› (by decide)) (b := 10) (by decide)
  obtain ⟨r, hr⟩ := Int.eq_ofNat_of_zero_le (drw_nn s.ns s.t (s.c + 1) (b := 10) (by decide))
  have hlt := drw_lt s.ns s.t (s.c + 1) (b := 10) (by decide)
  rw [hr] at hlt hu
  dsimp only at h1
  rw [hr] at h1
  have h2 := val_item (mt := mt) (s := { s with c := s.c + 2 }) r (by exact Int.ofNat_lt.mp ‹_›)
  rw [show (Int.toNat ((r : Nat) : Int)) = r from rfl] at hu
  rw [hu] at h2
  have h3 : zQ (zG 9) (yB (zC 7) (zR yG [(zC 1), (cE (.int 10))])) (lR mt w (some (uV mt q)) x9 none none none none none) (zE mt { s with c := s.c + 1 }) = some (.next, lR mt w (some (uV mt q)) (some (uV mt u)) none none none none none, zE mt { s with c := s.c + 2 }) :=
    wF (item_of rfl (yJ rfl h1) h2) rfl
  have hT : isObj .table (.obj (T mt)) (zE mt { s with c := s.c + 2 }) = true := by cases mt <;> kernel_rfl
  have h4 := app_of (ρ := lR mt w (some (uV mt q)) (some (uV mt u)) none none none none none) (o := zC 6) (a := wU [(zC 8), (zC 9)]) (y := prV mt (q, u)) rfl kept_at rfl kept_at (σ := zE mt s') (by rw [List.length_map, hk]; exact hn)
  rw [← List.map_singleton (f := prV mt), ← List.map_append, kept_set, hk] at h4
  refine zN (if_of (x := decide (0 < drw s.ns s.t s.c 3)) (wQ (yJ rfl (drawn_pre hl (Nat.lt_of_lt_of_le ‹_› (by decide)) (by decide))) rfl rfl) (r := some (.next, lR mt w (some (uV mt q)) (some (uV mt u)) none none none none none, zE mt { s' with kept := s.kept ++ [(q, u)] })) ?_) rfl
  rw [decide_eq_true h]
  exact zN h3 (zN (expr_of (meth_of rfl hT rfl hset)) (zN (expr_of h4) rfl))
end
end Mine


section
namespace Mine
noncomputable def cnt (ns : List Int) (t : Int) : Nat → Nat
  | 0 => 9
  | q + 1 => if 0 < drw ns t (cnt ns t q) 3 then cnt ns t q + 2 else cnt ns t q + 1
noncomputable def vvD (ns : List Int) (t : Int) (q : Nat) : Nat := if q < 11 ∧ 0 < drw ns t (cnt ns t q) 3 then vals.getD (drw ns t (cnt ns t q + 1) 10).toNat 15 else 15
noncomputable def keptF (vv : Nat → Nat) (i : Nat) : Option (Nat × Nat) := if vv i = 15 then none else some (i, vv i)
noncomputable def wD (vv : Nat → Nat) (q : Nat) : List (Nat × Nat) := (List.range q).filterMap (keptF vv)
theorem cnt_le (ns : List Int) (t : Int) : ∀ q, cnt ns t q ≤ 9 + 2 * q
  | 0 => Nat.le_refl _
  | q + 1 => by have := cnt_le ns t q; unfold cnt; split <;> omega
theorem vals_lt : ∀ r, r < 10 → vals.getD r 15 < 15 ∧ 5 ≤ vals.getD r 15 := by decide
theorem drw_nat (ns : List Int) (t : Int) (c : Nat) {b : Int} (hb : 0 < b) : (drw ns t c b).toNat < b.toNat := by
  have h1 := drw_nn ns t c hb
  have h2 := drw_lt ns t c hb
  omega
theorem vv_yes {ns : List Int} {t : Int} {q : Nat} (hq : q < 11) (h : 0 < drw ns t (cnt ns t q) 3) : vals.getD (drw ns t (cnt ns t q + 1) 10).toNat 15 = vvD ns t q ∧ vvD ns t q < 15 ∧ 5 ≤ vvD ns t q := by
  have e : vvD ns t q = vals.getD (drw ns t (cnt ns t q + 1) 10).toNat 15 := if_pos ⟨hq, h⟩
  rw [e]; exact ⟨rfl, vals_lt _ (drw_nat ns t _ (b := 10) (by decide))⟩
theorem vv_no {ns : List Int} {t : Int} {q : Nat} (h : ¬ 0 < drw ns t (cnt ns t q) 3) : vvD ns t q = 15 := if_neg fun a => h a.2
theorem vv_big {ns : List Int} {t : Int} {q : Nat} (h : 11 ≤ q) : vvD ns t q = 15 := if_neg fun a => absurd a.1 (Nat.not_lt_of_le ‹_›)
theorem vv_cases (ns : List Int) (t : Int) (q : Nat) : vvD ns t q = 15 ∨ (q < 11 ∧ vvD ns t q < 15 ∧ 5 ≤ vvD ns t q) := by
  by_cases hq : q < 11
  · by_cases h : 0 < drw ns t (cnt ns t q) 3
    · exact .inr ⟨hq, (vv_yes hq h).2⟩
    · exact .inl (vv_no h)
  · exact .inl (vv_big (Nat.le_of_not_lt ‹_›))
theorem keptL_yes {vv : Nat → Nat} {q : Nat} (h : vv q ≠ 15) : wD vv (q + 1) = wD vv q ++ [(q, vv q)] := by
  unfold wD; rw [List.range_succ, List.filterMap_append]; congr 1
  show [q].filterMap (keptF vv) = _
  rw [List.filterMap_cons]; unfold keptF; rw [if_neg h]; rfl
theorem keptL_no {vv : Nat → Nat} {q : Nat} (h : vv q = 15) : wD vv (q + 1) = wD vv q := by
  unfold wD; rw [List.range_succ, List.filterMap_append]
  show _ ++ [q].filterMap (keptF vv) = _
  rw [List.filterMap_cons]; unfold keptF; rw [if_pos h]; exact List.append_nil _
theorem keptL_len (vv : Nat → Nat) (q : Nat) : (wD vv q).length ≤ q := by
  have := List.length_filterMap_le (keptF vv) (List.range q)
  rw [List.length_range] at this; exact this
structure D where
  c0 : MO
  c1 : MO
  ns : List Int
  t : Int
  fm : Nat
  ss : List V
noncomputable def D.vv (d : D) : Nat → Nat := vvD d.ns d.t
noncomputable def SX (d : D) (av : Nat → Nat) (c : Nat) (kept : List (Nat × Nat)) (t : Tb) : PS := { c0 := d.c0, c1 := d.c1, ns := d.ns, t := d.t, c := c, fm := d.fm, ss := d.ss, mark := mkD d.ns d.t, fin := finD d.ns d.t, fl := .int 0, wk := .bytes [], av := av, kc := t.kc, dd := fun _ => none, gn := fun _ => false, vv := d.vv, nx := t.nx, free := t.free, kept := kept, rest := [] }
noncomputable def SQ (d : D) (av : Nat → Nat) (q : Nat) (t : Tb) : PS := SX d av (cnt d.ns d.t q) (wD d.vv q) t
theorem SQ_yes {d : D} {av : Nat → Nat} {q : Nat} {t : Tb} (h : 0 < drw d.ns d.t (cnt d.ns d.t q) 3) (hk : d.vv q ≠ 15) : SQ d av (q + 1) t = SX d av (cnt d.ns d.t q + 2) (wD d.vv q ++ [(q, d.vv q)]) t := by
  unfold SQ; rw [keptL_yes hk, cnt, if_pos h]
theorem SQ_no {d : D} {av : Nat → Nat} {q : Nat} {t : Tb} (h : ¬ 0 < drw d.ns d.t (cnt d.ns d.t q) 3) (hk : d.vv q = 15) : SQ d av (q + 1) t = SX d av (cnt d.ns d.t q + 1) (wD d.vv q) t := by
  unfold SQ; rw [keptL_no hk, cnt, if_neg h]
noncomputable def avq (vv : Nat → Nat) (q i : Nat) : Nat := if i < q then vv i else 15
theorem avq_succ (vv : Nat → Nat) (q : Nat) : upd (avq vv q) q (vv q) = avq vv (q + 1) := by
  funext x; unfold upd avq
  by_cases h : x = q
  · subst h; rw [if_pos rfl, if_pos (by exact Nat.le_refl _)]
  · rw [if_neg h]; by_cases h2 : x < q
    · rw [if_pos h2, if_pos (by exact Nat.lt_succ_of_lt ‹_›)]
    · rw [if_neg h2, if_neg (by omega)]
theorem avq_no {vv : Nat → Nat} {q : Nat} (h : vv q = 15) : avq vv (q + 1) = avq vv q := by
  rw [← avq_succ, h]; exact upd_eq (if_neg (Nat.lt_irrefl q))
section
variable {mt : Bool} {d : D} {w : List Nat}
theorem key_next {s : PS} : ∀ q, q < 11 → (It.lst (T mt + 20)).nxt q (zE mt s) = some (some (uV mt q)) := by
  refine yF ?_; cases mt <;> kernel_rfl
theorem key_end {s : PS} : (It.lst (T mt + 20)).nxt 11 (zE mt s) = some none := by cases mt <;> kernel_rfl
theorem SQ_c {av : Nat → Nat} {q : Nat} {t : Tb} (hq : q < 12) : (SQ d av q t).c < 900 := by
  have := cnt_le d.ns d.t q
  show cnt d.ns d.t q < 900; omega
theorem SQ_k {av : Nat → Nat} {q : Nat} {t : Tb} (hq : q < 12) : (SQ d av q t).kept.length < 1000 := by
  have := keptL_len d.vv q
  show (wD d.vv q).length < 1000; exact Nat.lt_of_le_of_lt ‹_› (Nat.lt_of_lt_of_le ‹_› (by decide))
theorem arr_turn (hl : d.ns.length ≤ 60) {q : Nat} (hq : q < 3) (x9 : Option V) : ∃ y9, inB (lR mt w (some (uV mt q)) x9 none none none none none) (zE mt (SQ d (avq d.vv q) q t0)) =
    some (.next, lR mt w (some (uV mt q)) y9 none none none none none, zE mt (SQ d (avq d.vv (q + 1)) (q + 1) t0)) := by
  have hc := SQ_c (d := d) (av := avq d.vv q) (t := t0) (show q < 12 by exact Nat.lt_of_lt_of_le ‹_› (by decide))
  by_cases h : 0 < drw d.ns d.t (cnt d.ns d.t q) 3
  · obtain ⟨e1, e2, e3⟩ := vv_yes (show q < 11 by exact Nat.lt_of_lt_of_le ‹_› (by decide)) h
    have hk : d.vv q ≠ 15 := by show vvD d.ns d.t q ≠ 15; exact Nat.ne_of_lt ‹_›
    have hs := set_arr (mt := mt) (u := d.vv q) (t := t0) (s := SX d (avq d.vv q) (cnt d.ns d.t q + 2) (wD d.vv q) t0) q hq
    have := turn_yes (mt := mt) (w := w) (s := SQ d (avq d.vv q) q t0) (s' := SX d (upd (avq d.vv q) q (d.vv q)) (cnt d.ns d.t q + 2) (wD d.vv q) t0) (x9 := x9) hl hc h e1 hs rfl (SQ_k (Nat.lt_of_lt_of_le ‹_› (by decide)))
    rw [avq_succ] at this
    exact ⟨_, this.trans (by rw [SQ_yes h hk]; rfl)⟩
  · have hk : d.vv q = 15 := vv_no h
    refine ⟨x9, (turn_no hl (Nat.lt_trans hc (by decide)) h).trans ?_⟩
    rw [avq_no hk, SQ_no h hk]; rfl
theorem hash_turn (hl : d.ns.length ≤ 60) {av : Nat → Nat} {n i : Nat} (hi : i < 8) {t : Tb} (x9 : Option V) (hT : tree (n + 1) i ((List.range i).map fun i => d.vv (i + 3) != 15) t = true) : ∃ y9 t', tree n (i + 1) ((List.range (i + 1)).map fun i => d.vv (i + 3) != 15) t' = true ∧
    inB (lR mt w (some (uV mt (i + 3))) x9 none none none none none) (zE mt (SQ d av (i + 3) t)) = some (.next, lR mt w (some (uV mt (i + 3))) y9 none none none none none, zE mt (SQ d av (i + 4) t')) := by
  have hc := SQ_c (d := d) (av := av) (t := t) (show i + 3 < 12 by exact Nat.lt_of_lt_of_le (Nat.add_lt_add_right ‹_› _) (by decide))
  rw [List.range_succ, List.map_append, List.map_singleton]
  unfold tree at hT
  rw [Bool.and_eq_true, Bool.and_eq_true, Bool.and_eq_true] at hT
  obtain ⟨hT0, hT1, hT2, hT3⟩ := hT
  by_cases h : 0 < drw d.ns d.t (cnt d.ns d.t (i + 3)) 3
  · obtain ⟨e1, e2, e3⟩ := vv_yes (show i + 3 < 11 by exact Nat.add_lt_add_right ‹_› _) h
    have hk : d.vv (i + 3) ≠ 15 := by show vvD d.ns d.t (i + 3) ≠ 15; exact Nat.ne_of_lt ‹_›
    obtain ⟨l, hcl, hnl⟩ := abs_of hT2
    cases e : ins t (i + 3) with
    | none => rw [e] at hT3; cases hT3
    | some t' =>
      rw [e] at hT3
      have hs := set_new (mt := mt) (s := SX d av (cnt d.ns d.t (i + 3) + 2) (wD d.vv (i + 3)) t) hi (show d.vv 15 = 15 from vv_big (by decide)) (keys_of hT1) (fun p hp hne => by
        rcases keys_in hT1 p hp with h1 | ⟨h1, h2⟩
        · exact absurd h1 hne
        · rw [Nat.sub_add_cancel h2, bne_iff_ne] at h1
          exact ((vv_cases d.ns d.t (t.kc p)).resolve_left h1).2.1) hcl hnl e
      have := turn_yes (mt := mt) (w := w) (s := SQ d av (i + 3) t) (s' := SX d av (cnt d.ns d.t (i + 3) + 2) (wD d.vv (i + 3)) t') (x9 := x9) hl hc h e1 hs rfl (SQ_k (Nat.lt_of_lt_of_le (Nat.add_lt_add_right ‹_› _) (by decide)))
      have hb : (d.vv (i + 3) != 15) = true := by rw [bne_iff_ne]; exact hk
      rw [hb]
      exact ⟨_, t', hT3, this.trans (by rw [SQ_yes h hk]; rfl)⟩
  · have hk : d.vv (i + 3) = 15 := vv_no h
    have hb : (d.vv (i + 3) != 15) = false := by rw [hk]; rfl
    rw [hb]
    refine ⟨x9, t, hT0, (turn_no hl (Nat.lt_trans hc (by decide)) h).trans ?_⟩
    rw [SQ_no h hk]; rfl
end
end Mine


section
namespace Mine
noncomputable def lw6 : St := ifS (orT (zX (zR f_table_size [(zC 5)]) [(.ne, (yX .add (yX .add (cE (.int 8)) (wB (zL (zC 5) .array))) (yX .mul (cE (.int 2)) (wB (zL (zC 5) .nodes)))))]) (zX (wB (zL (zC 5) .array)) [(.ne, (cE (.int 3)))])) (zI [
    yM (cE (.bool false))]) (zI [])
noncomputable def lw7 : St := ifS (orT (zX (sortedE (xR (xJ (zR f_children_of [(zC 5)])) [none, none] (zG 1) [] (zL (zC 1) .number))) [(.ne, (zR f__law_kept [(zC 5), (zC 6), (zC 3)]))]) (zX (zL (zC 5) .weak) [(.ne, (encodeE (zC 3)))])) (zI [
    yM (cE (.bool false))]) (zI [])
noncomputable def lw8 : St := ifS (orT (zX (xR (xJ (zC 4)) [none, none, none] (zG 1) [] (zR yC [(zC 1), (cE (.bool true))])) [(.ne, (xR (xJ (zC 4)) [none, none, none] (zG 1) [] (zR wG [(zC 1)])))]) (xO (zR wG [(cE (.bytes [116, 101, 120, 116]))]))) (zI [
    yM (cE (.bool false))]) (zI [])
noncomputable def lw9 : St := yR (zR f_clear_table [(zC 5)])
noncomputable def lw10 : St := zQ (jB [(zG 10), (zG 11)]) (wU [(xM []), (xM [])])
noncomputable def lw11 : St := forS (xJ (zC 6)) (jB [(zG 8), (zG 9)]) (zI [
    zQ (zG 12) (andE (jC (zC 8) [.int]) (cmpE (zC 8) [(.lt, (cE (.int 4)))])),
    zQ (zG 13) (iteE (xO (zC 12)) (andE (cmpE (cE (.str [118])) [(.isin, (zC 3))]) (zR yC [(zC 9), (cE (.bool false))])) (orE (zR yC [(zC 8), (cE (.bool true))]) (zR yC [(zC 9), (cE (.bool false))]))),
    yR (xZ (iteE (xO (zC 13)) (zC 11) (zC 10)) (wU [(zC 8), (zC 9)]))])
noncomputable def lw12 : St := ifS (zX (xR (xJ (zC 11)) [none, none, none, some 5] (jB [(zG 1), (zG 2)]) [(zX (yT .table f_get (zC 3) [(zC 1)]) [(.isnot, (cE .none))])] (zC 1)) [(.ne, (xM []))]) (zI [
    yM (cE (.bool false))]) (zI [])
noncomputable def lw13 : St := ifS (zX (sortedE (zR f__law_walked [(zC 5)])) [(.ne, (sortedE (xR (xJ (zC 10)) [none, none, none, none] (jB [(zG 1), (zG 2)]) [] (wU [(zR yK [(zC 1)]), (zR yK [(zC 2)])]))))]) (zI [
    yM (cE (.bool false))]) (zI [])
noncomputable def lw14 : St := forS (xJ (zC 11)) (jB [(zG 8), (zG 9)]) (zI [
    ifS (orT (notT (xO (jC (zC 8) [.int]))) (zX (zC 8) [(.gt, (cE (.int 3)))])) (zI [
      zQ (zG 14) (yT .table f_next (zC 5) [(zC 8)]),
      ifS (andT (zX (zC 14) [(.isnot, (cE .none))]) (zX (zR yK [(yB (zC 14) (cE (.int 0)))]) [(.notin, (xR (xJ (zC 10)) [none, none, none, none] (jB [(zG 1), (zG 2)]) [] (zR yK [(zC 1)])))])) (zI [
        yM (cE (.bool false))]) (zI [])]) (zI [])])
noncomputable def lw15 : St := yM (zR f__law_lists_right [(zC 4), (zC 1)])
noncomputable def lawZ : List St := [lw6, lw7, lw8, lw9, lw10, lw11, lw12, lw13, lw14, lw15]
noncomputable def lwI : Ex It := xJ (yX .add (xM [(cE (.int 1)), (cE (.int 2)), (cE (.int 3)), (cE (.bytes [107])), (cE (.int 100))]) (revE (zC 4)))
noncomputable def lawA : List St := [
  zQ (jB [(zG 5), (zG 6)]) (wU [(newE .table jH [(cE (.int 30)), (cE (.int 3)), (cE (.int 8))]), (xM [])]),
  zQ (yQ (zC 5) .mta) (zC 2),
  zQ (zG 7) (yX .add (xM [(cE (.bytes [116, 97, 105, 108])), (cE (.int 7)), (cE (.bool true)), (cE (.bytes [116, 101, 120, 116]))]) (zC 4))]
section
variable {mt : Bool} {d : D} {w : List Nat}
theorem hash_loop (hl : d.ns.length ≤ 60) {av : Nat → Nat} : ∀ (n i f : Nat) (t : Tb) (x8 x9 : Option V), n + i = 8 → n < f → tree n i ((List.range i).map fun i => d.vv (i + 3) != 15) t = true →
    ∃ y8 y9 t', Good (fun i => d.vv (i + 3) != 15) t' ∧ forL (.lst (T mt + 20)) (zG 8) inB f (i + 3) (lR mt w x8 x9 none none none none none) (zE mt (SQ d av (i + 3) t)) = some (.next, lR mt w y8 y9 none none none none none, zE mt (SQ d av 11 t'))
  | _, _, 0, _, _, _, _, hf, _ => absurd hf (Nat.not_lt_zero _)
  | 0, i, f + 1, t, x8, x9, e, hf, hT => by
    rw [Nat.zero_add] at e; subst e
    exact ⟨x8, x9, t, good_of hT, for_end key_end⟩
  | n + 1, i, f + 1, t, x8, x9, e, hf, hT => by
    have hi : i < 8 := by exact oA ‹_›
    obtain ⟨z9, t', hT', h1⟩ := hash_turn (mt := mt) (w := w) (av := av) hl hi x9 hT
    obtain ⟨y8, y9, t'', hg, h2⟩ := hash_loop hl n (i + 1) f t' (some (uV mt (i + 3))) z9 (by exact oB ‹_›) (Nat.lt_of_succ_lt_succ hf) hT'
    exact ⟨y8, y9, t'', hg, for_next (key_next (i + 3) (Nat.add_lt_add_right ‹_› _)) rfl h1 h2⟩
theorem ins_loop (hl : d.ns.length ≤ 60) : ∃ y8 y9 t', Good (fun i => d.vv (i + 3) != 15) t' ∧ forL (.lst (T mt + 20)) (zG 8) inB 100 0 (lR mt w none none none none none none none) (zE mt (SQ d (avq d.vv 0) 0 t0)) = some (.next, lR mt w y8 y9 none none none none none, zE mt (SQ d (avq d.vv 3) 11 t')) := by
  obtain ⟨z0, h0⟩ := arr_turn (mt := mt) (w := w) hl (q := 0) (by decide) none
  obtain ⟨z1, h1⟩ := arr_turn (mt := mt) (w := w) hl (q := 1) (by decide) z0
  obtain ⟨z2, h2⟩ := arr_turn (mt := mt) (w := w) hl (q := 2) (by decide) z1
  obtain ⟨y8, y9, t', hg, h3⟩ := hash_loop (mt := mt) (w := w) hl (av := avq d.vv 3) 8 0 97 t0 (some (uV mt 2)) z2 rfl (by decide) tree_ok
  exact ⟨y8, y9, t', hg, for_next (key_next 0 (by decide)) rfl h0 (for_next (key_next 1 (by decide)) rfl h1 (for_next (key_next 2 (by decide)) rfl h2 h3))⟩
noncomputable def midH (mt : Bool) (d : D) : H := hdH mt d.c0 d.c1 d.ns d.t 9 d.fm d.ss ++ (obH (B mt) num (mkD d.ns d.t) (finD d.ns d.t) ++ ([mnu, mnu, mnu, mnu, mnu, mnu]))
noncomputable def midH2 (mt : Bool) (d : D) : H := hdH mt d.c0 d.c1 d.ns d.t 9 d.fm d.ss ++ (obH (B mt) num (mkD d.ns d.t) (finD d.ns d.t) ++ ([mnu, mnu, mnu, mnu, mnu, mnu] ++ (tbH mt (T mt) (SQ d (avq d.vv 0) 0 t0) ++ [.list [], .list ([11, 12, 13, 14].map (uV mt)), .list (vals.map (uV mt))])))
theorem law_mid : zI lawA ([some (.obj 0), some (.obj 3), some (metaV mt), some (.str w), some (.obj (B mt + 14))] ++ List.replicate 28 none) (midH mt d) = some (.next, lR mt w none none none none none none none, midH2 mt d) := by
  cases mt <;> kernel_rfl
theorem law_keys : lwI (lR mt w none none none none none none none) (midH2 mt d) = some (.lst (T mt + 20), zE mt (SQ d (avq d.vv 0) 0 t0)) := by
  cases mt <;> kernel_rfl
end
theorem law_start {xs : List Int} (hl : xs.length ≤ 1000) : ∃ mt d k t y8 y9, d.ns.length ≤ 60 ∧ d.fm = k ∧ k < 6 ∧ Good (fun i => d.vv (i + 3) != 15) t ∧
    ∀ v ρ' σ', zI lawZ (lR mt (wz mt k) y8 y9 none none none none none) (zE mt (SQ d (avq d.vv 3) 11 t)) = some (.ret v, ρ', σ') → f_law [.obj 0] [.list (xs.map .int)] = some (v, σ') := by
  have hA := lenA xs
  obtain ⟨mt, k, ss, hk, hm⟩ := meta_spec (x0 := .list (xs.map .int)) (x1 := .list ((hd60 xs).map .int)) (t := tot xs) hA
  obtain ⟨y8, y9, t, hg, hL⟩ := ins_loop (mt := mt) (w := wz mt k) (d := ⟨.list (xs.map .int), .list ((hd60 xs).map .int), absL xs, tot xs, k, ss⟩) hA
  refine ⟨mt, ⟨.list (xs.map .int), .list ((hd60 xs).map .int), absL xs, tot xs, k, ss⟩, k, t, y8, y9, hA, rfl, hk, hg, fun v ρ' σ' h => ?_⟩
  have h1 : wU [(zR f__law_meta [(zC 1)]), (zR f__law_objects [(zC 1)])] (some (.obj 0) :: some (.obj 3) :: List.replicate 31 none) (skH (.list (xs.map .int)) (.list ((hd60 xs).map .int)) (absL xs) (tot xs) 0 []) =
      some (.tup [.tup [metaV mt, .str (wz mt k)], .obj (B mt + 14)], midH mt ⟨.list (xs.map .int), .list ((hd60 xs).map .int), absL xs, tot xs, k, ss⟩) :=
    tup_of (wE (yJ rfl hm) (wE (yJ rfl (objects_spec hA)) rfl))
  exact xN rfl (zN (wF (yJ rfl (sack_spec hl)) rfl) (zN (asg_of h1 rfl) (seq_app (l := lawA) law_mid (zN (for_of law_keys hL) h)))) (by simp)
end Mine


section
namespace Mine
noncomputable def obU (u : Nat) : Bool := decide (5 ≤ u) && decide (u ≤ 10)
noncomputable def whU (s : PS) (u : Nat) : Bool := decide (s.mark (10 - u) < 2)
noncomputable def fiU (s : PS) (u : Nat) : Bool := (u == 7 || u == 8) && s.fin (10 - u)
noncomputable def lostK (s : PS) (u : Nat) : Bool := obU u && whU s u
noncomputable def lostV (s : PS) (u : Nat) : Bool := obU u && (whU s u || fiU s u)
theorem ob_code : ∀ u, u < 18 → obU u = true → ∃ i, i < 6 ∧ u = i + 5 := by decide
section
variable {mt : Bool} {s : PS}
theorem is_object : ∀ u, u < 18 → f_is_object [uV mt u] (zE mt s) = some (.bool (obU u), zE mt s) := by
  refine yF ?_; cases mt <;> kernel_rfl
theorem is_heap : ∀ u, u < 18 → isTys (uV mt u) [.heap] (zE mt s) = some (obU u) := by
  refine yF ?_; cases mt <;> kernel_rfl
theorem is_white : ∀ i, i < 6 → f_is_white [uV mt (i + 5)] (zE mt s) = some (.bool (whU s (i + 5)), zE mt s) := by
  refine yF ?_; cases mt <;> kernel_rfl
theorem is_white2 {ρ : Rho} : ∀ i, i < 6 → cmpE (zL (zC 0) .mark) [(.lt, (cE (.int 2)))] (some (uV mt (i + 5)) :: ρ) (zE mt s) = some (.bool (whU s (i + 5)), zE mt s) := by
  refine yF ?_; cases mt <;> kernel_rfl
theorem is_fin {ρ : Rho} : ∀ i, i < 6 → andE (jC (zC 0) [.udata]) (zL (zC 0) .is_finalized) (some (uV mt (i + 5)) :: ρ) (zE mt s) = some (.bool (fiU s (i + 5)), zE mt s) := by
  refine yF ?_; cases mt <;> kernel_rfl
theorem is_lost {v : V} {k f x : Bool} {σ : H} (h : f_is_white [v] σ = some (.bool x, σ)) : f_is_lost [v, .bool k, .bool f] σ = some (.bool (x || (f && !k)), σ) :=
  xN (ρ := [some v, some (.bool k), some (.bool f), none]) rfl (yP (wP (orE_of (yJ rfl h) (andE_of rfl rfl)))) (by simp)
theorem is_lost_key {u : Nat} (hu : u < 18) : wG [uV mt u] (zE mt s) = some (.bool (lostK s u), zE mt s) := by
  refine xN (ρ := [some (uV mt u), none, none]) rfl (yP (wP (v := .bool (lostK s u)) ?_)) (by simp)
  unfold lostK
  have h1 := yJ (ρ := [some (uV mt u), none, none]) (es := [zC 0]) rfl (is_object (mt := mt) (s := s) u hu)
  cases e : obU u with
  | false => rw [e] at h1; exact andE_f h1
  | true =>
    obtain ⟨i, hi, rfl⟩ := ob_code u hu e
    rw [e] at h1
    refine (andE_t h1 (yJ rfl (is_lost (is_white i hi)))).trans ?_
    rw [Bool.false_and, Bool.or_false, Bool.true_and]
theorem is_lost_value {u : Nat} (hu : u < 18) : f_is_lost_value [uV mt u] (zE mt s) = some (.bool (lostV s u), zE mt s) := by
  have h1 := not_of (jJ (yJ (ρ := [some (uV mt u), none, none, none, none]) (es := [zC 0]) rfl (is_object (mt := mt) (s := s) u hu)))
  unfold lostV
  cases e : obU u with
  | false => rw [e] at h1; exact xN rfl (yP (if_of h1 rfl)) (by simp)
  | true =>
    obtain ⟨i, hi, rfl⟩ := ob_code u hu e
    rw [e] at h1
    refine xN rfl (zN (if_of h1 rfl) (yP (wP (v := .bool (true && (whU s (i + 5) || fiU s (i + 5)))) ?_))) (by simp)
    refine (yJ (wE rfl (wE rfl (wE (is_fin i hi) rfl))) (is_lost (is_white i hi))).trans ?_
    rw [Bool.not_false, Bool.and_true, Bool.true_and]
theorem law_is_lost {u : Nat} {k : Bool} (hu : u < 18) : yC [uV mt u, .bool k] (zE mt s) = some (.bool (obU u && (whU s u || (!k && fiU s u))), zE mt s) := by
  have h1 : notT (xO (jC (zC 0) [.heap])) [some (uV mt u), some (.bool k), none, none, none, none] (zE mt s) = some (!obU u, zE mt s) := not_of (jJ (isi_of rfl (is_heap u hu)))
  cases e : obU u with
  | false => rw [e] at h1; exact xN rfl (yP (if_of h1 rfl)) (by simp)
  | true =>
    obtain ⟨i, hi, rfl⟩ := ob_code u hu e
    rw [e] at h1
    exact xN rfl (zN (if_of h1 rfl) (yP (wP (orE_of (is_white2 i hi) (andE_of (notE_of rfl) (is_fin i hi)))))) (by simp)
end
end Mine


section
namespace Mine
theorem for_inv {it : It} {tg : As} {b : St} {us : List V} (I : Nat → Rho → H → Prop)
    (hn : ∀ k ρ σ, I k ρ σ → it.nxt k σ = some us[k]?)
    (step : ∀ k (hk : k < us.length) ρ σ, I k ρ σ → ∃ ρ₁ σ₁ ρ' σ', tg (us[k]) ρ σ = some (ρ₁, σ₁) ∧ b ρ₁ σ₁ = some (.next, ρ', σ') ∧ I (k + 1) ρ' σ') :
    ∀ (f k : Nat) (ρ : Rho) (σ : H), I k ρ σ → k ≤ us.length → us.length < f + k → ∃ ρ' σ', forL it tg b f k ρ σ = some (.next, ρ', σ') ∧ I us.length ρ' σ'
  | 0, k, ρ, σ, hI, hk, hf => absurd hf (by rw [Nat.zero_add]; exact Nat.not_lt_of_le hk)
  | f + 1, k, ρ, σ, hI, hk', hf => by
    have h := hn k ρ σ hI
    rcases Nat.lt_or_ge k us.length with hk | hk
    · rw [List.getElem?_eq_getElem hk] at h
      obtain ⟨ρ₁, σ₁, ρ', σ', e1, e2, e3⟩ := step k hk ρ σ hI
      obtain ⟨ρ'', σ'', q1, q2⟩ := for_inv I hn step f (k + 1) ρ' σ' e3 ‹_› (Nat.lt_of_lt_of_eq hf (Nat.succ_add_eq_add_succ f k))
      exact ⟨ρ'', σ'', for_next h e1 e2 q1, q2⟩
    · have : k = us.length := by omega
      subst this
      rw [List.getElem?_eq_none (Nat.le_refl _)] at h
      exact ⟨ρ, σ, for_end h, hI⟩
theorem listAt_of {σ : H} {i : Nat} {xs : List V} (h : σ[i]? = some (.list xs)) : listAt σ (.obj i) = some xs := by
  unfold listAt; dsimp only; rw [h]
theorem ext_of {o a : Ex V} {ρ : Rho} {σ σ₁ : H} {i j : Nat} {xs ys : List V} (h1 : o ρ σ = some (.obj i, σ)) (hl : listAt σ (.obj i) = some xs) (h2 : a ρ σ = some (.obj j, σ₁)) (hl' : listAt σ₁ (.obj i) = some xs) (hy : listAt σ₁ (.obj j) = some ys) (hn : xs.length + ys.length ≤ 100000) (hi : Nat.beq i 0 = false := by kernel_rfl) :
    extendE o a ρ σ = some (.none, σ₁.set i (.list (xs ++ ys))) := by
  refine zW h1 (zW (a := ()) (read_of (by rw [hl]; rfl)) (zW h2 ?_))
  show (if i = 0 then .none else match listAt σ₁ (.obj i), listAt σ₁ (.obj j) with | some xs, some ys => if okLen (xs ++ ys) then some (V.none, σ₁.set i (.list (xs ++ ys))) else .none | _, _ => .none : Option (V × H)) = _
  rw [if_neg (fun z => by subst z; cases hi), hl', hy]; dsimp only
  rw [if_pos (okLen_of (by rw [List.length_append]; exact hn))]
noncomputable def rs (s : PS) (r : H) : PS := { s with rest := r }
noncomputable def ix (mt : Bool) (R : H) : Nat := R.length + (T mt + 21)
section
variable {mt : Bool} {s : PS} {R Y : H} {m m' : MO}
theorem pre_app {X : H} : zE mt s ++ X = zE mt (rs s (s.rest ++ X)) := by cases mt <;> kernel_rfl
theorem pre_len : (zE mt s).length = ix mt s.rest := by cases mt <;> kernel_rfl
theorem rs_front : zE mt (rs s R) = zE mt (rs s []) ++ R := by cases mt <;> kernel_rfl
theorem rs_get : (zE mt (rs s (R ++ m :: Y)))[ix mt R]? = some m := by
  rw [rs_front, List.getElem?_append_right (by rw [pre_len]; exact Nat.add_le_add (Nat.zero_le _) (Nat.le_refl _)), pre_len]
  show (R ++ m :: Y)[R.length + (T mt + 21) - ([].length + (T mt + 21))]? = _
  rw [List.length_nil, Nat.zero_add, Nat.add_sub_cancel, List.getElem?_append_right (Nat.le_refl _), Nat.sub_self]; rfl
theorem rs_set : (zE mt (rs s (R ++ m :: Y))).set (ix mt R) m' = zE mt (rs s (R ++ m' :: Y)) := by
  rw [rs_front, List.set_append_right _ _ (by rw [pre_len]; exact Nat.add_le_add (Nat.zero_le _) (Nat.le_refl _)), pre_len, rs_front (R := R ++ m' :: Y)]
  show _ ++ (R ++ m :: Y).set (R.length + (T mt + 21) - ([].length + (T mt + 21))) m' = _
  rw [List.length_nil, Nat.zero_add, Nat.add_sub_cancel, List.set_append_right _ _ (Nat.le_refl _), Nat.sub_self]; rfl
theorem yW {xs : List V} : listAt (zE mt (rs s (R ++ .list xs :: Y))) (.obj (ix mt R)) = some xs := listAt_of rs_get
theorem rs_more {X : H} {i : Nat} (h : (zE mt (rs s R))[i]? = some m) : (zE mt (rs s (R ++ X)))[i]? = some m := by
  have : zE mt (rs s (R ++ X)) = zE mt (rs s R) ++ X := (pre_app (s := rs s R)).symm
  rw [this]; exact get_app h
theorem wK {xs : List V} (h : xs.length ≤ 100000) : newL xs (zE mt (rs s R)) = some (.obj (ix mt R), zE mt (rs s (R ++ [.list xs]))) := by
  rw [newL_of h, pre_len, pre_app]; rfl
noncomputable def keC (w : List UInt8) (k v : V) : List V := (if w.contains 107 then [] else [k]) ++ (if w.contains 118 then [] else [v])
noncomputable def W4 : List (List UInt8) := [[], [107], [118], [107, 118]]
noncomputable def w4 (c : Nat) : List UInt8 := W4.getD c []
theorem kept_spec {k v : V} {c : Nat} (hc : c < 4) : f_kept_of_entry [k, v, .bytes (w4 c)] (zE mt (rs s R)) = some (.obj (ix mt R), zE mt (rs s (R ++ [.list (keC (w4 c) k v)]))) := by
  have h1 : ∀ c, c < 4 → iteE (zX (cE (.bytes [107])) [(.isin, (zC 2))]) (xM []) (xM [(zC 0)]) [some k, some v, some (.bytes (w4 c)), none] (zE mt (rs s R)) = newL (if (w4 c).contains 107 then [] else [k]) (zE mt (rs s R)) := by
    refine yF ?_; kernel_rfl
  have l1 : (if (w4 c).contains 107 then [] else [k]).length ≤ 1 := by split <;> exact Nat.le_of_ble_eq_true rfl
  have h2 := wF (i := 3) ((h1 c hc).trans (wK (Nat.le_trans l1 (by decide)))) rfl
  have h3 : ∀ c, c < 4 → zX (cE (.bytes [118])) [(.notin, (zC 2))] [some k, some v, some (.bytes (w4 c)), some (.obj (ix mt R))] (zE mt (rs s (R ++ [.list (if (w4 c).contains 107 then [] else [k])]))) = some (!(w4 c).contains 118, (zE mt (rs s (R ++ [.list (if (w4 c).contains 107 then [] else [k])])))) := by
    refine yF ?_; kernel_rfl
  cases e : (w4 c).contains 118 with
  | true =>
    have h3 := h3 c hc
    rw [e] at h3
    refine xN rfl (zN h2 (zN (if_ff h3 rfl) (yP (wP rfl)))) (by simp) |>.trans ?_
    unfold keC; rw [e]; simp only [if_true, List.append_nil]
  | false =>
    have h3 := h3 c hc
    rw [e] at h3
    have h4 := app_of (ρ := [some k, some v, some (.bytes (w4 c)), some (.obj (ix mt R))]) (o := zC 3) (a := zC 1) (y := v) rfl (yW (s := s) (R := R) (Y := [])) rfl (yW (s := s) (R := R) (Y := [])) (Nat.lt_of_le_of_lt l1 (by decide))
    rw [rs_set] at h4
    refine xN rfl (zN h2 (zN (if_tt h3 (zN (expr_of h4) rfl)) (yP (wP rfl)))) (by simp) |>.trans ?_
    unfold keC; rw [e]; rfl
end
end Mine


section
namespace Mine
noncomputable def SF (d : D) (t : Tb) (av : Nat → Nat) (gn : Nat → Bool) (dd : Nat → Option Nat) (wk : V) (rest : H) : PS := { c0 := d.c0, c1 := d.c1, ns := d.ns, t := d.t, c := cnt d.ns d.t 11, fm := d.fm, ss := d.ss, mark := mkD d.ns d.t, fin := finD d.ns d.t, fl := .int 0, wk := wk, av := av, kc := t.kc, dd := dd, gn := gn, vv := d.vv, nx := t.nx, free := t.free, kept := wD d.vv 11, rest := rest }
noncomputable def noD : Nat → Option Nat := fun _ => none
noncomputable def noG : Nat → Bool := fun _ => false
noncomputable def wc : Bool → Nat → Nat | false, _ => 0 | true, k => [1, 2, 3, 3, 0, 0].getD k 0
noncomputable def keN (w : List UInt8) (k u : Nat) : List Nat := (if w.contains 107 then [] else [k]) ++ (if w.contains 118 then [] else [u])
theorem keC_map (mt : Bool) (w : List UInt8) (k u : Nat) : keC w (uV mt k) (uV mt u) = (keN w k u).map (uV mt) := by
  unfold keC keN; rw [List.map_append]; split <;> split <;> rfl
noncomputable def entN (d : D) (t : Tb) (w : List UInt8) (p : Nat) : List Nat := if t.kc p = 15 then [] else keN w (t.kc p) (d.vv (t.kc p))
theorem entN_len {d : D} {t : Tb} {w : List UInt8} {p : Nat} : (entN d t w p).length ≤ 2 := by
  unfold entN keN; split <;> (try split) <;> (try split) <;> exact Nat.le_of_ble_eq_true rfl
theorem flat_len {f : Nat → List Nat} (h : ∀ p, (f p).length ≤ 2) : ∀ n, ((List.range n).flatMap f).length ≤ 2 * n
  | 0 => Nat.le_refl _
  | n + 1 => by
    have := flat_len h n; have h2 := h n
    rw [List.range_succ, List.flatMap_append, List.length_append, List.flatMap_singleton]; exact Nat.add_le_add ‹_› ‹_›
theorem rng_nxt {n : Nat} {σ : H} (k : Nat) : (It.rng 0 n).nxt k σ = some (((List.range n).map fun p : Nat => V.int p)[k]?) := by
  show some (if 0 + (k : Int) < n then some (V.int (0 + k)) else none) = _
  rw [Int.zero_add, List.getElem?_map]
  by_cases h : k < n
  · rw [if_pos (by omega), List.getElem?_range h]; rfl
  · rw [if_neg (by omega), List.getElem?_eq_none (by rw [List.length_range]; exact Nat.le_of_not_lt ‹_›)]; rfl
noncomputable def tcB : St := zI [
    zQ (zG 3) (yB (zL (zC 0) .nodes) (zC 2)),
    ifS (zX (zL (zC 3) .value) [(.is, (cE .none))]) (zI [
      yR (yT .table f_bury (zC 0) [(zC 2)])]) (zI [
      yR (extendE (zC 1) (zR f_kept_of_entry [(zL (zC 3) .key), (zL (zC 3) .value), (zL (zC 0) .weak)]))])]
noncomputable def tcR (mt : Bool) (x y : Option V) : Rho := [some (.obj (T mt)), some (.obj (T mt + 21)), x, y, none, none, none, none]
section
variable {mt : Bool} {d : D} {t : Tb} {av : Nat → Nat} {wk : V} {R G : H}
theorem weak_spec {gn : Nat → Bool} {dd : Nat → Option Nat} (hk : d.fm < 6) : f_weak_mode [metaV mt] (zE mt (SF d t av gn dd wk R)) = some (.bytes (w4 (wc mt d.fm)), zE mt (SF d t av gn dd wk R)) := by
  have h : ∀ k, k < 6 → f_weak_mode [metaV mt] (zE mt (SF { d with fm := k } t av gn dd wk R)) = some (.bytes (w4 (wc mt k)), zE mt (SF { d with fm := k } t av gn dd wk R)) := by
    refine yF ?_; cases mt <;> kernel_rfl
  exact h d.fm hk
theorem tc_node {x y : Option V} : ∀ p : Nat, p < 8 → zQ (zG 3) (yB (zL (zC 0) .nodes) (zC 2)) (tcR mt (some (.int p)) y) (zE mt (SF d t av noG noD wk R)) = some (.next, tcR mt (some (.int p)) (some (.obj (T mt + 6 + p))), zE mt (SF d t av noG noD wk R)) := by
  refine yF ?_; cases mt <;> kernel_rfl
theorem tc_val {x : Option V} : ∀ p : Nat, p < 8 → zL (zC 3) .value (tcR mt x (some (.obj (T mt + 6 + p)))) (zE mt (SF d t av noG noD wk R)) = some (uV mt (d.vv (t.kc p)), zE mt (SF d t av noG noD wk R)) := by
  refine yF ?_; cases mt <;> kernel_rfl
theorem tc_args {x : Option V} : ∀ p : Nat, p < 8 → seqE [(zL (zC 3) .key), (zL (zC 3) .value), (zL (zC 0) .weak)] (tcR mt x (some (.obj (T mt + 6 + p)))) (zE mt (SF d t av noG noD wk R)) = some ([uV mt (t.kc p), uV mt (d.vv (t.kc p)), wk], zE mt (SF d t av noG noD wk R)) := by
  refine yF ?_; cases mt <;> kernel_rfl
theorem bury_empty {s : PS} : ∀ p : Nat, p < 8 → f_bury [.obj (T mt), .int p] (zE mt { s with kc := upd s.kc p 15, vv := upd s.vv 15 15, dd := noD, gn := noG }) = some (.none, zE mt { s with kc := upd s.kc p 15, vv := upd s.vv 15 15, dd := noD, gn := noG }) := by
  refine yF ?_; cases mt <;> kernel_rfl
theorem bury_empty' {s : PS} {p : Nat} (hp : p < 8) (h : s.kc p = 15) (hv : s.vv 15 = 15) (hd : s.dd = noD) (hg : s.gn = noG) : f_bury [.obj (T mt), .int p] (zE mt s) = some (.none, zE mt s) := by
  have := bury_empty (mt := mt) (s := s) p hp
  rw [upd_eq h, upd_eq hv, ← hd, ← hg] at this
  exact this
theorem vv15 : d.vv 15 = 15 := vv_big (by decide)
theorem tc_turn {b : Nat → Bool} (hg : Good (fun i => d.vv (i + 3) != 15) t) {p c : Nat} (hp : p < 8) (hc : c < 4) {acc : List Nat} (ha : acc.length ≤ 100) {y : Option V} :
    ∃ y' G', tcB (tcR mt (some (.int p)) y) (zE mt (SF d t av noG noD (.bytes (w4 c)) (.list (acc.map (uV mt)) :: G))) = some (.next, tcR mt (some (.int p)) y', zE mt (SF d t av noG noD (.bytes (w4 c)) (.list ((acc ++ entN d t (w4 c) p).map (uV mt)) :: G'))) := by
  have h1 := tc_node (mt := mt) (d := d) (t := t) (av := av) (wk := .bytes (w4 c)) (R := .list (acc.map (uV mt)) :: G) (x := none) (y := y) p hp
  have h2 := tc_val (mt := mt) (d := d) (t := t) (av := av) (wk := .bytes (w4 c)) (R := .list (acc.map (uV mt)) :: G) (x := some (.int p)) p hp
  by_cases hk : t.kc p = 15
  · have hv : d.vv (t.kc p) = 15 := by rw [hk]; exact vv15
    rw [hv] at h2
    have h3 := bury_empty' (mt := mt) (s := SF d t av noG noD (.bytes (w4 c)) (.list (acc.map (uV mt)) :: G)) hp hk (vv15 (d := d)) rfl rfl
    have e : entN d t (w4 c) p = [] := if_pos hk
    rw [e, List.append_nil]
    exact ⟨_, G, zN h1 (zN (if_tt (wQ h2 rfl (by cases mt <;> rfl)) (zN (expr_of (meth_of rfl (by cases mt <;> kernel_rfl) rfl h3)) rfl)) rfl)⟩
  · have hb := (hg.bits p hp).resolve_left hk
    rw [Nat.sub_add_cancel hb.2, bne_iff_ne] at hb
    have hv := ((vv_cases d.ns d.t (t.kc p)).resolve_left hb.1).2
    have e : entN d t (w4 c) p = keN (w4 c) (t.kc p) (d.vv (t.kc p)) := if_neg hk
    have h4 := yJ (tc_args (mt := mt) (d := d) (t := t) (av := av) (wk := .bytes (w4 c)) (R := .list (acc.map (uV mt)) :: G) (x := some (.int p)) p hp) (kept_spec (s := SF d t av noG noD (.bytes (w4 c)) []) (R := .list (acc.map (uV mt)) :: G) (k := uV mt (t.kc p)) (v := uV mt (d.vv (t.kc p))) hc)
    rw [keC_map, ← e] at h4
    have hl := entN_len (d := d) (t := t) (w := w4 c) (p := p)
    have h5 := ext_of (o := zC 1) (i := T mt + 21) (xs := acc.map (uV mt)) rfl (by cases mt <;> kernel_rfl) h4 (by cases mt <;> kernel_rfl) (yW (Y := [])) (by rw [List.length_map, List.length_map]; exact Nat.le_trans (Nat.add_le_add ‹_› ‹_›) (by decide))
    rw [← List.map_append] at h5
    have h6 : (zE mt (rs (SF d t av noG noD (.bytes (w4 c)) []) (.list (acc.map (uV mt)) :: G ++ [.list ((entN d t (w4 c) p).map (uV mt))]))).set (T mt + 21) (.list ((acc ++ entN d t (w4 c) p).map (uV mt))) = zE mt (SF d t av noG noD (.bytes (w4 c)) (.list ((acc ++ entN d t (w4 c) p).map (uV mt)) :: (G ++ [.list ((entN d t (w4 c) p).map (uV mt))]))) := by cases mt <;> kernel_rfl
    rw [h6] at h5
    refine ⟨_, _, zN h1 (zN (if_ff (wQ h2 rfl (show isN (uV mt (d.vv (t.kc p))) = some false from isN_u _ hv.1)) (zN (expr_of h5) rfl)) rfl)⟩
end
end Mine


section
namespace Mine
noncomputable def obX (mt : Bool) (u : Nat) : Bool := obU u || (u == 18 && mt)
noncomputable def numX (u : Nat) : Int := if u = 18 then 40 else 30 - u
noncomputable def chA (av : Nat → Nat) (w : List UInt8) : List Nat := 18 :: (if w.contains 118 then [] else [av 0, av 1, av 2])
noncomputable def chN (d : D) (t : Tb) (av : Nat → Nat) (w : List UInt8) : List Nat := chA av w ++ (List.range 8).flatMap (entN d t w)
section
variable {mt : Bool} {d : D} {t : Tb} {av : Nat → Nat} {wk : V} {R G : H} {s : PS}
theorem chA_len {w : List UInt8} : (chA av w).length ≤ 4 := by unfold chA; split <;> exact Nat.le_of_ble_eq_true rfl
theorem chN_len {w : List UInt8} : (chN d t av w).length ≤ 20 := by
  have h1 := chA_len (av := av) (w := w)
  have h2 := flat_len (f := entN d t w) (fun p => entN_len) 8
  unfold chN; rw [List.length_append]; exact Nat.le_trans (Nat.add_le_add ‹_› ‹_›) (by decide)
theorem tc_loop {b : Nat → Bool} (hg : Good (fun i => d.vv (i + 3) != 15) t) {c : Nat} (hc : c < 4) : ∃ x y G, forL (.rng 0 8) (zG 2) tcB 100 0 (tcR mt none none) (zE mt (SF d t av noG noD (.bytes (w4 c)) [.list ((chA av (w4 c)).map (uV mt))])) =
    some (.next, tcR mt x y, zE mt (SF d t av noG noD (.bytes (w4 c)) (.list ((chN d t av (w4 c)).map (uV mt)) :: G))) := by
  obtain ⟨ρ', σ', h1, x, y, G, rfl, rfl⟩ := for_inv (it := .rng 0 8) (tg := zG 2) (b := tcB) (us := (List.range 8).map fun p : Nat => V.int p)
    (fun k ρ σ => ∃ x y G, ρ = tcR mt x y ∧ σ = zE mt (SF d t av noG noD (.bytes (w4 c)) (.list ((chA av (w4 c) ++ (List.range k).flatMap (entN d t (w4 c))).map (uV mt)) :: G)))
    (fun k ρ σ _ => rng_nxt k)
    (fun k hk ρ σ ⟨x, y, G, e1, e2⟩ => by
      have hk8 : k < 8 := by simpa using hk
      subst e1; subst e2
      have h1 := chA_len (av := av) (w := w4 c)
      have h2 := flat_len (f := entN d t (w4 c)) (fun p => entN_len) k
      obtain ⟨y', G', h⟩ := tc_turn (b := b) (mt := mt) (av := av) (G := G) hg hk8 hc (acc := chA av (w4 c) ++ (List.range k).flatMap (entN d t (w4 c))) (by rw [List.length_append]; omega) (y := y)
      refine ⟨tcR mt (some (.int k)) y, _, _, _, ?_, h, some (.int k), y', G', rfl, ?_⟩
      · rw [List.getElem_map, List.getElem_range]; rfl
      · rw [List.range_succ, List.flatMap_append, List.flatMap_singleton, List.append_assoc])
    100 0 (tcR mt none none) _ ⟨none, none, [], rfl, by rw [List.range_zero, List.flatMap_nil, List.append_nil]⟩ (Nat.zero_le _) (by decide)
  exact ⟨x, y, G, h1⟩
theorem tc_spec {b : Nat → Bool} (hg : Good (fun i => d.vv (i + 3) != 15) t) (hk : d.fm < 6) : ∃ G, f_table_children [.obj (T mt)] (zE mt (SF d t av noG noD wk [])) =
    some (.obj (T mt + 21), zE mt (SF d t av noG noD (.bytes (w4 (wc mt d.fm))) (.list ((chN d t av (w4 (wc mt d.fm))).map (uV mt)) :: G))) := by
  have hc : wc mt d.fm < 4 := by cases mt with
    | false => exact Nat.le_of_ble_eq_true rfl
    | true => exact (by decide : ∀ k, k < 6 → wc true k < 4) _ hk
  obtain ⟨x, y, G, hL⟩ := tc_loop (mt := mt) (d := d) (t := t) (av := av) (b := b) hg hc
  have h1 : zQ (yQ (zC 0) .weak) (zR f_weak_mode [(zL (zC 0) .mta)]) [some (.obj (T mt)), none, none, none, none, none, none, none] (zE mt (SF d t av noG noD wk [])) = some (.next, [some (.obj (T mt)), none, none, none, none, none, none, none], zE mt (SF d t av noG noD (.bytes (w4 (wc mt d.fm))) [])) :=
    asg_of (yJ (vs := [metaV mt]) (σ₁ := zE mt (SF d t av noG noD wk [])) (by cases mt <;> kernel_rfl) (weak_spec hk)) (by cases mt <;> kernel_rfl)
  have h2 : ∀ c, c < 4 → zI [zQ (zG 1) (xM [(zL (zC 0) .mta)]), ifS (zX (cE (.bytes [118])) [(.notin, (zL (zC 0) .weak))]) (zI [yR (extendE (zC 1) (zL (zC 0) .array))]) (zI [])]
      [some (.obj (T mt)), none, none, none, none, none, none, none] (zE mt (SF d t av noG noD (.bytes (w4 c)) [])) = some (.next, tcR mt none none, zE mt (SF d t av noG noD (.bytes (w4 c)) [.list ((chA av (w4 c)).map (uV mt))])) := by
    refine yF ?_; cases mt <;> kernel_rfl
  exact ⟨G, xN rfl (zN h1 (seq_app (h2 _ hc) (zN (for_of (i := .rng 0 8) (by cases mt <;> kernel_rfl) hL) (yP (wP rfl))))) (by simp)⟩
theorem is_objX : ∀ u, u < 19 → f_is_object [uV mt u] (zE mt s) = some (.bool (obX mt u), zE mt s) := by
  refine yF ?_; cases mt <;> kernel_rfl
theorem is_heapX : ∀ u, u < 19 → isTys (uV mt u) [.heap] (zE mt s) = some (obX mt u) := by
  refine yF ?_; cases mt <;> kernel_rfl
theorem num_ob : ∀ i, i < 6 → getF (uV mt (i + 5)) .number (zE mt s) = some (.int (numX (i + 5))) := by
  refine yF ?_; cases mt <;> kernel_rfl
theorem num_X {u : Nat} (hu : u < 19) (h : obX mt u = true) : getF (uV mt u) .number (zE mt s) = some (.int (numX u)) := by
  unfold obX at h
  rw [Bool.or_eq_true, Bool.and_eq_true, beq_iff_eq] at h
  rcases h with h | ⟨rfl, rfl⟩
  · unfold obU at h
    rw [Bool.and_eq_true, decide_eq_true_iff, decide_eq_true_iff] at h
    have := num_ob (mt := mt) (s := s) (u - 5) (by omega)
    rwa [Nat.sub_add_cancel h.1] at this
  · kernel_rfl
theorem jF {σ : H} {i : Nat} {xs : List V} (h : listAt σ (.obj i) = some xs) (k : Nat) : (It.lst i).nxt k σ = some xs[k]? := by
  show (listAt σ (.obj i)).map (fun xs => xs[k]?) = _
  rw [h]; rfl
theorem wL {e : Ex V} {ρ : Rho} {σ σ₁ : H} {i : Nat} {xs : List V} (h1 : e ρ σ = some (.obj i, σ₁)) (h : listAt σ₁ (.obj i) = some xs) : xJ e ρ σ = some (.lst i, σ₁) :=
  zW h1 (read_of (by dsimp only; rw [h]; rfl))
theorem objects_of {us : List Nat} {i : Nat} (hu : ∀ u ∈ us, u < 19) (hl : us.length < 100) (h : listAt (zE mt (rs s R)) (.obj i) = some (us.map (uV mt))) :
    f_objects_of [.obj i] (zE mt (rs s R)) = some (.obj (ix mt R), zE mt (rs s (R ++ [.list ((us.filter (obX mt)).map (uV mt))]))) := by
  refine xN (ρ := [some (.obj i)]) rfl (yP (wP (jO (wL rfl h) (comp_run (us := us) (val := uV mt) (p := obX mt) (g := uV mt) (fun ρ => ∃ x, ρ = [none, x, none]) ⟨none, rfl⟩ hl (jF h) fun u hm ρ hρ => ?_) (wK ?_)))) (by simp)
  · obtain ⟨x, rfl⟩ := hρ
    refine ⟨_, rfl, ⟨_, rfl⟩, zW (jJ (yJ rfl (is_objX u (hu u hm)))) ?_, fun _ => rfl⟩
    cases obX mt u <;> rfl
  · have := List.length_filter_le (obX mt) us
    rw [List.length_map]; exact Nat.le_trans ‹_› (Nat.le_trans (Nat.le_of_lt ‹_›) (by decide))
end
end Mine


section
namespace Mine
noncomputable def insR (r : V → Int) (x : V) : List V → List V
  | [] => [x]
  | y :: ys => if r x < r y then x :: y :: ys else y :: insR r x ys
noncomputable def xL (r : V → Int) : List V → List V
  | [] => []
  | x :: xs => insR r x (xL r xs)
section
variable {r : V → Int}
theorem insR_perm (x : V) : ∀ ys, (insR r x ys).Perm (x :: ys)
  | [] => .refl _
  | y :: ys => by
    unfold insR; split
    · exact .refl _
    · exact ((insR_perm x ys).cons y).trans (.swap x y ys)
theorem sortR_perm : ∀ xs, (xL r xs).Perm xs
  | [] => .refl _
  | x :: xs => (insR_perm x _).trans ((sortR_perm xs).cons x)
theorem insR_comm {x y : V} (h : r x = r y → x = y) : ∀ l, insR r x (insR r y l) = insR r y (insR r x l)
  | [] => by
    show (if r x < r y then [x, y] else [y, x]) = (if r y < r x then [y, x] else [x, y])
    rcases Int.lt_trichotomy (r x) (r y) with h1 | h1 | h1
    · rw [if_pos h1, if_neg (by exact Int.lt_asymm ‹_›)]
    · rw [h h1]
    · rw [if_neg (by exact Int.lt_asymm ‹_›), if_pos h1]
  | z :: l => by
    by_cases e : r x = r y
    · rw [h e]
    by_cases h1 : r x < r z <;> by_cases h2 : r y < r z
    · simp only [insR, h1, h2, if_true]
      by_cases h3 : r x < r y
      · rw [if_pos h3, if_neg (by exact Int.lt_asymm ‹_›)]
      · rw [if_neg h3, if_pos (Int.lt_iff_le_and_ne.mpr ⟨Int.not_lt.mp h3, Ne.symm e⟩)]
    · simp only [insR, h1, h2, if_true, if_false]
      rw [if_neg fun k => h2 (Int.lt_trans k h1)]
    · simp only [insR, h1, h2, if_true, if_false]
      rw [if_neg fun k => h1 (Int.lt_trans k h2)]
    · simp only [insR, h1, h2, if_false]
      rw [insR_comm h l]
theorem sortR_congr {xs ys : List V} (p : xs.Perm ys) (h : ∀ x ∈ xs, ∀ y ∈ xs, r x = r y → x = y) : xL r xs = xL r ys := by
  induction p with
  | nil => rfl
  | cons x _ ih => unfold xL; rw [ih fun a ha b hb => h a (.tail _ ha) b (.tail _ hb)]
  | swap x y l => exact insR_comm (h _ (.head _) _ (.tail _ (.head _))) _
  | trans p1 p2 i1 i2 => exact (i1 h).trans (i2 fun a ha b hb => h a (p1.mem_iff.mpr ha) b (p1.mem_iff.mpr hb))
theorem insV_R {x : V} : ∀ {ys : List V}, (∀ y ∈ ys, ltV x y = some (decide (r x < r y))) → insV x ys = some (insR r x ys)
  | [], _ => rfl
  | y :: ys, h => by
    have h1 := h y (.head _)
    unfold insV insR; rw [h1]
    by_cases h2 : r x < r y
    · rw [if_pos h2, decide_eq_true h2]
    · rw [if_neg h2, decide_eq_false h2]; dsimp only
      rw [insV_R fun z hz => h z (.tail _ hz)]; rfl
theorem sortV_R : ∀ {xs : List V}, (∀ x ∈ xs, ∀ y ∈ xs, ltV x y = some (decide (r x < r y))) → sortV xs = some (xL r xs)
  | [], _ => rfl
  | x :: xs, h => by
    unfold sortV xL
    rw [sortV_R fun a ha b hb => h a (.tail _ ha) b (.tail _ hb)]
    exact insV_R fun y hy => h x (.head _) y (.tail _ ((sortR_perm xs).mem_iff.mp hy))
theorem insR_sorted (x : V) : ∀ {ys : List V}, ys.Pairwise (fun a b => r a ≤ r b) → (insR r x ys).Pairwise (fun a b => r a ≤ r b)
  | [], _ => List.pairwise_singleton _ _
  | y :: ys, h => by
    rw [List.pairwise_cons] at h
    unfold insR; split
    · rename_i h1
      refine List.pairwise_cons.mpr ⟨fun z hz => ?_, List.pairwise_cons.mpr h⟩
      rcases List.mem_cons.mp hz with rfl | hz
      · exact Int.le_of_lt ‹_›
      · have := h.1 z hz; exact Int.le_trans (Int.le_of_lt ‹_›) ‹_›
    · rename_i h1
      refine List.pairwise_cons.mpr ⟨fun z hz => ?_, insR_sorted x h.2⟩
      rcases List.mem_cons.mp ((insR_perm x ys).mem_iff.mp hz) with rfl | hz
      · exact Int.not_lt.mp ‹_›
      · exact h.1 z hz
theorem sortR_sorted : ∀ xs : List V, (xL r xs).Pairwise (fun a b => r a ≤ r b)
  | [] => .nil
  | x :: xs => insR_sorted x (sortR_sorted xs)
theorem strictQ_of {xs : List V} (hlt : ∀ x ∈ xs, ∀ y ∈ xs, ltV x y = some (decide (r x < r y))) (hd : xs.Pairwise (fun a b => r a ≠ r b)) : strictB (xL r xs) = true := by
  have hp := sortR_perm (r := r) xs
  have hd' := (hp.pairwise_iff (fun {a b} h => Ne.symm h)).mpr hd
  have hs := List.pairwise_iff_getElem.mp (hd'.and (sortR_sorted xs))
  refine List.all_eq_true.mpr fun i hi => List.all_eq_true.mpr fun j hj => ?_
  have hi := List.mem_range.mp hi
  have hj := List.mem_range.mp hj
  have gi : gv (xL r xs) i = (xL r xs)[i] := by unfold gv; simp [hi]
  have gj : gv (xL r xs) j = (xL r xs)[j] := by unfold gv; simp [hj]
  rw [gi, gj, hlt _ (hp.mem_iff.mp (List.getElem_mem hi)) _ (hp.mem_iff.mp (List.getElem_mem hj)), beq_iff_eq]
  congr 1
  rcases Nat.lt_trichotomy i j with h | h | h
  · have := hs i j hi hj h
    rw [decide_eq_true h, decide_eq_true (Int.lt_iff_le_and_ne.mpr ⟨this.2, this.1⟩)]
  · subst h
    rw [decide_eq_false (Nat.lt_irrefl i), decide_eq_false (Int.lt_irrefl _)]
  · have := hs j i hj hi h
    rw [decide_eq_false (Int.not_lt.mpr this.2), decide_eq_false (by exact Nat.lt_asymm ‹_›)]
end
noncomputable def rkI : V → Int | .int i => i | _ => 0
theorem sortO_ints {ns : List Int} (h : ns.length < 64) : sortO (ns.map .int) = some (xL rkI (ns.map .int)) := by
  have hs : sortV (ns.map .int) = some (xL rkI (ns.map .int)) := sortV_R fun x hx y hy => by
    obtain ⟨i, _, rfl⟩ := List.mem_map.mp hx
    obtain ⟨j, _, rfl⟩ := List.mem_map.mp hy
    rfl
  unfold sortO
  rw [decide_eq_true (by rw [List.length_map]; exact h), hs, intsOf_mapI]; rfl
theorem sort_ints_eq {ns ms : List Int} (p : ns.Perm ms) : xL rkI (ns.map .int) = xL rkI (ms.map .int) :=
  sortR_congr (p.map _) fun x hx y hy e => by
    obtain ⟨i, _, rfl⟩ := List.mem_map.mp hx
    obtain ⟨j, _, rfl⟩ := List.mem_map.mp hy
    exact congrArg V.int e
theorem sortO_tups {r : V → Int} {xs : List V} (h : xs.length < 64) (hlt : ∀ x ∈ xs, ∀ y ∈ xs, ltV x y = some (decide (r x < r y))) (hd : xs.Pairwise (fun a b => r a ≠ r b)) (ht : xs.all tupB = true) (hv : xD 3 xs = true) : sortO xs = some (xL r xs) := by
  unfold sortO
  rw [decide_eq_true h, sortV_R hlt]
  simp only [if_true, Option.bind_some, ht, hv, strictQ_of hlt hd, Bool.and_self, Bool.or_true]
theorem sorted_of {e : Ex V} {ρ : Rho} {σ σ₁ : H} {i : Nat} {xs ys : List V} {x : Option (V × H)} (h1 : e ρ σ = some (.obj i, σ₁)) (h2 : listAt σ₁ (.obj i) = some xs) (h3 : sortO xs = some ys) (h4 : newL ys σ₁ = x) : sortedE e ρ σ = x :=
  zW h1 (by show ((listAt σ₁ (.obj i)).bind sortO).bind (fun ys => newL ys σ₁) = x; rw [h2]; show (sortO xs).bind (fun ys => newL ys σ₁) = x; rw [h3]; exact h4)
mutual
theorem eqB_refl : ∀ {n : Nat} {v : V}, jM n v = true → eqB v v = true
  | _, .none, _ => rfl
  | _, .bool b, _ => show (b == b) = true from beq_self_eq_true b
  | _, .int i, _ => show (i == i) = true from beq_self_eq_true i
  | _, .str s, _ => show (s == s) = true from beq_self_eq_true s
  | n + 1, .tup vs, h => eqBs_refl (n := n) h
  | 0, .tup vs, h => by cases h
  | _, .bytes _, h => by cases h
  | _, .fn _, h => by cases h
  | _, .obj _, h => by cases h
theorem eqBs_refl : ∀ {n : Nat} {vs : List V}, xD n vs = true → eqBs vs vs = true
  | _, [], _ => rfl
  | n, v :: vs, h => by
    have h := Bool.and_eq_true_iff.mp h
    show (eqB v v && eqBs vs vs) = true
    rw [eqB_refl h.1, eqBs_refl h.2]; rfl
end
theorem dataVs_all {n : Nat} : ∀ {vs : List V}, (∀ v ∈ vs, jM n v = true) → xD n vs = true
  | [], _ => rfl
  | v :: vs, h => by show (jM n v && xD n vs) = true; rw [h v (.head _), dataVs_all fun x hx => h x (.tail _ hx)]; rfl
theorem ne_same {σ : H} {i j : Nat} {xs : List V} (h1 : listAt σ (.obj i) = some xs) (h2 : listAt σ (.obj j) = some xs) (hd : ∀ v ∈ xs, jM 3 v = true) : cmpO .ne (.obj i) (.obj j) σ = some false := by
  have hd := dataVs_all hd
  show (match listAt σ (.obj i), listAt σ (.obj j) with | some xs, some ys => if xD 3 xs && xD 3 ys then some (eqBs xs ys) else .none | _, _ => .none : Option Bool).map (!·) = _
  rw [h1, h2]; dsimp only
  rw [hd, eqBs_refl hd]; rfl
end Mine


section
namespace Mine
noncomputable def sS (c : Nat) : List Nat := [[], [107], [118], [107, 118]].getD c []
noncomputable def lkE (w : List UInt8) (e : Nat × Nat) : List Nat := (if decide (3 ≤ e.1) && !w.contains 107 then [e.1] else []) ++ (if w.contains 118 then [] else [e.2])
noncomputable def lkN (mt : Bool) (vv : Nat → Nat) (w : List UInt8) : List Nat := (if mt then [18] else []) ++ (wD vv 11).flatMap (lkE w)
noncomputable def lkB : St := zI [
    zQ (zG 6) (andE (jC (zC 4) [.int]) (cmpE (zC 4) [(.lt, (cE (.int 4)))])),
    ifS (andT (notT (xO (zC 6))) (zX (cE (.str [107])) [(.notin, (zC 2))])) (zI [
      yR (xZ (zC 3) (zC 4))]) (zI []),
    ifS (zX (cE (.str [118])) [(.notin, (zC 2))]) (zI [
      yR (xZ (zC 3) (zC 5))]) (zI [])]
noncomputable def lkR (mt : Bool) (R : H) (c : Nat) (x y z : Option V) : Rho := [some (.obj (T mt)), some (.obj (T mt + 15)), some (.str (sS c)), some (.obj (ix mt R)), x, y, z, none, none, none]
section
variable {mt : Bool} {s : PS} {R G : H}
theorem lkE_len {w : List UInt8} {e : Nat × Nat} : (lkE w e).length ≤ 2 := by
  unfold lkE; split <;> split <;> exact Nat.le_of_ble_eq_true rfl
theorem is_arr : ∀ q, q < 11 → ∀ {ρ : Rho} {a b c d : Option V} {s : PS}, andE (jC (zC 4) [.int]) (cmpE (zC 4) [(.lt, (cE (.int 4)))]) (a :: b :: c :: d :: some (uV mt q) :: ρ) (zE mt s) = some (.bool (decide (q < 3)), zE mt s) := fun q hq {ρ a b c d s} => by
  revert q; refine no_implicit_lambda% (yF ?_); cases mt <;> kernel_rfl
theorem lk_k {ρ : Rho} {a b : Option V} {σ : H} : ∀ c, c < 4 → zX (cE (.str [107])) [(.notin, (zC 2))] (a :: b :: some (.str (sS c)) :: ρ) σ = some (!(w4 c).contains 107, σ) := by
  refine yF ?_; kernel_rfl
theorem lk_v {ρ : Rho} {a b : Option V} {σ : H} : ∀ c, c < 4 → zX (cE (.str [118])) [(.notin, (zC 2))] (a :: b :: some (.str (sS c)) :: ρ) σ = some (!(w4 c).contains 118, σ) := by
  refine yF ?_; kernel_rfl
theorem app_rs {o a : Ex V} {ρ : Rho} {us : List Nat} {u : Nat} (h1 : o ρ (zE mt (rs s (R ++ .list (us.map (uV mt)) :: G))) = some (.obj (ix mt R), zE mt (rs s (R ++ .list (us.map (uV mt)) :: G)))) (h2 : a ρ (zE mt (rs s (R ++ .list (us.map (uV mt)) :: G))) = some (uV mt u, zE mt (rs s (R ++ .list (us.map (uV mt)) :: G)))) (hl : us.length < 1000) :
    yR (xZ o a) ρ (zE mt (rs s (R ++ .list (us.map (uV mt)) :: G))) = some (.next, ρ, zE mt (rs s (R ++ .list ((us ++ [u]).map (uV mt)) :: G))) := by
  have h := app_of h1 yW h2 yW (by rw [List.length_map]; exact hl)
  rw [rs_set, ← List.map_singleton (f := uV mt), ← List.map_append] at h
  exact expr_of h
theorem lk_third {c u : Nat} (hc : c < 4) {acc : List Nat} (hl : acc.length < 1000) {x z : Option V} : ifS (zX (cE (.str [118])) [(.notin, (zC 2))]) (zI [yR (xZ (zC 3) (zC 5))]) (zI []) (lkR mt R c x (some (uV mt u)) z) (zE mt (rs s (R ++ .list (acc.map (uV mt)) :: G))) =
    some (.next, lkR mt R c x (some (uV mt u)) z, zE mt (rs s (R ++ .list ((acc ++ (if (w4 c).contains 118 then [] else [u])).map (uV mt)) :: G))) := by
  have hv := lk_v (ρ := (lkR mt R c x (some (uV mt u)) z).drop 3) (a := some (.obj (T mt))) (b := some (.obj (T mt + 15))) (σ := zE mt (rs s (R ++ .list (acc.map (uV mt)) :: G))) c hc
  cases e : (w4 c).contains 118 with
  | true => rw [e] at hv; refine (if_ff hv rfl).trans ?_; rw [if_pos rfl, List.append_nil]; rfl
  | false => rw [e] at hv; exact if_tt hv (zN (app_rs rfl rfl hl) rfl)
theorem lk_turn {q u c : Nat} (hq : q < 11) (hc : c < 4) {acc : List Nat} (ha : acc.length < 900) {z : Option V} :
    ∃ z', lkB (lkR mt R c (some (uV mt q)) (some (uV mt u)) z) (zE mt (rs s (R ++ .list (acc.map (uV mt)) :: G))) = some (.next, lkR mt R c (some (uV mt q)) (some (uV mt u)) z', zE mt (rs s (R ++ .list ((acc ++ lkE (w4 c) (q, u)).map (uV mt)) :: G))) := by
  refine ⟨some (.bool (decide (q < 3))), ?_⟩
  unfold lkE
  have h1 : zQ (zG 6) (andE (jC (zC 4) [.int]) (cmpE (zC 4) [(.lt, (cE (.int 4)))])) (lkR mt R c (some (uV mt q)) (some (uV mt u)) z) (zE mt (rs s (R ++ .list (acc.map (uV mt)) :: G))) = some (.next, lkR mt R c (some (uV mt q)) (some (uV mt u)) (some (.bool (decide (q < 3)))), _) := wF (is_arr q hq) rfl
  have h2 : andT (notT (xO (zC 6))) (zX (cE (.str [107])) [(.notin, (zC 2))]) (lkR mt R c (some (uV mt q)) (some (uV mt u)) (some (.bool (decide (q < 3))))) (zE mt (rs s (R ++ .list (acc.map (uV mt)) :: G))) = some (decide (3 ≤ q) && !(w4 c).contains 107, zE mt (rs s (R ++ .list (acc.map (uV mt)) :: G))) := by
    have := and_of (ρ := lkR mt R c (some (uV mt q)) (some (uV mt u)) (some (.bool (decide (q < 3))))) (σ := zE mt (rs s (R ++ .list (acc.map (uV mt)) :: G))) (not_of (jJ (e := zC 6) rfl)) (lk_k c hc)
    rw [show (!decide (q < 3)) = decide (3 ≤ q) by by_cases h : q < 3 <;> simp [h] <;> omega] at this
    exact this
  have h3 : ifS (andT (notT (xO (zC 6))) (zX (cE (.str [107])) [(.notin, (zC 2))])) (zI [yR (xZ (zC 3) (zC 4))]) (zI []) (lkR mt R c (some (uV mt q)) (some (uV mt u)) (some (.bool (decide (q < 3))))) (zE mt (rs s (R ++ .list (acc.map (uV mt)) :: G))) =
      some (.next, lkR mt R c (some (uV mt q)) (some (uV mt u)) (some (.bool (decide (q < 3)))), zE mt (rs s (R ++ .list ((acc ++ (if decide (3 ≤ q) && !(w4 c).contains 107 then [q] else [])).map (uV mt)) :: G))) := by
    cases e : (decide (3 ≤ q) && !(w4 c).contains 107) with
    | true => rw [e] at h2; exact if_tt h2 (zN (app_rs rfl rfl (Nat.lt_of_lt_of_le ‹_› (by decide))) rfl)
    | false => rw [e] at h2; refine (if_ff h2 rfl).trans ?_; rw [if_neg (by decide), List.append_nil]; rfl
  have hl : (acc ++ (if decide (3 ≤ q) && !(w4 c).contains 107 then [q] else [])).length < 1000 := by
    rw [List.length_append]; split <;> simp <;> omega
  rw [← List.append_assoc]
  exact zN h1 (zN h3 (zN (lk_third hc hl) rfl))
end
end Mine


section
namespace Mine
theorem kept_flat {β : Type} (vv : Nat → Nat) (g : Nat × Nat → List β) : ∀ l : List Nat, (l.filterMap (keptF vv)).flatMap g = l.flatMap fun q => if vv q = 15 then [] else g (q, vv q)
  | [] => rfl
  | q :: l => by
    rw [List.filterMap_cons, List.flatMap_cons, ← kept_flat vv g l]
    unfold keptF
    by_cases h : vv q = 15
    · rw [if_pos h, if_pos h]; rfl
    · rw [if_neg h, if_neg h]; rfl
theorem filter_flat {α β : Type} (p : α → Bool) (g : α → List β) : ∀ l : List α, (l.filter p).flatMap g = l.flatMap fun a => if p a then g a else []
  | [] => rfl
  | a :: l => by
    rw [List.flatMap_cons, ← filter_flat p g l]
    cases h : p a with
    | true => rw [List.filter_cons_of_pos h, List.flatMap_cons, if_pos rfl]
    | false => rw [List.filter_cons_of_neg (by rw [h]; decide), if_neg (by decide)]; rfl
theorem flat_congr {α β : Type} {f g : α → List β} : ∀ {l : List α}, (∀ a ∈ l, f a = g a) → l.flatMap f = l.flatMap g
  | [], _ => rfl
  | a :: l, h => by rw [List.flatMap_cons, List.flatMap_cons, h a (.head _), flat_congr fun b hb => h b (.tail _ hb)]
theorem range11 : List.range 11 = List.range 3 ++ (List.range 8).map (· + 3) := rfl
theorem flat_map {α β γ : Type} (f : α → β) (g : β → List γ) : ∀ l : List α, (l.map f).flatMap g = l.flatMap fun a => g (f a)
  | [] => rfl
  | a :: l => by rw [List.map_cons, List.flatMap_cons, List.flatMap_cons, flat_map f g l]
theorem nodes_perm {β : Type} {t : Tb} {vv : Nat → Nat} (hg : Good (fun i => vv (i + 3) != 15) t) (E : Nat → List β) :
    ((List.range 8).flatMap fun p => if t.kc p = 15 then [] else E (t.kc p)).Perm ((List.range 8).flatMap fun i => if vv (i + 3) = 15 then [] else E (i + 3)) := by
  have h := hg.perm.flatMap_right E
  rw [filter_flat, flat_map, flat_map, filter_flat] at h
  refine (List.Perm.of_eq (flat_congr fun p _ => ?_)).trans (h.trans (.of_eq (flat_congr fun i _ => ?_)))
  · by_cases hk : t.kc p = 15
    · rw [if_pos hk, hk]; rfl
    · rw [if_neg hk, if_pos (by rw [bne_iff_ne]; exact hk)]
  · by_cases hk : vv (i + 3) = 15
    · rw [if_pos hk, hk]; rfl
    · rw [if_neg hk, if_pos (by rw [bne_iff_ne]; exact hk)]
theorem kept_split {β : Type} (vv : Nat → Nat) (g : Nat × Nat → List β) : (wD vv 11).flatMap g = ((List.range 3).flatMap fun q => if vv q = 15 then [] else g (q, vv q)) ++ (List.range 8).flatMap fun i => if vv (i + 3) = 15 then [] else g (i + 3, vv (i + 3)) := by
  unfold wD
  rw [kept_flat, range11, List.flatMap_append, flat_map]
theorem ch_perm {mt : Bool} {d : D} {t : Tb} {w : List UInt8} (hg : Good (fun i => d.vv (i + 3) != 15) t) : ((chN d t (avq d.vv 3) w).filter (obX mt)).Perm ((lkN mt d.vv w).filter (obX mt)) := by
  unfold chN lkN chA
  rw [kept_split]
  have h1 := nodes_perm hg (fun k => keN w k (d.vv k))
  have e1 : ((List.range 8).flatMap fun i => if d.vv (i + 3) = 15 then [] else lkE w (i + 3, d.vv (i + 3))) = (List.range 8).flatMap fun i => if d.vv (i + 3) = 15 then [] else keN w (i + 3) (d.vv (i + 3)) := by
    refine flat_congr fun i _ => ?_
    unfold lkE keN; dsimp only
    rw [decide_eq_true (by omega : 3 ≤ i + 3), Bool.true_and]
    cases w.contains 107 <;> rfl
  rw [e1]
  have e2 : ∀ q, (if w.contains 118 then [] else [d.vv q]).filter (obX mt) = (if d.vv q = 15 then [] else (if w.contains 118 then [] else [d.vv q])).filter (obX mt) := fun q => by
    by_cases h : d.vv q = 15
    · rw [if_pos h, h]; cases mt <;> cases w.contains 118 <;> rfl
    · rw [if_neg h]
  have e3 : ∀ q, q < 3 → (if d.vv q = 15 then [] else lkE w (q, d.vv q)) = if d.vv q = 15 then [] else (if w.contains 118 then [] else [d.vv q]) := fun q hq => by
    unfold lkE; dsimp only
    rw [decide_eq_false (by exact Nat.not_le_of_lt ‹_› : ¬ 3 ≤ q), Bool.false_and]; rfl
  have p1 : List.filter (obX mt) [18] = List.filter (obX mt) (if mt then [18] else []) := by cases mt <;> rfl
  have p2 : List.filter (obX mt) (if w.contains 118 then [] else [avq d.vv 3 0, avq d.vv 3 1, avq d.vv 3 2]) = List.filter (obX mt) ((List.range 3).flatMap fun q => if d.vv q = 15 then [] else lkE w (q, d.vv q)) := by
    rw [show (List.range 3).flatMap (fun q => if d.vv q = 15 then [] else lkE w (q, d.vv q)) = (if d.vv 0 = 15 then [] else lkE w (0, d.vv 0)) ++ ((if d.vv 1 = 15 then [] else lkE w (1, d.vv 1)) ++ ((if d.vv 2 = 15 then [] else lkE w (2, d.vv 2)) ++ [])) from rfl]
    rw [e3 0 (by decide), e3 1 (by decide), e3 2 (by decide), List.filter_append, List.filter_append, List.filter_append, ← e2, ← e2, ← e2, ← List.filter_append, ← List.filter_append, ← List.filter_append]
    cases w.contains 118 <;> rfl
  have p3 := (h1.filter (obX mt))
  have e4 : (List.range 8).flatMap (entN d t w) = (List.range 8).flatMap fun p => if t.kc p = 15 then [] else keN w (t.kc p) (d.vv (t.kc p)) := rfl
  rw [← e4] at p3
  rw [List.filter_append, show (18 :: if w.contains 118 then [] else [avq d.vv 3 0, avq d.vv 3 1, avq d.vv 3 2]) = [18] ++ (if w.contains 118 then [] else [avq d.vv 3 0, avq d.vv 3 1, avq d.vv 3 2]) from rfl, List.filter_append, p1, p2, List.filter_append, List.filter_append, ← List.append_assoc]
  exact p3.append_left _
end Mine


section
namespace Mine
noncomputable def nums (mt : Bool) (us : List Nat) : List Int := (us.filter (obX mt)).map numX
theorem nums_len (mt : Bool) (us : List Nat) : (nums mt us).length ≤ us.length := by
  unfold nums; rw [List.length_map]; exact List.length_filter_le _ _
noncomputable def EntC (e : Nat × Nat) : Prop := e.1 < 11 ∧ e.2 < 15
theorem kept_ent {ns : List Int} {t : Int} {n : Nat} : ∀ e ∈ wD (vvD ns t) n, EntC e ∧ e.2 = vvD ns t e.1 ∧ vvD ns t e.1 ≠ 15 := fun e he => by
  unfold wD at he
  obtain ⟨q, _, h⟩ := List.mem_filterMap.mp he
  unfold keptF at h
  by_cases hq : vvD ns t q = 15
  · rw [if_pos hq] at h; cases h
  · rw [if_neg hq] at h; cases h
    have := (vv_cases ns t q).resolve_left hq
    exact ⟨⟨this.1, this.2.1⟩, rfl, hq⟩
theorem lkE_mem {w : List UInt8} {e : Nat × Nat} (h : EntC e) : ∀ u ∈ lkE w e, u < 19 := fun u hu => by
  unfold lkE at hu
  obtain ⟨h1, h2⟩ := h
  rcases List.mem_append.mp hu with h | h
  · split at h
    · cases List.mem_singleton.mp h; exact Nat.lt_of_lt_of_le ‹_› (by decide)
    · cases h
  · split at h
    · cases h
    · cases List.mem_singleton.mp h; exact Nat.lt_of_lt_of_le ‹_› (by decide)
theorem flat_len2 {α : Type} {f : α → List Nat} (h : ∀ p, (f p).length ≤ 2) : ∀ l : List α, (l.flatMap f).length ≤ 2 * l.length
  | [] => Nat.le_refl _
  | a :: l => by
    have := flat_len2 h l; have h2 := h a
    rw [List.flatMap_cons, List.length_append, List.length_cons]; omega
section
variable {mt : Bool} {s : PS} {R G : H} {ns : List Int} {t : Int}
theorem m18_len (mt : Bool) : (if mt then [18] else [] : List Nat).length ≤ 1 := by cases mt <;> decide
theorem lkN_len (w : List UInt8) {vv : Nat → Nat} : (lkN mt vv w).length ≤ 23 := by
  have h1 := flat_len2 (f := lkE w) (fun e => lkE_len) (wD vv 11)
  have h2 := keptL_len vv 11
  have h3 := m18_len mt
  unfold lkN; rw [List.length_append]; omega
theorem lkN_mem {w : List UInt8} : ∀ u ∈ lkN mt (vvD ns t) w, u < 19 := fun u hu => by
  unfold lkN at hu
  rcases List.mem_append.mp hu with h | h
  · cases mt
    · cases h
    · cases List.mem_singleton.mp h; decide
  · obtain ⟨e, he, h⟩ := List.mem_flatMap.mp h
    exact lkE_mem (kept_ent e he).1 u h
theorem kept_nxt (k : Nat) : (It.lst (T mt + 15)).nxt k (zE mt s) = some ((s.kept.map (prV mt))[k]?) := jF kept_at k
theorem lk_loop {c : Nat} (hc : c < 4) (hk : s.kept = wD (vvD ns t) 11) : ∃ x y z, forL (.lst (T mt + 15)) (jB [(zG 4), (zG 5)]) lkB 100 0 (lkR mt R c none none none) (zE mt (rs s (R ++ [.list ((if mt then [18] else []).map (uV mt))]))) =
    some (.next, lkR mt R c x y z, zE mt (rs s (R ++ [.list ((lkN mt (vvD ns t) (w4 c)).map (uV mt))]))) := by
  have hl := keptL_len (vvD ns t) 11
  obtain ⟨ρ', σ', h1, x, y, z, rfl, rfl⟩ := for_inv (it := .lst (T mt + 15)) (tg := jB [(zG 4), (zG 5)]) (b := lkB) (us := (wD (vvD ns t) 11).map (prV mt))
    (fun k ρ σ => ∃ x y z, ρ = lkR mt R c x y z ∧ σ = zE mt (rs s (R ++ [.list (((if mt then [18] else []) ++ ((wD (vvD ns t) 11).take k).flatMap (lkE (w4 c))).map (uV mt))])))
    (fun k ρ σ ⟨x, y, z, e1, e2⟩ => by
      subst e2; have := kept_nxt (mt := mt) (s := rs s (R ++ [.list (((if mt then [18] else []) ++ ((wD (vvD ns t) 11).take k).flatMap (lkE (w4 c))).map (uV mt))])) k
      rw [this]; show some ((s.kept.map (prV mt))[k]?) = _; rw [hk])
    (fun k hk' ρ σ ⟨x, y, z, e1, e2⟩ => by
      have hk' : k < (wD (vvD ns t) 11).length := by simpa using hk'
      subst e1; subst e2
      obtain ⟨he, _⟩ := kept_ent _ (List.getElem_mem hk')
      have h2 := flat_len2 (f := lkE (w4 c)) (fun e => lkE_len) ((wD (vvD ns t) 11).take k)
      rw [List.length_take] at h2
      have h3 := m18_len mt
      obtain ⟨z', h⟩ := lk_turn (mt := mt) (s := s) (R := R) (G := []) he.1 hc (u := ((wD (vvD ns t) 11)[k]).2) (acc := (if mt then [18] else []) ++ ((wD (vvD ns t) 11).take k).flatMap (lkE (w4 c))) (by rw [List.length_append]; omega) (z := z)
      refine ⟨lkR mt R c (some (uV mt ((wD (vvD ns t) 11)[k]).1)) (some (uV mt ((wD (vvD ns t) 11)[k]).2)) z, _, _, _, ?_, h, _, _, z', rfl, ?_⟩
      · rw [List.getElem_map]; rfl
      · rw [List.take_succ_eq_append_getElem hk', List.flatMap_append, List.flatMap_singleton, List.append_assoc])
    100 0 (lkR mt R c none none none) _ ⟨none, none, none, rfl, by rw [List.take_zero, List.flatMap_nil, List.append_nil]⟩ (Nat.zero_le _) (by rw [List.length_map]; exact Nat.lt_of_le_of_lt ‹_› (by decide))
  rw [List.length_map, List.take_of_length_le (Nat.le_refl _)] at h1
  exact ⟨x, y, z, h1⟩
theorem nums_sorted {e : Ex V} {ρ : Rho} {σ : H} {us : List Nat} {i : Nat} (h : e ρ σ = some (.obj i, zE mt (rs s (R ++ [.list ((nums mt us).map .int)])))) (hi : i = ix mt R) (hl : us.length < 50) :
    sortedE e ρ σ = some (.obj (ix mt (R ++ [.list ((nums mt us).map .int)])), zE mt (rs s (R ++ [.list ((nums mt us).map .int)] ++ [.list (xL rkI ((nums mt us).map .int))]))) := by
  subst hi
  have hn := nums_len mt us
  exact sorted_of h yW (sortO_ints (by exact Nat.lt_of_le_of_lt ‹_› (Nat.lt_of_lt_of_le ‹_› (by decide)))) (wK (by rw [(sortR_perm _).length_eq, List.length_map]; exact Nat.le_trans ‹_› (Nat.le_trans (Nat.le_of_lt ‹_›) (by decide))))
theorem law_kept {c : Nat} (hc : c < 4) (hk : s.kept = wD (vvD ns t) 11) : ∃ G i, f__law_kept [.obj (T mt), .obj (T mt + 15), .str (sS c)] (zE mt (rs s R)) = some (.obj i, zE mt (rs s (R ++ G))) ∧ listAt (zE mt (rs s (R ++ G))) (.obj i) = some (xL rkI ((nums mt (lkN mt (vvD ns t) (w4 c))).map .int)) := by
  obtain ⟨x, y, z, hL⟩ := lk_loop (mt := mt) (s := s) (R := R) hc hk
  have h1 : iteE (zX (zL (zC 0) .mta) [(.is, (cE .none))]) (xM []) (xM [(zL (zC 0) .mta)]) ([some (.obj (T mt)), some (.obj (T mt + 15)), some (.str (sS c)), none, none, none, none, none, none, none]) (zE mt (rs s R)) = some (.obj (ix mt R), zE mt (rs s (R ++ [.list ((if mt then [18] else []).map (uV mt))]))) := by cases mt <;> kernel_rfl
  have hm := lkN_mem (mt := mt) (ns := ns) (t := t) (w := w4 c)
  have hl := lkN_len (mt := mt) (w4 c) (vv := vvD ns t)
  generalize lkN mt (vvD ns t) (w4 c) = us at *
  have h2 : xR (xJ (zC 3)) [none, none, none, none] (zG 1) [(xO (jC (zC 1) [.heap]))] (zL (zC 1) .number) (lkR mt R c x y z) (zE mt (rs s (R ++ [.list (us.map (uV mt))]))) = some (.obj (ix mt (R ++ [.list (us.map (uV mt))])), zE mt (rs s (R ++ [.list (us.map (uV mt))] ++ [.list ((nums mt us).map .int)]))) := by
    have : compL (.lst (ix mt R)) (zG 1) [(xO (jC (zC 1) [.heap]))] (zL (zC 1) .number) 100 0 [none, none, none, none] (zE mt (rs s (R ++ [.list (us.map (uV mt))]))) [] = some ((us.filter (obX mt)).map (fun u => V.int (numX u)), zE mt (rs s (R ++ [.list (us.map (uV mt))]))) := by
      refine comp_run (us := us) (val := uV mt) (fun ρ => ∃ x, ρ = [none, x, none, none]) ⟨none, rfl⟩ (Nat.lt_of_le_of_lt ‹_› (by decide)) (jF (yW (Y := []))) fun u hu ρ hρ => ?_
      obtain ⟨x, rfl⟩ := hρ
      refine ⟨_, rfl, ⟨_, rfl⟩, zW (jJ (isi_of rfl (is_heapX u (hm u hu)))) ?_, fun h => attr_of rfl (num_X (hm u hu) h)⟩
      cases obX mt u <;> rfl
    have e : (us.filter (obX mt)).map (fun u => V.int (numX u)) = (nums mt us).map .int := by unfold nums; rw [List.map_map]; rfl
    rw [e] at this
    have hn := nums_len mt us
    exact jO (wL rfl yW) this (wK (by rw [List.length_map]; exact Nat.le_trans ‹_› (Nat.le_trans ‹_› (by decide))))
  have h3 := nums_sorted h2 rfl (Nat.lt_of_le_of_lt ‹_› (by decide))
  refine ⟨[.list (us.map (uV mt))] ++ [.list ((nums mt us).map .int)] ++ [.list (xL rkI ((nums mt us).map .int))], ix mt (R ++ [.list (us.map (uV mt))] ++ [.list ((nums mt us).map .int)]), ?_, ?_⟩
  · rw [← List.append_assoc, ← List.append_assoc]
    exact xN rfl (zN (wF h1 rfl) (zN (for_of (wL rfl kept_at) hL) (yP (wP h3)))) (by simp)
  · rw [← List.append_assoc, ← List.append_assoc]
    exact yW
end
end Mine


section
namespace Mine
section
variable {mt : Bool} {d : D} {t : Tb} {wk : V} {x8 x9 : Option V}
theorem chN_mem {w : List UInt8} (hg : Good (fun i => d.vv (i + 3) != 15) t) : ∀ u ∈ chN d t (avq d.vv 3) w, u < 19 := fun u hu => by
  have hv : ∀ q, d.vv q < 19 := fun q => by rcases vv_cases d.ns d.t q with h | h <;> unfold D.vv <;> omega
  have ha : ∀ q, avq d.vv 3 q < 19 := fun q => by
    unfold avq
    split
    · exact hv q
    · decide
  unfold chN chA at hu
  rcases List.mem_append.mp hu with h | h
  · rcases List.mem_cons.mp h with rfl | h
    · decide
    · split at h
      · cases h
      · rcases List.mem_cons.mp h with rfl | h
        · exact ha 0
        · rcases List.mem_cons.mp h with rfl | h
          · exact ha 1
          · rcases List.mem_cons.mp h with rfl | h
            · exact ha 2
            · cases h
  · obtain ⟨p, hp, h⟩ := List.mem_flatMap.mp h
    have hk := hg.keys p (List.mem_range.mp hp)
    unfold entN keN at h
    split at h
    · cases h
    · rcases List.mem_append.mp h with h | h
      · split at h
        · cases h
        · cases List.mem_singleton.mp h; rcases hk with hk | hk <;> omega
      · split at h
        · cases h
        · cases List.mem_singleton.mp h; exact hv _
theorem wz_s {k : Nat} (hk : k < 6) : wz mt k = sS (wc mt k) ∧ wc mt k < 4 := by
  cases mt with
  | false => exact ⟨rfl, Nat.le_of_ble_eq_true rfl⟩
  | true => exact (by decide : ∀ k, k < 6 → wz true k = sS (wc true k) ∧ wc true k < 4) k hk
theorem children_of (hg : Good (fun i => d.vv (i + 3) != 15) t) (hk : d.fm < 6) : ∃ G, f_children_of [.obj (T mt)] (zE mt (SF d t (avq d.vv 3) noG noD wk [])) =
    some (.obj (ix mt G), zE mt (rs (SF d t (avq d.vv 3) noG noD (.bytes (w4 (wc mt d.fm))) []) (G ++ [.list (((chN d t (avq d.vv 3) (w4 (wc mt d.fm))).filter (obX mt)).map (uV mt))]))) := by
  obtain ⟨G, h⟩ := tc_spec (mt := mt) (av := avq d.vv 3) (wk := wk) (b := fun _ => true) hg hk
  have h2 := objects_of (mt := mt) (s := SF d t (avq d.vv 3) noG noD (.bytes (w4 (wc mt d.fm))) []) (R := .list ((chN d t (avq d.vv 3) (w4 (wc mt d.fm))).map (uV mt)) :: G) (i := T mt + 21) (chN_mem (w := w4 (wc mt d.fm)) hg) (by have := chN_len (d := d) (t := t) (av := avq d.vv 3) (w := w4 (wc mt d.fm)); exact Nat.lt_of_le_of_lt ‹_› (by decide)) (by cases mt <;> kernel_rfl)
  refine ⟨.list ((chN d t (avq d.vv 3) (w4 (wc mt d.fm))).map (uV mt)) :: G, xN rfl (yP (if_tt (jJ (isi_of rfl (by cases mt <;> kernel_rfl))) (yP (wP (yJ (wE (yJ rfl h) rfl) h2))))) (by simp)⟩
theorem weak_eq {R : H} {a8 a9 a10 a11 a12 a13 a14 : Option V} : ∀ c, c < 4 → zX (zL (zC 5) .weak) [(.ne, (encodeE (zC 3)))] (lR mt (sS c) a8 a9 a10 a11 a12 a13 a14) (zE mt (SF d t (avq d.vv 3) noG noD (.bytes (w4 c)) R)) = some (false, zE mt (SF d t (avq d.vv 3) noG noD (.bytes (w4 c)) R)) := by
  refine yF ?_; cases mt <;> kernel_rfl
theorem lw7_run (hg : Good (fun i => d.vv (i + 3) != 15) t) (hk : d.fm < 6) : ∃ G, lw7 (lR mt (sS (wc mt d.fm)) x8 x9 none none none none none) (zE mt (SF d t (avq d.vv 3) noG noD wk [])) =
    some (.next, lR mt (sS (wc mt d.fm)) x8 x9 none none none none none, zE mt (SF d t (avq d.vv 3) noG noD (.bytes (w4 (wc mt d.fm))) G)) := by
  obtain ⟨G, h1⟩ := children_of (mt := mt) (wk := wk) hg hk
  obtain ⟨_, hc⟩ := wz_s (mt := mt) hk
  have hm := chN_mem (w := w4 (wc mt d.fm)) hg
  have hl := chN_len (d := d) (t := t) (av := avq d.vv 3) (w := w4 (wc mt d.fm))
  have hp := ch_perm (mt := mt) (w := w4 (wc mt d.fm)) hg
  have hw := fun R => weak_eq (mt := mt) (d := d) (t := t) (R := R) (a8 := x8) (a9 := x9) (a10 := none) (a11 := none) (a12 := none) (a13 := none) (a14 := none) _ hc
  generalize chN d t (avq d.vv 3) (w4 (wc mt d.fm)) = us at *
  generalize hS : SF d t (avq d.vv 3) noG noD (.bytes (w4 (wc mt d.fm))) [] = s at *
  have hn := nums_len mt us
  have h2 : xR (xJ (zR f_children_of [(zC 5)])) [none, none] (zG 1) [] (zL (zC 1) .number) (lR mt (sS (wc mt d.fm)) x8 x9 none none none none none) (zE mt (SF d t (avq d.vv 3) noG noD wk [])) =
      some (.obj (ix mt (G ++ [.list ((us.filter (obX mt)).map (uV mt))])), zE mt (rs s (G ++ [.list ((us.filter (obX mt)).map (uV mt))] ++ [.list ((nums mt us).map .int)]))) := by
    have : compL (.lst (ix mt G)) (zG 1) [] (zL (zC 1) .number) 100 0 [none, none] (zE mt (rs s (G ++ [.list ((us.filter (obX mt)).map (uV mt))]))) [] = some ((us.filter (obX mt)).map (fun u => V.int (numX u)), zE mt (rs s (G ++ [.list ((us.filter (obX mt)).map (uV mt))]))) := by
      have hf := List.length_filter_le (obX mt) us
      refine comp_all (us := us.filter (obX mt)) (val := uV mt) (fun ρ => ∃ x, ρ = [none, x]) ⟨none, rfl⟩ (by exact Nat.lt_of_le_of_lt ‹_› (Nat.lt_of_le_of_lt ‹_› (by decide))) (jF (yW (Y := []))) fun u hu ρ hρ => ?_
      obtain ⟨x, rfl⟩ := hρ
      obtain ⟨h3, h4⟩ := List.mem_filter.mp hu
      exact ⟨_, rfl, ⟨_, rfl⟩, attr_of rfl (num_X (hm u h3) h4)⟩
    have e : (us.filter (obX mt)).map (fun u => V.int (numX u)) = (nums mt us).map .int := by unfold nums; rw [List.map_map]; rfl
    rw [e] at this
    exact jO (wL (yJ rfl h1) (yW (Y := []))) this (wK (by rw [List.length_map]; exact Nat.le_trans ‹_› (Nat.le_trans ‹_› (by decide))))
  have h3 := nums_sorted h2 rfl (Nat.lt_of_le_of_lt ‹_› (by decide))
  obtain ⟨G', j, h4, h5⟩ := law_kept (mt := mt) (s := s) (R := G ++ [.list ((us.filter (obX mt)).map (uV mt))] ++ [.list ((nums mt us).map .int)] ++ [.list (xL rkI ((nums mt us).map .int))]) hc (ns := d.ns) (t := d.t) (by rw [← hS]; rfl)
  have hs : xL rkI ((nums mt us).map .int) = xL rkI ((nums mt (lkN mt (vvD d.ns d.t) (w4 (wc mt d.fm)))).map .int) := sort_ints_eq (hp.map _)
  rw [← hs] at h5
  have h6 : listAt (zE mt (rs s (G ++ [.list ((us.filter (obX mt)).map (uV mt))] ++ [.list ((nums mt us).map .int)] ++ [.list (xL rkI ((nums mt us).map .int))] ++ G'))) (.obj (ix mt (G ++ [.list ((us.filter (obX mt)).map (uV mt))] ++ [.list ((nums mt us).map .int)]))) = some (xL rkI ((nums mt us).map .int)) := by
    rw [List.append_assoc]; exact yW
  have h7 := ne_same h6 h5 fun v hv => by
    obtain ⟨i, _, rfl⟩ := List.mem_map.mp ((sortR_perm _).mem_iff.mp hv)
    rfl
  have h8 := wQ h3 (yJ (es := [(zC 5), (zC 6), (zC 3)]) rfl h4) h7
  have h9 := hw (G ++ [.list ((us.filter (obX mt)).map (uV mt))] ++ [.list ((nums mt us).map .int)] ++ [.list (xL rkI ((nums mt us).map .int))] ++ G')
  subst hS
  exact ⟨_, if_ff (or_f h8 h9) rfl⟩
end
end Mine


section
namespace Mine
noncomputable def wV : List Nat := [10, 9, 8, 7, 6, 5]
section
variable {mt : Bool} {d : D} {t : Tb} {s : PS} {R G : H} {w : List Nat} {a8 a9 a10 a11 a12 a13 a14 : Option V}
theorem lw6_run : lw6 (lR mt w a8 a9 a10 a11 a12 a13 a14) (zE mt s) = some (.next, lR mt w a8 a9 a10 a11 a12 a13 a14, zE mt s) := by
  cases mt <;> kernel_rfl
theorem objs_at : listAt (zE mt s) (.obj (B mt + 14)) = some (wV.map (uV mt)) := by cases mt <;> kernel_rfl
theorem objL_mem : ∀ u ∈ wV, u < 18 := by decide
theorem lw8_run : ∃ G, lw8 (lR mt w a8 a9 a10 a11 a12 a13 a14) (zE mt (rs s R)) = some (.next, lR mt w a8 a9 a10 a11 a12 a13 a14, zE mt (rs s G)) := by
  have h1 : xR (xJ (zC 4)) [none, none, none] (zG 1) [] (zR yC [(zC 1), (cE (.bool true))]) (lR mt w a8 a9 a10 a11 a12 a13 a14) (zE mt (rs s R)) = some (.obj (ix mt R), zE mt (rs s (R ++ [.list (wV.map fun u => .bool (lostK s u))]))) := by
    refine jO (wL rfl objs_at) (comp_all (us := wV) (fun ρ => ∃ x, ρ = [none, x, none]) ⟨none, rfl⟩ (by decide) (jF objs_at) fun u hu ρ hρ => ?_) (wK (Nat.le_of_ble_eq_true rfl))
    obtain ⟨x, rfl⟩ := hρ
    refine ⟨_, rfl, ⟨_, rfl⟩, (yJ (es := [(zC 1), (cE (.bool true))]) rfl (law_is_lost (objL_mem u hu))).trans ?_⟩
    rw [Bool.not_true, Bool.false_and, Bool.or_false]; rfl
  have h2 : xR (xJ (zC 4)) [none, none, none] (zG 1) [] (zR wG [(zC 1)]) (lR mt w a8 a9 a10 a11 a12 a13 a14) (zE mt (rs s (R ++ [.list (wV.map fun u => .bool (lostK s u))]))) = some (.obj (ix mt (R ++ [.list (wV.map fun u => .bool (lostK s u))])), zE mt (rs s (R ++ [.list (wV.map fun u => .bool (lostK s u))] ++ [.list (wV.map fun u => .bool (lostK s u))]))) := by
    refine jO (wL rfl objs_at) (comp_all (us := wV) (fun ρ => ∃ x, ρ = [none, x, none]) ⟨none, rfl⟩ (by decide) (jF objs_at) fun u hu ρ hρ => ?_) (wK (Nat.le_of_ble_eq_true rfl))
    obtain ⟨x, rfl⟩ := hρ
    exact ⟨_, rfl, ⟨_, rfl⟩, yJ (es := [zC 1]) rfl (is_lost_key (objL_mem u hu))⟩
  have l1 : listAt (zE mt (rs s (R ++ [.list (wV.map fun u => .bool (lostK s u))] ++ [.list (wV.map fun u => .bool (lostK s u))]))) (.obj (ix mt R)) = some (wV.map fun u => .bool (lostK s u)) := by
    rw [List.append_assoc]; exact yW (Y := [.list (wV.map fun u => .bool (lostK s u))])
  have l2 : listAt (zE mt (rs s (R ++ [.list (wV.map fun u => .bool (lostK s u))] ++ [.list (wV.map fun u => .bool (lostK s u))]))) (.obj (ix mt (R ++ [.list (wV.map fun u => .bool (lostK s u))]))) = some (wV.map fun u => .bool (lostK s u)) := yW
  have h3 := ne_same l1 l2 fun v hv => by
    obtain ⟨u, _, rfl⟩ := List.mem_map.mp hv; rfl
  have h4 := is_lost_key (mt := mt) (s := rs s (R ++ [.list (wV.map fun u => .bool (lostK s u))] ++ [.list (wV.map fun u => .bool (lostK s u))])) (u := 14) (by decide)
  refine ⟨_, if_ff (or_f (wQ h1 h2 h3) (jJ (yJ (es := [(cE (.bytes [116, 101, 120, 116]))]) rfl h4))) rfl⟩
theorem app_rsV {o a : Ex V} {ρ : Rho} {xs : List V} {y : V} (h1 : o ρ (zE mt (rs s (R ++ .list xs :: G))) = some (.obj (ix mt R), zE mt (rs s (R ++ .list xs :: G)))) (h2 : a ρ (zE mt (rs s (R ++ .list xs :: G))) = some (y, zE mt (rs s (R ++ .list xs :: G)))) (hl : xs.length < 1000) :
    yR (xZ o a) ρ (zE mt (rs s (R ++ .list xs :: G))) = some (.next, ρ, zE mt (rs s (R ++ .list (xs ++ [y]) :: G))) := by
  have h := app_of h1 yW h2 yW hl
  rw [rs_set] at h
  exact expr_of h
noncomputable def intN (p : Nat) : V := .int p
noncomputable def lostP (s : PS) (us : List Nat) (p : Nat) : Bool := lostV s (us.getD p 15)
theorem item_lst {σ : H} {i : Nat} {xs : List V} (h : listAt σ (.obj i) = some xs) {p : Nat} (hp : p < xs.length) (hb : xs.length < 1000) : itemO (.obj i) (.int p) σ = some xs[p] := by
  show (match listAt σ (.obj i) with | some xs => (place xs.length p).bind (xs[·]?) | _ => .none : Option V) = _
  rw [h]
  have : place xs.length (p : Int) = some p := by
    unfold place
    rw [if_pos (Int.natCast_nonneg p), if_pos ⟨by omega, by omega⟩]; rfl
  dsimp only
  rw [this]
  exact List.getElem?_eq_getElem hp
theorem len_lst {σ : H} {i : Nat} {xs : List V} (h : listAt σ (.obj i) = some xs) (hb : xs.length < 1000) : lenO (.obj i) σ = some (.int xs.length) := by
  show (listAt σ (.obj i)).bind (fun xs => if okLen xs then some (V.int xs.length) else .none) = _
  rw [h]; dsimp only [Option.bind_some]
  rw [if_pos (okLen_of (Nat.le_trans (Nat.le_of_lt ‹_›) (by decide)))]
theorem small_len {n : Nat} (h : n < 1000) : small (n : Int) = true := decide_eq_true (by show n < 2 ^ 40; exact Nat.lt_of_lt_of_le ‹_› (by decide))
theorem rng_of {e : Ex V} {ρ : Rho} {σ : H} {n : Nat} (h : e ρ σ = some (.int n, σ)) (hn : n < 1000) : rngI (cE (.int 0)) e ρ σ = some (.rng 0 n, σ) := by
  refine zW rfl (zW h ?_)
  dsimp only; rw [small_len hn]; rfl
theorem lost_places {us : List Nat} {i : Nat} (hu : ∀ u ∈ us, u < 18) (hl : us.length < 100) (h : listAt (zE mt (rs s R)) (.obj i) = some (us.map (uV mt))) :
    f_lost_places [.obj i, .fn 1] (zE mt (rs s R)) = some (.obj (ix mt R), zE mt (rs s (R ++ [.list (((List.range us.length).filter (lostP s us)).map intN)]))) := by
  have hlen := len_lst h (by rw [List.length_map]; exact Nat.lt_of_lt_of_le ‹_› (by decide))
  rw [List.length_map] at hlen
  refine xN (ρ := [some (.obj i), some (.fn 1), none, none]) rfl (yP (wP (jO (rng_of (len_of rfl hlen) (Nat.lt_of_lt_of_le ‹_› (by decide))) (comp_run (us := List.range us.length) (val := intN) (p := lostP s us) (g := intN) (fun ρ => ∃ x, ρ = [none, x, some (.fn 1), some (.obj i)]) ⟨none, rfl⟩ (by rw [List.length_range]; exact hl) (fun k => rng_nxt k) fun p hp ρ hρ => ?_) (wK ?_)))) (by simp)
  · obtain ⟨x, rfl⟩ := hρ
    have hp := List.mem_range.mp hp
    have hi := item_lst h (p := p) (by rw [List.length_map]; exact hp) (by rw [List.length_map]; exact Nat.lt_of_lt_of_le ‹_› (by decide))
    rw [List.getElem_map] at hi
    have hv := is_lost_value (mt := mt) (s := rs s R) (u := us[p]) (hu _ (List.getElem_mem hp))
    have e : us[p] = us.getD p 15 := by simp [hp]
    refine ⟨_, rfl, ⟨_, rfl⟩, zW (σ₁ := zE mt (rs s R)) (jJ (b := lostP s us p) (zW (a := .fn 1) (σ₁ := zE mt (rs s R)) rfl (zW (σ₁ := zE mt (rs s R)) (wE (σ₁ := zE mt (rs s R)) (item_of (σ₁ := zE mt (rs s R)) rfl rfl hi) rfl) ?_))) ?_, fun _ => rfl⟩
    · rw [e] at hv ⊢; exact hv
    · cases lostP s us p <;> rfl
  · have := List.length_filter_le (lostP s us) (List.range us.length)
    rw [List.length_range] at this
    rw [List.length_map]; exact Nat.le_trans ‹_› (Nat.le_trans (Nat.le_of_lt ‹_›) (by decide))
end
end Mine


section
namespace Mine
noncomputable def leP (s : PS) (e : Nat × Nat) : Bool := (e.2 != 15) && (lostK s e.1 || lostV s e.2)
noncomputable def leL (s : PS) (es : List (Nat × Nat)) (p : Nat) : Bool := leP s (es.getD p (15, 15))
noncomputable def leB : St := zI [
    zQ (jB [(zG 5), (zG 6)]) (yB (zC 0) (zC 4)),
    ifS (andT (zX (zC 6) [(.isnot, (cE .none))]) (orT (xO (callVE (zC 1) [(zC 5)])) (xO (callVE (zC 2) [(zC 6)])))) (zI [
      yR (xZ (zC 3) (zC 4))]) (zI [])]
noncomputable def leR (mt : Bool) (i : Nat) (R : H) (x y z : Option V) : Rho := [some (.obj i), some (.fn 0), some (.fn 1), some (.obj (ix mt R)), x, y, z, none, none]
theorem callV_of {f : Ex V} {g : V} {es : List (Ex V)} {ρ : Rho} {σ : H} {vs : List V} {r : Option (V × H)} (h0 : f ρ σ = some (g, σ)) (h1 : seqE es ρ σ = some (vs, σ)) (h2 : applyV g vs σ = r) : callVE f es ρ σ = r :=
  zW h0 (zW h1 h2)
section
variable {mt : Bool} {s : PS} {R G : H} {i : Nat} {es : List (Nat × Nat)}
theorem isN_18 : ∀ u, u < 18 → isN (uV mt u) = some (u == 15) := by
  refine yF ?_; cases mt <;> kernel_rfl
theorem le_turn (hu : ∀ e ∈ es, e.1 < 18 ∧ e.2 < 18) (hl : es.length < 100) (h : (zE mt (rs s R))[i]? = some (.list (es.map (prV mt)))) {p : Nat} (hp : p < es.length) {acc : List V} (ha : acc.length < 1000) {y z : Option V} :
    ∃ y' z', leB (leR mt i R (some (.int p)) y z) (zE mt (rs s (R ++ [.list acc]))) = some (.next, leR mt i R (some (.int p)) y' z', zE mt (rs s (R ++ [.list (acc ++ if leL s es p then [intN p] else [])]))) := by
  have hi := item_lst (listAt_of (rs_more (X := [.list acc]) h)) (p := p) (by rw [List.length_map]; exact hp) (by rw [List.length_map]; exact Nat.lt_of_lt_of_le ‹_› (by decide))
  rw [List.getElem_map] at hi
  obtain ⟨h1, h2⟩ := hu _ (List.getElem_mem hp)
  have e : es[p] = es.getD p (15, 15) := by simp [hp]
  unfold leL; rw [← e]
  generalize es[p] = en at *
  refine ⟨some (uV mt en.1), some (uV mt en.2), ?_⟩
  have hn : cmpO .isnot (uV mt en.2) .none (zE mt (rs s (R ++ [.list acc]))) = some (en.2 != 15) := by
    show (isN (uV mt en.2)).map (!·) = _
    rw [isN_18 _ h2]; rfl
  have hk : xO (callVE (zC 1) [(zC 5)]) (leR mt i R (some (.int p)) (some (uV mt en.1)) (some (uV mt en.2))) (zE mt (rs s (R ++ [.list acc]))) = some (lostK s en.1, zE mt (rs s (R ++ [.list acc]))) :=
    jJ (callV_of (g := .fn 0) (vs := [uV mt en.1]) rfl rfl (is_lost_key h1))
  have hv : xO (callVE (zC 2) [(zC 6)]) (leR mt i R (some (.int p)) (some (uV mt en.1)) (some (uV mt en.2))) (zE mt (rs s (R ++ [.list acc]))) = some (lostV s en.2, zE mt (rs s (R ++ [.list acc]))) :=
    jJ (callV_of (g := .fn 1) (vs := [uV mt en.2]) rfl rfl (is_lost_value h2))
  have ht : andT (zX (zC 6) [(.isnot, (cE .none))]) (orT (xO (callVE (zC 1) [(zC 5)])) (xO (callVE (zC 2) [(zC 6)]))) (leR mt i R (some (.int p)) (some (uV mt en.1)) (some (uV mt en.2))) (zE mt (rs s (R ++ [.list acc]))) = some (leP s en, zE mt (rs s (R ++ [.list acc]))) :=
    and_of (wQ rfl rfl hn) (or_of hk hv)
  refine zN (asg_of (item_of rfl rfl hi) rfl) (zN (?_ : _ = some (Fl.next, leR mt i R (some (.int p)) (some (uV mt en.1)) (some (uV mt en.2)), zE mt (rs s (R ++ [.list (acc ++ if leP s en then [intN p] else [])])))) rfl)
  cases e : leP s en with
  | true => exact if_tt (ht.trans (by rw [e])) (zN (app_rsV rfl rfl ha) rfl)
  | false =>
    refine (if_ff (ht.trans (by rw [e])) rfl).trans ?_
    rw [if_neg (by decide), List.append_nil]; rfl
theorem lost_entries (hu : ∀ e ∈ es, e.1 < 18 ∧ e.2 < 18) (hl : es.length < 100) (h : (zE mt (rs s R))[i]? = some (.list (es.map (prV mt)))) :
    f_lost_entries [.obj i, .fn 0, .fn 1] (zE mt (rs s R)) = some (.obj (ix mt R), zE mt (rs s (R ++ [.list (((List.range es.length).filter (leL s es)).map intN)]))) := by
  have h' := listAt_of (rs_more (X := [.list []]) h)
  have hlen := len_lst h' (by rw [List.length_map]; exact Nat.lt_of_lt_of_le ‹_› (by decide))
  rw [List.length_map] at hlen
  obtain ⟨ρ', σ', h1, x, y, z, rfl, rfl⟩ := for_inv (it := .rng 0 es.length) (tg := zG 4) (b := leB) (us := (List.range es.length).map fun p : Nat => V.int p)
    (fun k ρ σ => ∃ x y z, ρ = leR mt i R x y z ∧ σ = zE mt (rs s (R ++ [.list (((List.range k).filter (leL s es)).map intN)])))
    (fun k ρ σ _ => rng_nxt k)
    (fun k hk ρ σ ⟨x, y, z, e1, e2⟩ => by
      have hk : k < es.length := by simpa using hk
      subst e1; subst e2
      have hf := List.length_filter_le (leL s es) (List.range k)
      rw [List.length_range] at hf
      obtain ⟨y', z', ht⟩ := le_turn hu hl h hk (acc := ((List.range k).filter (leL s es)).map intN) (by rw [List.length_map]; omega) (y := y) (z := z)
      refine ⟨leR mt i R (some (.int k)) y z, _, _, _, ?_, ht, _, y', z', rfl, ?_⟩
      · rw [List.getElem_map, List.getElem_range]; rfl
      · rw [List.range_succ, List.filter_append, List.map_append]
        cases e : leL s es k with
        | true => rw [List.filter_cons_of_pos e]; rfl
        | false => rw [List.filter_cons_of_neg (by rw [e]; decide)]; rfl)
    100 0 (leR mt i R none none none) _ ⟨none, none, none, rfl, rfl⟩ (Nat.zero_le _) (by rw [List.length_map, List.length_range]; assumption)
  rw [List.length_map, List.length_range] at h1
  exact xN rfl (zN (wF (zW (a := []) (σ₁ := zE mt (rs s R)) rfl (wK (xs := []) (Nat.zero_le _))) rfl) (zN (for_of (rng_of (len_of rfl hlen) (Nat.lt_of_lt_of_le ‹_› (by decide))) h1) (yP (wP rfl)))) (by simp)
end
end Mine


section
namespace Mine
theorem new_of {c : Cl} {F : Fn} {args : List (Ex V)} {ρ : Rho} {σ σ₁ σ₂ : H} {vs : List V} (h1 : seqE args ρ σ = some (vs, σ₁)) (h2 : F (.obj σ₁.length :: vs) (σ₁ ++ [.inst c []]) = some (.none, σ₂)) : newE c F args ρ σ = some (.obj σ₁.length, σ₂) :=
  zW h1 (by show (match F (.obj σ₁.length :: vs) (σ₁ ++ [.inst c []]) with | some (.none, σ') => some (V.obj σ₁.length, σ') | _ => .none : Option (V × H)) = _; rw [h2])
theorem dead_init {σ : H} {i : Nat} {v : V} (h : σ[i]? = some (.inst .dead [])) : f_DeadKey_init [.obj i, v] σ = some (.none, σ.set i (.inst .dead [v])) := by
  refine fn_end (ρ := [some (.obj i), some v]) rfl (zN (asg_of rfl (attrA_of rfl ?_)) rfl) (by simp)
  unfold setF; dsimp only; rw [h]; rfl
noncomputable def deadC (k : Nat) : MO := .inst .dead [.int (30 - (k : Int))]
section
variable {mt : Bool} {s : PS}
noncomputable def buR (mt : Bool) (p : Nat) : Rho := [some (.obj (T mt)), some (.int p), some (.obj (T mt + 6 + p)), none, none]
theorem bu_1 : ∀ p : Nat, p < 8 → zI [zQ (zG 2) (yB (zL (zC 0) .nodes) (zC 1)), zQ (yQ (zC 2) .value) (cE .none)] [some (.obj (T mt)), some (.int p), none, none, none] (zE mt s) = some (.next, buR mt p, zE mt { s with gn := upd s.gn p true }) := by
  refine yF ?_; cases mt <;> kernel_rfl
theorem bu_2 : ∀ p : Nat, p < 8 → zL (zC 2) .key (buR mt p) (zE mt s) = some (ndV mt s p, zE mt s) := by
  refine yF ?_; cases mt <;> kernel_rfl
theorem bu_3 {L : Nat} : ∀ p : Nat, p < 8 → yQ (zC 2) .key (.obj L) (buR mt p) (zE mt s) = some (buR mt p, zE mt { s with dd := upd s.dd p (some L) }) := by
  refine yF ?_; cases mt <;> kernel_rfl
theorem coll_18 : ∀ u, u < 18 → wZ [uV mt u] (zE mt s) = some (.bool (obU u), zE mt s) := by
  refine yF ?_; cases mt <;> kernel_rfl
theorem num_u : ∀ i, i < 6 → getF (uV mt (i + 5)) .number (zE mt s) = some (.int (30 - ((i + 5 : Nat) : Int))) := by
  refine yF ?_; cases mt <;> kernel_rfl
theorem bury_plain {p k : Nat} (hp : p < 8) (hd : s.dd p = none) (hk : s.kc p = k) (hk' : k < 18) (ho : obU k = false) : f_bury [.obj (T mt), .int p] (zE mt s) = some (.none, zE mt { s with gn := upd s.gn p true }) := by
  have h2 := bu_2 (mt := mt) (s := { s with gn := upd s.gn p true }) p hp
  rw [show ndV mt { s with gn := upd s.gn p true } p = uV mt k by unfold ndV; dsimp only; rw [hd, hk]] at h2
  have h3 := coll_18 (mt := mt) (s := { s with gn := upd s.gn p true }) k hk'
  rw [ho] at h3
  exact fn_end rfl (seq_app (bu_1 p hp) (zN (if_ff (jJ (yJ (wE h2 rfl) h3)) rfl) rfl)) (by simp)
theorem bury_obj {p k : Nat} (hp : p < 8) (hd : s.dd p = none) (hk : s.kc p = k) (hk' : k < 18) (ho : obU k = true) : f_bury [.obj (T mt), .int p] (zE mt s) = some (.none, zE mt { s with gn := upd s.gn p true, dd := upd s.dd p (some (ix mt s.rest)), rest := s.rest ++ [deadC k] }) := by
  have h2 := bu_2 (mt := mt) (s := { s with gn := upd s.gn p true }) p hp
  rw [show ndV mt { s with gn := upd s.gn p true } p = uV mt k by unfold ndV; dsimp only; rw [hd, hk]] at h2
  have h3 := coll_18 (mt := mt) (s := { s with gn := upd s.gn p true }) k hk'
  rw [ho] at h3
  obtain ⟨i, hi, rfl⟩ := ob_code k hk' ho
  have h4 : zL (zL (zC 2) .key) .number (buR mt p) (zE mt { s with gn := upd s.gn p true }) = some (.int (30 - ((i + 5 : Nat) : Int)), zE mt { s with gn := upd s.gn p true }) := attr_of h2 (num_u i hi)
  have h5 : f_DeadKey_init [.obj (zE mt { s with gn := upd s.gn p true }).length, .int (30 - ((i + 5 : Nat) : Int))] (zE mt { s with gn := upd s.gn p true } ++ [.inst .dead []]) = some (.none, zE mt (rs { s with gn := upd s.gn p true } (s.rest ++ [deadC (i + 5)]))) := by
    rw [pre_app, pre_len]
    have := dead_init (v := .int (30 - ((i + 5 : Nat) : Int))) (rs_get (mt := mt) (s := { s with gn := upd s.gn p true }) (R := s.rest) (m := .inst .dead []) (Y := []))
    rw [rs_set] at this
    exact this
  have h6 := new_of (c := .dead) (args := [(zL (zL (zC 2) .key) .number)]) (wE h4 rfl) h5
  rw [pre_len] at h6
  exact fn_end rfl (seq_app (bu_1 p hp) (zN (if_tt (jJ (yJ (wE h2 rfl) h3)) (zN (asg_of h6 (bu_3 p hp)) rfl)) rfl)) (by simp)
end
end Mine


section
namespace Mine
noncomputable def lK (d : D) (u : Nat) : Bool := obU u && decide (mkD d.ns d.t (10 - u) < 2)
noncomputable def lV (d : D) (u : Nat) : Bool := obU u && (decide (mkD d.ns d.t (10 - u) < 2) || ((u == 7 || u == 8) && finD d.ns d.t (10 - u)))
noncomputable def goneP (d : D) (t : Tb) (p : Nat) : Bool := (d.vv (t.kc p) != 15) && (lK d (t.kc p) || lV d (d.vv (t.kc p)))
noncomputable def avC (d : D) (w : List UInt8) (av : Nat → Nat) (i : Nat) : Nat := if w.contains 118 && lV d (av i) then 15 else av i
noncomputable def DeadAt (mt : Bool) (s : PS) (p : Nat) : Prop := ∃ R Y, s.rest = R ++ deadC (s.kc p) :: Y ∧ s.dd p = some (ix mt R)
noncomputable def DeadOK (mt : Bool) (s : PS) (P : Nat → Bool) : Prop := ∀ p, p < 8 → s.gn p = P p ∧ ((P p && obU (s.kc p)) = true → DeadAt mt s p) ∧ ((P p && obU (s.kc p)) = false → s.dd p = none)
noncomputable def clr (av : Nat → Nat) (l : List Nat) (i : Nat) : Nat := if l.contains i then 15 else av i
theorem clr_succ {av : Nat → Nat} {l : List Nat} {k : Nat} (h : k < l.length) : upd (clr av (l.take k)) l[k] 15 = clr av (l.take (k + 1)) := by
  funext x
  unfold upd clr
  rw [List.take_succ_eq_append_getElem h]
  by_cases e : x = l[k]
  · rw [if_pos e, if_pos (by rw [List.contains_iff_mem]; exact List.mem_append_right _ (e ▸ List.mem_singleton_self _))]
  · rw [if_neg e]
    by_cases e2 : x ∈ l.take k
    · rw [if_pos (by rw [List.contains_iff_mem]; exact e2), if_pos (by rw [List.contains_iff_mem]; exact List.mem_append_left _ e2)]
    · rw [if_neg (by rw [List.contains_iff_mem]; exact e2), if_neg (by
        rw [List.contains_iff_mem]; intro h
        rcases List.mem_append.mp h with h | h
        · exact e2 h
        · exact e (List.mem_singleton.mp h))]
noncomputable def caR (mt : Bool) (x : Option V) : Rho := [some (.obj (T mt)), x, none, none, none, none, none, none]
noncomputable def caB : St := zI [zQ (itemA (zL (zC 0) .array) (zC 1)) (cE .none)]
noncomputable def cdR (mt : Bool) (x y z : Option V) : Rho := [some (.obj (T mt)), x, y, z, none, none, none, none]
noncomputable def cdB : St := zI [yR (yT .table f_bury (zC 0) [(zC 3)])]
section
variable {mt : Bool} {d : D} {t : Tb} {av : Nat → Nat} {gn : Nat → Bool} {dd : Nat → Option Nat} {wk : V} {R G : H} {s : PS}
theorem ca_turn : ∀ p : Nat, p < 3 → caB (caR mt (some (.int p))) (zE mt (SF d t av gn dd wk R)) = some (.next, caR mt (some (.int p)), zE mt (SF d t (upd av p 15) gn dd wk R)) := by
  refine yF ?_; cases mt <;> kernel_rfl
theorem ca_loop {ps : List Nat} (hp : ∀ p ∈ ps, p < 3) (hl : ps.length < 100) : ∃ x, forL (.lst (ix mt R)) (zG 1) caB 100 0 (caR mt none) (zE mt (SF d t av gn dd wk (R ++ [.list (ps.map intN)]))) =
    some (.next, caR mt x, zE mt (SF d t (clr av ps) gn dd wk (R ++ [.list (ps.map intN)]))) := by
  obtain ⟨ρ', σ', h1, x, rfl, rfl⟩ := for_inv (it := .lst (ix mt R)) (tg := zG 1) (b := caB) (us := ps.map intN)
    (fun k ρ σ => ∃ x, ρ = caR mt x ∧ σ = zE mt (SF d t (clr av (ps.take k)) gn dd wk (R ++ [.list (ps.map intN)])))
    (fun k ρ σ ⟨x, e1, e2⟩ => by subst e2; exact jF (yW (s := SF d t (clr av (ps.take k)) gn dd wk []) (R := R) (xs := ps.map intN) (Y := [])) k)
    (fun k hk ρ σ ⟨x, e1, e2⟩ => by
      have hk : k < ps.length := by simpa using hk
      subst e1; subst e2
      have h := ca_turn (mt := mt) (d := d) (t := t) (av := clr av (ps.take k)) (gn := gn) (dd := dd) (wk := wk) (R := R ++ [.list (ps.map intN)]) ps[k] (hp _ (List.getElem_mem hk))
      rw [clr_succ hk] at h
      exact ⟨_, _, _, _, by rw [List.getElem_map]; rfl, h, _, rfl, rfl⟩)
    100 0 (caR mt none) _ ⟨none, rfl, rfl⟩ (Nat.zero_le _) (by rw [List.length_map]; assumption)
  rw [List.length_map, List.take_of_length_le (Nat.le_refl _)] at h1
  exact ⟨x, h1⟩
theorem weak_v {ρ : Rho} : ∀ c, c < 4 → zX (cE (.bytes [118])) [(.isin, (zL (zC 0) .weak))] (some (.obj (T mt)) :: ρ) (zE mt (SF d t av gn dd (.bytes (w4 c)) R)) = some ((w4 c).contains 118, zE mt (SF d t av gn dd (.bytes (w4 c)) R)) := by
  refine yF ?_; cases mt <;> kernel_rfl
theorem arr_at : listAt (zE mt (SF d t av gn dd wk R)) (.obj (T mt + 4)) = some ([av 0, av 1, av 2].map (uV mt)) := by cases mt <;> kernel_rfl
theorem clear_arr {c : Nat} (hc : c < 4) (ha : ∀ i, av i < 18) : ∃ x av' R', (∀ i, i < 3 → av' i = avC d (w4 c) av i) ∧
    ifS (zX (cE (.bytes [118])) [(.isin, (zL (zC 0) .weak))]) (zI [forS (xJ (zR f_lost_places [(zL (zC 0) .array), (cE (.fn 1))])) (zG 1) caB]) (zI []) (caR mt none) (zE mt (SF d t av gn dd (.bytes (w4 c)) R)) =
      some (.next, caR mt x, zE mt (SF d t av' gn dd (.bytes (w4 c)) R')) := by
  have hw := weak_v (mt := mt) (d := d) (t := t) (av := av) (gn := gn) (dd := dd) (R := R) (ρ := (caR mt none).drop 1) c hc
  cases e : (w4 c).contains 118 with
  | false =>
    rw [e] at hw
    exact ⟨none, av, R, fun i hi => by unfold avC; rw [e]; rfl, if_ff hw rfl⟩
  | true =>
    rw [e] at hw
    have hl := lost_places (mt := mt) (s := SF d t av gn dd (.bytes (w4 c)) []) (R := R) (us := [av 0, av 1, av 2]) (i := T mt + 4) (fun u hu => by
      rcases List.mem_cons.mp hu with rfl | hu
      · exact ha 0
      · rcases List.mem_cons.mp hu with rfl | hu
        · exact ha 1
        · rcases List.mem_cons.mp hu with rfl | hu
          · exact ha 2
          · cases hu) (Nat.le_of_ble_eq_true rfl) arr_at
    obtain ⟨x, hL⟩ := ca_loop (mt := mt) (d := d) (t := t) (av := av) (gn := gn) (dd := dd) (wk := .bytes (w4 c)) (R := R) (ps := (List.range 3).filter (lostP (SF d t av gn dd (.bytes (w4 c)) []) [av 0, av 1, av 2])) (fun p hp => List.mem_range.mp (List.mem_filter.mp hp).1) (Nat.lt_of_le_of_lt (List.length_filter_le _ _) (by decide))
    refine ⟨x, _, _, fun i hi => ?_, if_tt hw (zN (for_of (wL (yJ (vs := [.obj (T mt + 4), .fn 1]) (σ₁ := zE mt (SF d t av gn dd (.bytes (w4 c)) R)) (by cases mt <;> kernel_rfl) hl) (yW (s := SF d t av gn dd (.bytes (w4 c)) []) (Y := []))) hL) rfl)⟩
    unfold clr avC
    rw [e, Bool.true_and]
    have he : (((List.range 3).filter (lostP (SF d t av gn dd (.bytes (w4 c)) []) [av 0, av 1, av 2])).contains i) = lV d (av i) := by
      have : lostP (SF d t av gn dd (.bytes (w4 c)) []) [av 0, av 1, av 2] i = lV d (av i) := by
        unfold lostP
        rcases (by omega : i = 0 ∨ i = 1 ∨ i = 2) with rfl | rfl | rfl <;> rfl
      rw [Bool.eq_iff_iff, List.contains_iff_mem, List.mem_filter, this]
      exact ⟨And.right, fun h => ⟨List.mem_range.mpr hi, h⟩⟩
    rw [he]
end
end Mine


section
namespace Mine
theorem take_not_mem {ps : List Nat} (h : ps.Nodup) {k : Nat} (hk : k < ps.length) : ps[k] ∉ ps.take k := by
  have : (ps.take k ++ ps.drop k).Nodup := by rw [List.take_append_drop]; exact h
  rw [List.drop_eq_getElem_cons hk] at this
  intro hm
  exact (List.nodup_append.mp this).2.2 _ hm _ (.head _) rfl
theorem take_cases {ps : List Nat} {k : Nat} (hk : k < ps.length) (x : Nat) : (ps.take (k + 1)).contains x = ((ps.take k).contains x || x == ps[k]) := by
  rw [List.take_succ_eq_append_getElem hk, Bool.eq_iff_iff, List.contains_iff_mem, List.mem_append, List.mem_singleton, Bool.or_eq_true, List.contains_iff_mem, beq_iff_eq]
section
variable {mt : Bool} {d : D} {t : Tb} {av : Nat → Nat} {wk : V} {R : H}
theorem cd_turn (hk : ∀ p, p < 8 → KeyC (t.kc p)) {gn : Nat → Bool} {dd : Nat → Option Nat} {G : H} {P Q : Nat → Bool} {p : Nat} (hp : p < 8) (hP : P p = false) (hQ : ∀ x, Q x = (P x || x == p)) (hI : DeadOK mt (SF d t av gn dd wk G) P) {x y : Option V} :
    ∃ gn' dd' G', cdB (cdR mt x y (some (.int p))) (zE mt (SF d t av gn dd wk G)) = some (.next, cdR mt x y (some (.int p)), zE mt (SF d t av gn' dd' wk (G ++ G'))) ∧ DeadOK mt (SF d t av gn' dd' wk (G ++ G')) Q := by
  have hT : ∀ mt : Bool, isObj .table (.obj (T mt)) (zE mt (SF d t av gn dd wk G)) = true := fun mt => by cases mt <;> kernel_rfl
  have h0 := hI p hp
  rw [hP, Bool.false_and] at h0
  have hd : dd p = none := h0.2.2 rfl
  have hk18 : t.kc p < 18 := by rcases hk p hp with h | h <;> omega
  have hgn : ∀ z, z < 8 → upd gn p true z = Q z := fun z hz => by
    rw [hQ]; unfold upd
    by_cases e : z = p
    · rw [if_pos e, e, beq_self_eq_true, Bool.or_true]
    · rw [if_neg e, show gn z = P z from (hI z hz).1, show (z == p) = false from beq_false_of_ne e, Bool.or_false]
  have hz : ∀ z, z < 8 → z ≠ p → (Q z = P z) := fun z _ e => by rw [hQ, show (z == p) = false from beq_false_of_ne e, Bool.or_false]
  have hp' : Q p = true := by rw [hQ, beq_self_eq_true, Bool.or_true]
  cases ho : obU (t.kc p) with
  | false =>
    have h := bury_plain (mt := mt) (s := SF d t av gn dd wk G) hp hd rfl hk18 ho
    refine ⟨upd gn p true, dd, [], ?_, fun z hz8 => ⟨hgn z hz8, ?_⟩⟩
    · rw [List.append_nil]
      exact zN (expr_of (meth_of rfl (hT mt) rfl h)) rfl
    · rw [List.append_nil]
      by_cases e : z = p
      · subst e
        have e2 : (Q z && obU (t.kc z)) = false := by rw [ho, Bool.and_false]
        exact ⟨fun h => absurd (e2.symm.trans h) (by decide), fun _ => hd⟩
      · rw [hz z hz8 e]; exact (hI z hz8).2
  | true =>
    have h := bury_obj (mt := mt) (s := SF d t av gn dd wk G) hp hd rfl hk18 ho
    refine ⟨upd gn p true, upd dd p (some (ix mt G)), [deadC (t.kc p)], zN (expr_of (meth_of rfl (hT mt) rfl h)) rfl, fun z hz8 => ⟨hgn z hz8, ?_⟩⟩
    by_cases e : z = p
    · subst e
      have e2 : (Q z && obU (t.kc z)) = true := by rw [ho, hp']; rfl
      exact ⟨fun _ => ⟨G, [], rfl, if_pos rfl⟩, fun h => absurd (e2.symm.trans h) (by decide)⟩
    · rw [hz z hz8 e]
      have hI := (hI z hz8).2
      refine ⟨fun h => ?_, fun h => ?_⟩
      · obtain ⟨R', Y, e1, e2⟩ := hI.1 h
        refine ⟨R', Y ++ [deadC (t.kc p)], ?_, ?_⟩
        · show G ++ [deadC (t.kc p)] = R' ++ deadC (t.kc z) :: (Y ++ [deadC (t.kc p)])
          rw [show G = R' ++ deadC (t.kc z) :: Y from e1, List.append_assoc]; rfl
        · exact (if_neg e).trans e2
      · exact (if_neg e).trans (hI.2 h)
theorem cd_loop (hk : ∀ p, p < 8 → KeyC (t.kc p)) {ps : List Nat} (hp : ∀ p ∈ ps, p < 8) (hn : ps.Nodup) (hl : ps.length < 100) {x y : Option V} : ∃ gn dd G z, DeadOK mt (SF d t av gn dd wk G) (fun p => ps.contains p) ∧
    forL (.lst (ix mt R)) (zG 3) cdB 100 0 (cdR mt x y none) (zE mt (SF d t av noG noD wk (R ++ [.list (ps.map intN)]))) = some (.next, cdR mt x y z, zE mt (SF d t av gn dd wk G)) := by
  obtain ⟨ρ', σ', h1, z, gn, dd, G, rfl, rfl, hI⟩ := for_inv (it := .lst (ix mt R)) (tg := zG 3) (b := cdB) (us := ps.map intN)
    (fun k ρ σ => ∃ z gn dd G, ρ = cdR mt x y z ∧ σ = zE mt (SF d t av gn dd wk (R ++ .list (ps.map intN) :: G)) ∧ DeadOK mt (SF d t av gn dd wk (R ++ .list (ps.map intN) :: G)) (fun p => (ps.take k).contains p))
    (fun k ρ σ ⟨z, gn, dd, G, e1, e2, _⟩ => by subst e2; exact jF (yW (s := SF d t av gn dd wk []) (R := R) (xs := ps.map intN) (Y := G)) k)
    (fun k hk' ρ σ ⟨z, gn, dd, G, e1, e2, hI⟩ => by
      have hk' : k < ps.length := by simpa using hk'
      subst e1; subst e2
      obtain ⟨gn', dd', G', h, hI'⟩ := cd_turn (mt := mt) hk (Q := fun p => (ps.take (k + 1)).contains p) (hp _ (List.getElem_mem hk')) (by
        have := take_not_mem hn hk'
        rw [Bool.eq_false_iff]; intro h
        exact this (List.contains_iff_mem.mp h)) (take_cases hk') hI (x := x) (y := y)
      rw [List.append_assoc] at h hI'
      exact ⟨_, _, _, _, by rw [List.getElem_map]; rfl, h, _, gn', dd', G ++ G', rfl, rfl, hI'⟩)
    100 0 (cdR mt x y none) _ ⟨none, noG, noD, [], rfl, rfl, fun p hp => ⟨rfl, fun h => by simp at h, fun _ => rfl⟩⟩ (Nat.zero_le _) (by rw [List.length_map]; assumption)
  rw [List.length_map] at hI
  rw [List.take_of_length_le (Nat.le_refl _)] at hI
  exact ⟨gn, dd, _, z, hI, h1⟩
noncomputable def esL (d : D) (t : Tb) : List (Nat × Nat) := (List.range 8).map fun p => (t.kc p, d.vv (t.kc p))
theorem ca_pair {x : Option V} : ∀ p : Nat, p < 8 → wU [(zL (zC 1) .key), (zL (zC 1) .value)] [none, some (.obj (T mt + 6 + p))] (zE mt (SF d t av noG noD wk R)) = some (prV mt (t.kc p, d.vv (t.kc p)), zE mt (SF d t av noG noD wk R)) := by
  refine yF ?_; cases mt <;> kernel_rfl
theorem nodes_at {s : PS} : listAt (zE mt s) (.obj (T mt + 14)) = some ((List.range 8).map fun p => .obj (T mt + 6 + p)) := by cases mt <;> kernel_rfl
theorem vv_lt (q : Nat) : d.vv q < 18 := by rcases vv_cases d.ns d.t q with h | h <;> unfold D.vv <;> omega
theorem clear_spec {c : Nat} (hc : c < 4) (hk : ∀ p, p < 8 → KeyC (t.kc p)) (ha : ∀ i, av i < 18) : ∃ av' gn dd G, (∀ i, i < 3 → av' i = avC d (w4 c) av i) ∧ DeadOK mt (SF d t av' gn dd (.bytes (w4 c)) G) (goneP d t) ∧
    f_clear_table [.obj (T mt)] (zE mt (SF d t av noG noD (.bytes (w4 c)) R)) = some (.none, zE mt (SF d t av' gn dd (.bytes (w4 c)) G)) := by
  obtain ⟨x, av', R', h1, h2⟩ := clear_arr (mt := mt) (d := d) (t := t) (av := av) (gn := noG) (dd := noD) (R := R) hc ha
  have hx : xJ (zL (zC 0) .nodes) (caR mt x) (zE mt (SF d t av' noG noD (.bytes (w4 c)) R')) = some (.lst (T mt + 14), zE mt (SF d t av' noG noD (.bytes (w4 c)) R')) := wL (by cases mt <;> kernel_rfl) nodes_at
  have h3 : xR (xJ (zL (zC 0) .nodes)) [none, none] (zG 1) [] (wU [(zL (zC 1) .key), (zL (zC 1) .value)]) (caR mt x) (zE mt (SF d t av' noG noD (.bytes (w4 c)) R')) =
      some (.obj (ix mt R'), zE mt (SF d t av' noG noD (.bytes (w4 c)) (R' ++ [.list ((esL d t).map (prV mt))]))) := by
    have := comp_all (it := .lst (T mt + 14)) (tg := zG 1) (elt := wU [(zL (zC 1) .key), (zL (zC 1) .value)]) (σ := zE mt (SF d t av' noG noD (.bytes (w4 c)) R')) (us := List.range 8) (val := fun p => .obj (T mt + 6 + p)) (g := fun p => prV mt (t.kc p, d.vv (t.kc p))) (ρ := [none, none]) (fun ρ => ∃ x, ρ = [none, x]) ⟨none, rfl⟩ (by decide) (jF nodes_at) (fun p hp ρ hρ => by
      obtain ⟨x, rfl⟩ := hρ
      exact ⟨_, rfl, ⟨_, rfl⟩, ca_pair (x := x) p (List.mem_range.mp hp)⟩)
    rw [show (List.range 8).map (fun p => prV mt (t.kc p, d.vv (t.kc p))) = (esL d t).map (prV mt) by unfold esL; rw [List.map_map]; rfl] at this
    exact jO hx this (wK (s := SF d t av' noG noD (.bytes (w4 c)) []) (Nat.le_of_ble_eq_true rfl))
  have hes : ∀ e ∈ esL d t, e.1 < 18 ∧ e.2 < 18 := fun e he => by
    unfold esL at he
    obtain ⟨p, hp, rfl⟩ := List.mem_map.mp he
    refine ⟨?_, vv_lt _⟩
    show t.kc p < 18
    rcases hk p (List.mem_range.mp hp) with h | h <;> omega
  have h4 := lost_entries (mt := mt) (s := SF d t av' noG noD (.bytes (w4 c)) []) (R := R' ++ [.list ((esL d t).map (prV mt))]) (i := ix mt R') hes (Nat.le_of_ble_eq_true rfl) rs_get
  have hf : ∀ p, p < 8 → leL (SF d t av' noG noD (.bytes (w4 c)) []) (esL d t) p = goneP d t p := fun p hp => by
    unfold leL
    rw [show (esL d t).getD p (15, 15) = (t.kc p, d.vv (t.kc p)) by unfold esL; simp [hp]]; rfl
  have h8 : (esL d t).length = 8 := rfl
  rw [h8] at h4
  obtain ⟨gn, dd, G, z, hI, h5⟩ := cd_loop (mt := mt) (d := d) (t := t) (av := av') (wk := .bytes (w4 c)) (R := R' ++ [.list ((esL d t).map (prV mt))]) hk (ps := (List.range 8).filter (leL (SF d t av' noG noD (.bytes (w4 c)) []) (esL d t))) (fun p hp => List.mem_range.mp (List.mem_filter.mp hp).1) (List.nodup_range.filter _) (Nat.lt_of_le_of_lt (List.length_filter_le _ _) (by decide)) (x := x) (y := some (.obj (ix mt R')))
  refine ⟨av', gn, dd, G, h1, fun p hp => ?_, ?_⟩
  · have := hI p hp
    have e : ((List.range 8).filter (leL (SF d t av' noG noD (.bytes (w4 c)) []) (esL d t))).contains p = goneP d t p := by
      rw [Bool.eq_iff_iff, List.contains_iff_mem, List.mem_filter, hf p hp]
      exact ⟨And.right, fun h => ⟨List.mem_range.mpr hp, h⟩⟩
    dsimp only at this
    rw [e] at this
    exact this
  · exact fn_end rfl (zN h2 (zN (wF h3 rfl) (zN (for_of (wL (yJ (es := [(zC 2), (cE (.fn 0)), (cE (.fn 1))]) rfl h4) (yW (s := SF d t av' noG noD (.bytes (w4 c)) []) (Y := []))) h5) rfl))) (by simp)
end
end Mine


section
namespace Mine
theorem find_sub {r k : Nat → Bool} (h : ∀ x, r x = true → k x = true) : ∀ {l : List Nat} {p : Nat}, l.find? k = some p → r p = true → l.find? r = some p
  | [], _, e, _ => nomatch e
  | a :: l, p, e, hr => by
    rw [List.find?_cons] at e ⊢
    cases hk : k a with
    | true =>
      rw [hk] at e; cases e; rw [hr]
    | false =>
      rw [hk] at e
      rw [show r a = false from Bool.eq_false_iff.mpr fun z => by rw [h a z] at hk; cases hk]
      exact find_sub h e hr
theorem chain_lt {nx : Nat → Int} : ∀ {l : List Nat} {p : Int}, Chain nx p l → ∀ x ∈ l, x < 8
  | [], _, _, _, h => nomatch h
  | a :: l, p, hc, x, h => by
    rcases List.mem_cons.mp h with rfl | h
    · exact hc.2.1
    · exact chain_lt hc.2.2 x h
theorem uniq {b : Nat → Bool} {t : Tb} (hg : Good b t) {x y : Nat} (hx : x < 8) (hy : y < 8) (h : t.kc x ≠ 15) (e : t.kc x = t.kc y) : x = y := by
  have hn : (((List.range 8).map t.kc).filter (· != 15)).Nodup := hg.perm.nodup_iff.mpr (by
    refine List.pairwise_map.mpr ((List.nodup_range.filter _).imp fun h => ?_)
    omega)
  rw [List.Nodup, List.pairwise_filter, List.pairwise_map] at hn
  have hn := List.pairwise_iff_getElem.mp hn
  have key : ∀ x y, x < y → y < 8 → t.kc x ≠ 15 → t.kc x = t.kc y → False := fun x y hxy hy h e => by
    have := hn x y (by rw [List.length_range]; exact Nat.lt_trans ‹_› ‹_›) (by rw [List.length_range]; assumption) hxy
    rw [List.getElem_range, List.getElem_range] at this
    exact this (by rw [bne_iff_ne]; exact h) (by rw [bne_iff_ne, ← e]; exact h) e
  rcases Nat.lt_trichotomy x y with h1 | h1 | h1
  · exact (key x y h1 hy h e).elim
  · exact h1
  · exact (key y x h1 hx (e ▸ h) e.symm).elim
theorem type_dead {σ : H} {L : Nat} {fs : List V} (h : σ[L]? = some (.inst .dead fs)) : f_type_of [.obj L] σ = some (.int (-1), σ) := by
  have hi : ∀ t : Ty, (t == .dead) = false → xO (jC (zC 0) [t]) (some (.obj L) :: List.replicate 12 none) σ = some (false, σ) := fun t ht => jJ (isi_of rfl (isTys1 (by rw [isTy_dead h t, ht])))
  exact xN (ρ := some (.obj L) :: List.replicate 12 none) rfl (zN (if_ff (wQ (b := false) rfl rfl rfl) rfl) (zN (if_ff (hi .bool rfl) rfl) (zN (if_ff (hi .int rfl) rfl) (zN (if_ff (hi .bytes rfl) rfl) (zN (if_ff (hi .other rfl) rfl) (zN (if_ff (hi .heap rfl) rfl) (yP (wP rfl)))))))) (by simp)
section
variable {mt : Bool} {d : D} {t : Tb} {av : Nat → Nat} {gn : Nat → Bool} {dd : Nat → Option Nat} {wk : V} {R G : H} {s : PS}
theorem raw_dead {L i : Nat} {fs : List V} (h : (zE mt s)[L]? = some (.inst .dead fs)) (hi : i < 8) : xG [.obj L, uV mt (i + 3)] (zE mt s) = some (.bool false, zE mt s) := by
  have h2 : ∀ i, i < 8 → ifS (zX (zC 2) [(.ne, (zR f_type_of [(zC 1)]))]) (zI [yM (cE (.bool false))]) (zI []) [some (.obj L), some (uV mt (i + 3)), some (.int (-1)), none, none, none, none, none] (zE mt s) = some (.ret (.bool false), [some (.obj L), some (uV mt (i + 3)), some (.int (-1)), none, none, none, none, none], zE mt s) := by
    clear hi; refine yF ?_; cases mt <;> kernel_rfl
  exact xN rfl (zN (wF (yJ (es := [zC 0]) rfl (type_dead h)) rfl) (yP (h2 i hi))) (by simp)
noncomputable def deadB (d : D) (t : Tb) (p : Nat) : Bool := goneP d t p && obU (t.kc p)
theorem raw_all (hI : DeadOK mt (SF d t av gn dd wk G) (goneP d t)) (hk : ∀ p, p < 8 → KeyC (t.kc p)) {i : Nat} (hi : i < 8) : ∀ p, p < 8 → xG [ndV mt (SF d t av gn dd wk G) p, uV mt (i + 3)] (zE mt (SF d t av gn dd wk G)) = some (.bool (!deadB d t p && t.kc p == i + 3), zE mt (SF d t av gn dd wk G)) := fun p hp => by
  obtain ⟨_, h1, h2⟩ := hI p hp
  cases e : deadB d t p with
  | true =>
    obtain ⟨R, Y, e1, e2⟩ := h1 e
    have hn : ndV mt (SF d t av gn dd wk G) p = .obj (ix mt R) := by unfold ndV; rw [e2]
    have e1 : G = R ++ deadC (t.kc p) :: Y := e1
    subst e1
    rw [hn]
    exact raw_dead (fs := [.int (30 - (t.kc p : Int))]) (rs_get (s := SF d t av gn dd wk []) (m := deadC (t.kc p))) hi
  | false =>
    have hn : ndV mt (SF d t av gn dd wk G) p = uV mt (t.kc p) := by unfold ndV; rw [h2 e]; rfl
    rw [hn]
    exact raw_key (hk p hp) hi
theorem dead_all (hI : DeadOK mt (SF d t av gn dd wk G) (goneP d t)) (hk : ∀ p, p < 8 → KeyC (t.kc p)) {i : Nat} (hi : i < 8) {a : Int} : ∀ p : Nat, p < 8 → fiD (fiR mt (uV mt (i + 3)) a p (some (ndV mt (SF d t av gn dd wk G) p))) (zE mt (SF d t av gn dd wk G)) = some (deadB d t p && t.kc p == i + 3, zE mt (SF d t av gn dd wk G)) := fun p hp => by
  obtain ⟨_, h1, h2⟩ := hI p hp
  cases e : deadB d t p with
  | true =>
    obtain ⟨R, Y, e1, e2⟩ := h1 e
    have hn : ndV mt (SF d t av gn dd wk G) p = .obj (ix mt R) := by unfold ndV; rw [e2]
    have e1 : G = R ++ deadC (t.kc p) :: Y := e1
    subst e1
    rw [hn]
    have ho : obU (t.kc p) = true := by unfold deadB at e; rw [Bool.and_eq_true] at e; exact e.2
    unfold obU at ho
    rw [Bool.and_eq_true, decide_eq_true_iff, decide_eq_true_iff] at ho
    refine (fiD_dead (rs_get (s := SF d t av gn dd wk []) (m := deadC (t.kc p))) hi).trans ?_
    congr 2
    rw [Bool.true_and, Bool.eq_iff_iff, Bool.and_eq_true, decide_eq_true_iff, beq_iff_eq, beq_iff_eq]
    omega
  | false =>
    have hn : ndV mt (SF d t av gn dd wk G) p = uV mt (t.kc p) := by unfold ndV; rw [h2 e]; rfl
    rw [hn]
    obtain ⟨j, hj, e3⟩ := kcd_of (hk p hp)
    rw [e3]; exact fiD_live j hj
theorem index_of (hI : DeadOK mt (SF d t av gn dd wk G) (goneP d t)) {b : Nat → Bool} (hg : Good b t) {i : Nat} (hi : i < 8) (hb : b i = true) : ∃ p, p < 8 ∧ t.kc p = i + 3 ∧ xS [.obj (T mt), uV mt (i + 3)] (zE mt (SF d t av gn dd wk G)) = some (.int (3 + p), zE mt (SF d t av gn dd wk G)) ∧
    wX [.obj (T mt), uV mt (i + 3)] (zE mt (SF d t av gn dd wk G)) = some (.int (if deadB d t p then -1 else p), zE mt (SF d t av gn dd wk G)) := by
  obtain ⟨l, p, hc, hf⟩ := hg.here i hi hb
  obtain ⟨hC, hl⟩ := chain_of _ _ _ hc
  have hp : p < 8 := chain_lt hC p (List.mem_of_find?_eq_some hf)
  have hkp : t.kc p = i + 3 := by have := List.find?_some hf; simpa using this
  have hr := raw_all hI hg.keys hi
  refine ⟨p, hp, hkp, find_index hi hr (dead_all hI hg.keys hi (a := aiC i)) hp hC (Nat.lt_of_le_of_lt ‹_› (by decide)) ?_, ?_⟩
  · rw [← hf]; congr 1; funext x
    cases deadB d t x <;> simp
  · rw [find_node (s := SF d t av gn dd wk G) hi hr hC (Nat.lt_of_le_of_lt ‹_› (by decide))]
    cases e : deadB d t p with
    | false =>
      rw [find_sub (k := fun p => t.kc p == i + 3) (fun x h => (Bool.and_eq_true _ _ ▸ h).2) hf (by rw [e, hkp]; simp)]; rfl
    | true =>
      rw [List.find?_eq_none.mpr fun x hx h => ?_]
      · rfl
      · rw [Bool.and_eq_true, beq_iff_eq] at h
        have := uniq hg (chain_lt hC x hx) hp (by omega) (h.2.trans hkp.symm)
        rw [this, e] at h
        exact absurd h.1 (by decide)
end
end Mine


section
namespace Mine
noncomputable def lQ (d : D) (w : List UInt8) (e : Nat × Nat) : Bool := if e.1 < 3 then w.contains 118 && lV d e.2 else lK d e.1 || lV d e.2
noncomputable def yV (d : D) : List (Nat × Nat) := wD d.vv 11
noncomputable def jG (d : D) (w : List UInt8) (l : List (Nat × Nat)) : List (Nat × Nat) := l.filter fun e => !lQ d w e
noncomputable def goneL (d : D) (w : List UInt8) (l : List (Nat × Nat)) : List (Nat × Nat) := l.filter (lQ d w)
noncomputable def lgB : St := zI [
    zQ (zG 12) (andE (jC (zC 8) [.int]) (cmpE (zC 8) [(.lt, (cE (.int 4)))])),
    zQ (zG 13) (iteE (xO (zC 12)) (andE (cmpE (cE (.str [118])) [(.isin, (zC 3))]) (zR yC [(zC 9), (cE (.bool false))])) (orE (zR yC [(zC 8), (cE (.bool true))]) (zR yC [(zC 9), (cE (.bool false))]))),
    yR (xZ (iteE (xO (zC 13)) (zC 11) (zC 10)) (wU [(zC 8), (zC 9)]))]
noncomputable def lgG (mt : Bool) (R : H) (l g : List (Nat × Nat)) : H := R ++ .list (l.map (prV mt)) :: [.list (g.map (prV mt))]
section
variable {mt : Bool} {d : D} {t : Tb} {av : Nat → Nat} {gn : Nat → Bool} {dd : Nat → Option Nat} {wk : V} {R G : H} {s : PS}
theorem ix_snoc {m : MO} : ix mt (R ++ [m]) = ix mt R + 1 := by unfold ix; rw [List.length_append]; show R.length + 1 + _ = _; exact Nat.add_right_comm _ _ _
theorem two_1 {a b : List V} : listAt (zE mt (rs s (R ++ .list a :: .list b :: G))) (.obj (ix mt R)) = some a := yW
theorem two_2 {a b : List V} : listAt (zE mt (rs s (R ++ .list a :: .list b :: G))) (.obj (ix mt R + 1)) = some b := by
  have := yW (mt := mt) (s := s) (R := R ++ [.list a]) (xs := b) (Y := G)
  rwa [ix_snoc, List.append_assoc] at this
theorem set_2 {a b b' : List V} : (zE mt (rs s (R ++ .list a :: .list b :: G))).set (ix mt R + 1) (.list b') = zE mt (rs s (R ++ .list a :: .list b' :: G)) := by
  have := rs_set (mt := mt) (s := s) (R := R ++ [.list a]) (m := .list b) (m' := .list b') (Y := G)
  rwa [ix_snoc, List.append_assoc, List.append_assoc] at this
noncomputable def lgR (mt : Bool) (c : Nat) (R : H) (a8 a9 a12 a13 : Option V) : Rho := lR mt (sS c) a8 a9 (some (.obj (ix mt R))) (some (.obj (ix mt R + 1))) a12 a13 none
theorem lg_arr : ∀ q, q < 11 → ∀ {c : Nat} {a9 a12 a13 : Option V} {s : PS}, andE (jC (zC 8) [.int]) (cmpE (zC 8) [(.lt, (cE (.int 4)))]) (lgR mt c R (some (uV mt q)) a9 a12 a13) (zE mt s) = some (.bool (decide (q < 3)), zE mt s) := fun q hq {c a9 a12 a13 s} => by
  revert q; refine no_implicit_lambda% (yF ?_); cases mt <;> kernel_rfl
theorem lg_v {ρ : Rho} {a b e : Option V} {σ : H} : ∀ c, c < 4 → cmpE (cE (.str [118])) [(.isin, (zC 3))] (a :: b :: e :: some (.str (sS c)) :: ρ) σ = some (.bool ((w4 c).contains 118), σ) := by
  refine yF ?_; kernel_rfl
theorem lawL_v {u : Nat} (hu : u < 18) : yC [uV mt u, .bool false] (zE mt (SF d t av gn dd wk R)) = some (.bool (lV d u), zE mt (SF d t av gn dd wk R)) := by
  rw [law_is_lost hu, Bool.not_false, Bool.true_and]; rfl
theorem lawL_k {u : Nat} (hu : u < 18) : yC [uV mt u, .bool true] (zE mt (SF d t av gn dd wk R)) = some (.bool (lK d u), zE mt (SF d t av gn dd wk R)) := by
  rw [law_is_lost hu, Bool.not_true, Bool.false_and, Bool.or_false]; rfl
theorem lg_turn {q u c : Nat} (hq : q < 11) (hu : u < 18) (hc : c < 4) {l g : List (Nat × Nat)} (hl : l.length < 900) (hg : g.length < 900) {a12 a13 : Option V} :
    ∃ b12 b13, lgB (lgR mt c R (some (uV mt q)) (some (uV mt u)) a12 a13) (zE mt (SF d t av gn dd wk (lgG mt R l g))) =
      some (.next, lgR mt c R (some (uV mt q)) (some (uV mt u)) b12 b13, zE mt (SF d t av gn dd wk (lgG mt R (l ++ jG d (w4 c) [(q, u)]) (g ++ goneL d (w4 c) [(q, u)])))) := by
  have h1 := wF (lg_arr (mt := mt) (R := R) q hq (c := c) (a9 := some (uV mt u)) (a12 := a12) (a13 := a13) (s := SF d t av gn dd wk (lgG mt R l g))) (i := 12) (ρ' := lgR mt c R (some (uV mt q)) (some (uV mt u)) (some (.bool (decide (q < 3)))) a13) rfl
  have hv := yJ (ρ := lgR mt c R (some (uV mt q)) (some (uV mt u)) (some (.bool (decide (q < 3)))) a13) (es := [(zC 9), (cE (.bool false))]) rfl (lawL_v (mt := mt) (d := d) (t := t) (av := av) (gn := gn) (dd := dd) (wk := wk) (R := lgG mt R l g) hu)
  have hk := yJ (ρ := lgR mt c R (some (uV mt q)) (some (uV mt u)) (some (.bool (decide (q < 3)))) a13) (es := [(zC 8), (cE (.bool true))]) rfl (lawL_k (mt := mt) (d := d) (t := t) (av := av) (gn := gn) (dd := dd) (wk := wk) (R := lgG mt R l g) (u := q) (Nat.lt_of_lt_of_le ‹_› (by decide)))
  have h2 : iteE (xO (zC 12)) (andE (cmpE (cE (.str [118])) [(.isin, (zC 3))]) (zR yC [(zC 9), (cE (.bool false))])) (orE (zR yC [(zC 8), (cE (.bool true))]) (zR yC [(zC 9), (cE (.bool false))])) (lgR mt c R (some (uV mt q)) (some (uV mt u)) (some (.bool (decide (q < 3)))) a13) (zE mt (SF d t av gn dd wk (lgG mt R l g))) =
      some (.bool (lQ d (w4 c) (q, u)), zE mt (SF d t av gn dd wk (lgG mt R l g))) := by
    refine ite_of (jJ (e := zC 12) (b := decide (q < 3)) rfl) ?_
    unfold lQ; dsimp only
    by_cases h : q < 3
    · rw [decide_eq_true h, if_pos rfl, if_pos h]; exact andE_of (lg_v c hc) hv
    · rw [decide_eq_false h, if_neg (by decide), if_neg h]; exact orE_of hk hv
  have h3 := wF (i := 13) (ρ' := lgR mt c R (some (uV mt q)) (some (uV mt u)) (some (.bool (decide (q < 3)))) (some (.bool (lQ d (w4 c) (q, u))))) h2 rfl
  have hx1 : listAt (zE mt (SF d t av gn dd wk (lgG mt R l g))) (.obj (ix mt R)) = some (l.map (prV mt)) := two_1 (s := SF d t av gn dd wk [])
  have hx2 : listAt (zE mt (SF d t av gn dd wk (lgG mt R l g))) (.obj (ix mt R + 1)) = some (g.map (prV mt)) := two_2 (s := SF d t av gn dd wk [])
  have hs1 : (zE mt (SF d t av gn dd wk (lgG mt R l g))).set (ix mt R) (.list ((l ++ [(q, u)]).map (prV mt))) = zE mt (SF d t av gn dd wk (lgG mt R (l ++ [(q, u)]) g)) := rs_set (s := SF d t av gn dd wk [])
  have hs2 : (zE mt (SF d t av gn dd wk (lgG mt R l g))).set (ix mt R + 1) (.list ((g ++ [(q, u)]).map (prV mt))) = zE mt (SF d t av gn dd wk (lgG mt R l (g ++ [(q, u)]))) := set_2 (s := SF d t av gn dd wk [])
  refine ⟨some (.bool (decide (q < 3))), some (.bool (lQ d (w4 c) (q, u))), zN h1 (zN h3 (zN (?_ : _ = some (Fl.next, lgR mt c R (some (uV mt q)) (some (uV mt u)) (some (.bool (decide (q < 3)))) (some (.bool (lQ d (w4 c) (q, u)))), zE mt (SF d t av gn dd wk (lgG mt R (l ++ jG d (w4 c) [(q, u)]) (g ++ goneL d (w4 c) [(q, u)]))))) rfl))⟩
  have hy : prV mt (q, u) = .tup [uV mt q, uV mt u] := rfl
  unfold jG goneL
  cases e : lQ d (w4 c) (q, u) with
  | true =>
    have h4 := app_of (ρ := lgR mt c R (some (uV mt q)) (some (uV mt u)) (some (.bool (decide (q < 3)))) (some (.bool true))) (σ := zE mt (SF d t av gn dd wk (lgG mt R l g))) (o := iteE (xO (zC 13)) (zC 11) (zC 10)) (a := wU [(zC 8), (zC 9)]) (i := ix mt R + 1) (y := prV mt (q, u)) rfl hx2 rfl hx2 (by rw [List.length_map]; exact Nat.lt_of_lt_of_le ‹_› (by decide))
    rw [← List.map_singleton (f := prV mt), ← List.map_append, hs2] at h4
    rw [List.filter_cons_of_neg (by rw [e]; decide), List.filter_cons_of_pos e, List.filter_nil, List.filter_nil, List.append_nil]
    exact expr_of h4
  | false =>
    have h4 := app_of (ρ := lgR mt c R (some (uV mt q)) (some (uV mt u)) (some (.bool (decide (q < 3)))) (some (.bool false))) (σ := zE mt (SF d t av gn dd wk (lgG mt R l g))) (o := iteE (xO (zC 13)) (zC 11) (zC 10)) (a := wU [(zC 8), (zC 9)]) (i := ix mt R) (y := prV mt (q, u)) rfl hx1 rfl hx1 (by rw [List.length_map]; exact Nat.lt_of_lt_of_le ‹_› (by decide))
    rw [← List.map_singleton (f := prV mt), ← List.map_append, hs1] at h4
    rw [List.filter_cons_of_pos (by rw [e]; rfl), List.filter_cons_of_neg (by rw [e]; decide), List.filter_nil, List.filter_nil, List.append_nil]
    exact expr_of h4
end
end Mine


section
namespace Mine
section
variable {mt : Bool} {d : D} {t : Tb} {av : Nat → Nat} {gn : Nat → Bool} {dd : Nat → Option Nat} {wk : V} {R G : H} {s : PS} {x8 x9 : Option V}
theorem left_len {w : List UInt8} (l : List (Nat × Nat)) : (jG d w l).length ≤ l.length := List.length_filter_le _ _
theorem gone_len {w : List UInt8} (l : List (Nat × Nat)) : (goneL d w l).length ≤ l.length := List.length_filter_le _ _
theorem wM : ∀ e ∈ yV d, EntC e ∧ e.2 = d.vv e.1 ∧ d.vv e.1 ≠ 15 := kept_ent
theorem keptD_len : (yV d).length ≤ 11 := keptL_len _ _
theorem lw10_run {w : List Nat} : lw10 (lR mt w x8 x9 none none none none none) (zE mt (SF d t av gn dd wk R)) = some (.next, lR mt w x8 x9 (some (.obj (ix mt R))) (some (.obj (ix mt R + 1))) none none none, zE mt (SF d t av gn dd wk (lgG mt R [] []))) := by
  have h1 := wK (mt := mt) (s := SF d t av gn dd wk []) (R := R) (xs := []) (Nat.zero_le _)
  have h2 := wK (mt := mt) (s := SF d t av gn dd wk []) (R := R ++ [.list []]) (xs := []) (Nat.zero_le _)
  rw [ix_snoc, List.append_assoc] at h2
  have h3 : wU [(xM []), (xM [])] (lR mt w x8 x9 none none none none none) (zE mt (SF d t av gn dd wk R)) = some (.tup [.obj (ix mt R), .obj (ix mt R + 1)], zE mt (SF d t av gn dd wk (lgG mt R [] []))) :=
    tup_of (wE (zW rfl h1) (wE (zW rfl h2) rfl))
  exact asg_of h3 rfl
theorem lw11_run {c : Nat} (hc : c < 4) : ∃ y8 y9 y12 y13, lw11 (lgR mt c R x8 x9 none none) (zE mt (SF d t av gn dd wk (lgG mt R [] []))) =
    some (.next, lgR mt c R y8 y9 y12 y13, zE mt (SF d t av gn dd wk (lgG mt R (jG d (w4 c) (yV d)) (goneL d (w4 c) (yV d))))) := by
  have hl := keptD_len (d := d)
  have hat : ∀ G : H, listAt (zE mt (SF d t av gn dd wk G)) (.obj (T mt + 15)) = some ((yV d).map (prV mt)) := fun G => kept_at (s := SF d t av gn dd wk G)
  obtain ⟨ρ', σ', h1, y8, y9, y12, y13, rfl, rfl⟩ := for_inv (it := .lst (T mt + 15)) (tg := jB [(zG 8), (zG 9)]) (b := lgB) (us := (yV d).map (prV mt))
    (fun k ρ σ => ∃ a8 a9 a12 a13, ρ = lgR mt c R a8 a9 a12 a13 ∧ σ = zE mt (SF d t av gn dd wk (lgG mt R (jG d (w4 c) ((yV d).take k)) (goneL d (w4 c) ((yV d).take k)))))
    (fun k ρ σ ⟨a8, a9, a12, a13, e1, e2⟩ => by subst e2; exact jF (hat _) k)
    (fun k hk ρ σ ⟨a8, a9, a12, a13, e1, e2⟩ => by
      have hk : k < (yV d).length := by simpa using hk
      subst e1; subst e2
      obtain ⟨⟨he1, he2⟩, _⟩ := wM _ (List.getElem_mem hk)
      have l1 := left_len (d := d) (w := w4 c) ((yV d).take k)
      have l2 := gone_len (d := d) (w := w4 c) ((yV d).take k)
      rw [List.length_take] at l1 l2
      obtain ⟨b12, b13, h⟩ := lg_turn (mt := mt) (d := d) (t := t) (av := av) (gn := gn) (dd := dd) (wk := wk) (R := R) (q := ((yV d)[k]).1) (u := ((yV d)[k]).2) he1 (Nat.lt_of_lt_of_le ‹_› (by decide)) hc (l := jG d (w4 c) ((yV d).take k)) (g := goneL d (w4 c) ((yV d).take k)) (by omega) (by omega) (a12 := a12) (a13 := a13)
      refine ⟨lgR mt c R (some (uV mt ((yV d)[k]).1)) (some (uV mt ((yV d)[k]).2)) a12 a13, _, _, _, ?_, h, _, _, b12, b13, rfl, ?_⟩
      · rw [List.getElem_map]; rfl
      · unfold jG goneL; rw [List.take_succ_eq_append_getElem hk, List.filter_append, List.filter_append])
    100 0 (lgR mt c R x8 x9 none none) _ ⟨x8, x9, none, none, rfl, rfl⟩ (Nat.zero_le _) (by rw [List.length_map]; exact Nat.lt_of_le_of_lt ‹_› (by decide))
  rw [List.length_map, List.take_of_length_le (Nat.le_refl _)] at h1
  exact ⟨y8, y9, y12, y13, for_of (wL rfl (hat _)) h1⟩
theorem dead_more {P : Nat → Bool} (h : DeadOK mt (SF d t av gn dd wk G) P) {X : H} : DeadOK mt (SF d t av gn dd wk (G ++ X)) P := fun p hp => by
  obtain ⟨h1, h2, h3⟩ := h p hp
  refine ⟨h1, fun z => ?_, h3⟩
  obtain ⟨R, Y, e1, e2⟩ := h2 z
  refine ⟨R, Y ++ X, ?_, e2⟩
  show G ++ X = _
  rw [show G = R ++ deadC (t.kc p) :: Y from e1, List.append_assoc]; rfl
noncomputable def gtE : Ex V := iteE (zX (zC 2) [(.lt, (cE (.int 0)))]) (cE .none) (zL (yB (zL (zC 0) .nodes) (zC 2)) .value)
theorem gt_val {k : V} {ρ : Rho} : ∀ p : Nat, p < 8 → gtE (some (.obj (T mt)) :: some k :: some (.int p) :: ρ) (zE mt s) = some (uV mt (vcC s p), zE mt s) := by
  refine yF ?_; cases mt <;> kernel_rfl
theorem gt_1 : ∀ i, i < 8 → ifS (zX (zC 1) [(.is, (cE .none))]) (zI [yM (cE .none)]) (zI []) [some (.obj (T mt)), some (uV mt (i + 3)), none, none] (zE mt s) = some (.next, [some (.obj (T mt)), some (uV mt (i + 3)), none, none], zE mt s) := by
  refine yF ?_; cases mt <;> kernel_rfl
theorem gt_2 : ∀ i, i < 8 → f_is_number [uV mt (i + 3)] (zE mt s) = some (.bool (i == 1), zE mt s) := by
  refine yF ?_; cases mt <;> kernel_rfl
theorem get_hash {i : Nat} (hi : i < 8) {n : Int} (hn : wX [.obj (T mt), uV mt (i + 3)] (zE mt s) = some (.int n, zE mt s)) (hv : n = -1 ∨ ∃ p : Nat, p < 8 ∧ n = p ∧ vcC s p = 15) : f_get [.obj (T mt), uV mt (i + 3)] (zE mt s) = some (.none, zE mt s) := by
  have hT : ∀ mt : Bool, isObj .table (.obj (T mt)) (zE mt s) = true := fun mt => by cases mt <;> kernel_rfl
  have hr : ∀ {k : V} {ρ : Rho}, gtE (some (.obj (T mt)) :: some k :: some (.int n) :: ρ) (zE mt s) = some (.none, zE mt s) := fun {k ρ} => by
    rcases hv with rfl | ⟨p, hp, rfl, h⟩
    · rfl
    · rw [gt_val p hp, h]; cases mt <;> rfl
  have h1 := gt_1 (mt := mt) (s := s) i hi
  have h2 := jJ (yJ (ρ := [some (.obj (T mt)), some (uV mt (i + 3)), none, none]) (es := [zC 1]) rfl (gt_2 (mt := mt) (s := s) i hi))
  have h3 : zQ (zG 2) (yT .table wX (zC 0) [(zC 1)]) [some (.obj (T mt)), some (uV mt (i + 3)), none, none] (zE mt s) = some (.next, [some (.obj (T mt)), some (uV mt (i + 3)), some (.int n), none], zE mt s) := wF (meth_of rfl (hT mt) rfl hn) rfl
  by_cases h : i = 1
  · subst h
    have h4 : f_get_int [.obj (T mt), uV mt (1 + 3)] (zE mt s) = some (.none, zE mt s) := by
      refine xN (ρ := [some (.obj (T mt)), some (uV mt (1 + 3)), none, none]) rfl (zN (σ' := zE mt s) (ρ' := [some (.obj (T mt)), some (uV mt (1 + 3)), none, none]) (by cases mt <;> kernel_rfl) (zN h3 (yP (wP hr)))) (by simp)
    exact xN rfl (zN h1 (yP (if_tt h2 (yP (wP (meth_of rfl (hT mt) rfl h4)))))) (by simp)
  · rw [show (i == 1) = false from beq_false_of_ne h] at h2
    exact xN rfl (zN h1 (zN (if_ff h2 rfl) (zN h3 (yP (wP hr))))) (by simp)
theorem get_arr : ∀ q, q < 3 → f_get [.obj (T mt), uV mt q] (zE mt s) = some (uV mt (s.av q), zE mt s) := by
  refine yF ?_; cases mt <;> kernel_rfl
structure Cld (mt : Bool) (d : D) (t : Tb) (w : List UInt8) (av : Nat → Nat) (gn : Nat → Bool) (dd : Nat → Option Nat) (wk : V) (R : H) : Prop where
  good : Good (fun i => d.vv (i + 3) != 15) t
  arr : ∀ i, i < 3 → av i = avC d w d.vv i
  dead : DeadOK mt (SF d t av gn dd wk R) (goneP d t)
theorem Cld.more {w : List UInt8} (h : Cld mt d t w av gn dd wk R) {X : H} : Cld mt d t w av gn dd wk (R ++ X) := ⟨h.good, h.arr, dead_more h.dead⟩
theorem gone_q {w : List UInt8} {e : Nat × Nat} (he : e ∈ yV d) {p : Nat} (hp : t.kc p = e.1) (h3 : ¬ e.1 < 3) : goneP d t p = lQ d w e := by
  obtain ⟨_, h1, h2⟩ := wM e he
  unfold goneP lQ
  rw [if_neg h3, hp, h1, show (d.vv e.1 != 15) = true from by rw [bne_iff_ne]; exact h2, Bool.true_and]
theorem get_gone {w : List UInt8} (hC : Cld mt d t w av gn dd wk R) {e : Nat × Nat} (he : e ∈ yV d) (hl : lQ d w e = true) : f_get [.obj (T mt), uV mt e.1] (zE mt (SF d t av gn dd wk R)) = some (.none, zE mt (SF d t av gn dd wk R)) := by
  obtain ⟨⟨h1, h1'⟩, h2, h3⟩ := wM e he
  by_cases h : e.1 < 3
  · have : av e.1 = 15 := by
      rw [hC.arr _ h]; unfold avC
      unfold lQ at hl; rw [if_pos h, h2] at hl
      rw [if_pos hl]
    rw [get_arr e.1 h, show (SF d t av gn dd wk R).av e.1 = 15 from this]
    cases mt <;> rfl
  · obtain ⟨i, hi⟩ : ∃ i, e.1 = i + 3 := ⟨e.1 - 3, by exact (Nat.sub_add_cancel (Nat.le_of_not_lt ‹_›)).symm⟩
    obtain ⟨p, hp, hk, _, hn⟩ := index_of hC.dead hC.good (i := i) (by omega) (by rw [bne_iff_ne, ← hi]; exact h3)
    have hg : goneP d t p = true := by rw [gone_q he (hk.trans hi.symm) h, hl]
    rw [hi]
    refine get_hash (by omega) hn ?_
    cases hd : deadB d t p with
    | true => exact .inl rfl
    | false => exact .inr ⟨p, hp, rfl, by unfold vcC; rw [(hC.dead p hp).1, hg]⟩
end
end Mine


section
namespace Mine
section
variable {mt : Bool} {d : D} {t : Tb} {av : Nat → Nat} {gn : Nat → Bool} {dd : Nat → Option Nat} {wk : V} {R G : H} {s : PS} {y8 y9 y12 y13 : Option V}
theorem lw12_run {c : Nat} {l g : List (Nat × Nat)} {w : List UInt8} (hC : Cld mt d t w av gn dd wk (lgG mt R l g)) (hg : ∀ e ∈ g, e ∈ yV d ∧ lQ d w e = true) (hl : g.length < 100) :
    lw12 (lgR mt c R y8 y9 y12 y13) (zE mt (SF d t av gn dd wk (lgG mt R l g))) = some (.next, lgR mt c R y8 y9 y12 y13, zE mt (SF d t av gn dd wk (lgG mt R l g ++ [.list [], .list []]))) := by
  have hx2 : listAt (zE mt (SF d t av gn dd wk (lgG mt R l g))) (.obj (ix mt R + 1)) = some (g.map (prV mt)) := two_2 (s := SF d t av gn dd wk [])
  have hT : ∀ mt : Bool, isObj .table (.obj (T mt)) (zE mt (SF d t av gn dd wk (lgG mt R l g))) = true := fun mt => by cases mt <;> kernel_rfl
  have hc : compL (.lst (ix mt R + 1)) (jB [(zG 1), (zG 2)]) [(zX (yT .table f_get (zC 3) [(zC 1)]) [(.isnot, (cE .none))])] (zC 1) 100 0 [none, none, none, some (.obj (T mt))] (zE mt (SF d t av gn dd wk (lgG mt R l g))) [] = some ((g.filter fun _ => false).map fun e => uV mt e.1, zE mt (SF d t av gn dd wk (lgG mt R l g))) := by
    refine comp_run (us := g) (val := prV mt) (fun ρ => ∃ x y, ρ = [none, x, y, some (.obj (T mt))]) ⟨none, none, rfl⟩ hl (jF hx2) fun e he ρ hρ => ?_
    obtain ⟨x, y, rfl⟩ := hρ
    obtain ⟨h1, h2⟩ := hg e he
    exact ⟨_, rfl, ⟨_, _, rfl⟩, zW (wQ (meth_of rfl (hT mt) rfl (get_gone hC h1 h2)) rfl rfl) rfl, fun h => nomatch h⟩
  rw [show g.filter (fun _ => false) = [] from List.filter_eq_nil_iff.mpr fun _ _ => by decide] at hc
  have h1 := wK (mt := mt) (s := SF d t av gn dd wk []) (R := lgG mt R l g) (xs := []) (Nat.zero_le _)
  have h2 := wK (mt := mt) (s := SF d t av gn dd wk []) (R := lgG mt R l g ++ [.list []]) (xs := []) (Nat.zero_le _)
  rw [ix_snoc, List.append_assoc] at h2
  have hn := ne_same (two_1 (mt := mt) (s := SF d t av gn dd wk []) (R := lgG mt R l g) (a := []) (b := []) (G := [])) two_2 (fun v hv => nomatch hv)
  exact if_ff (wQ (jO (wL rfl hx2) hc h1) (zW rfl h2) hn) rfl
noncomputable def lawN (u : Nat) : V := match u with
  | 0 => .tup [.str [112, 108, 97, 105, 110], .str [49]] | 1 => .tup [.str [112, 108, 97, 105, 110], .str [50]] | 2 => .tup [.str [112, 108, 97, 105, 110], .str [51]]
  | 3 => .tup [.str [112, 108, 97, 105, 110], .str [98, 39, 107, 39]] | 4 => .tup [.str [112, 108, 97, 105, 110], .str [49, 48, 48]]
  | 11 => .tup [.str [112, 108, 97, 105, 110], .str [98, 39, 116, 97, 105, 108, 39]] | 12 => .tup [.str [112, 108, 97, 105, 110], .str [55]]
  | 13 => .tup [.str [112, 108, 97, 105, 110], .str [84, 114, 117, 101]] | 14 => .tup [.str [112, 108, 97, 105, 110], .str [98, 39, 116, 101, 120, 116, 39]]
  | u => .tup [.str [111, 98, 106, 101, 99, 116], .int (30 - (u : Int))]
theorem law_number : ∀ u, u < 15 → yK [uV mt u] (zE mt s) = some (lawN u, zE mt s) := by
  refine yF ?_; cases mt <;> kernel_rfl
noncomputable def slK (s : PS) (j : Nat) : Nat := if j < 3 then j else s.kc (j - 3)
noncomputable def slV (s : PS) (j : Nat) : Nat := if j < 3 then s.av j else vcC s (j - 3)
noncomputable def slL (s : PS) (j : Nat) : Bool := slV s j != 15
theorem slK_n {s : PS} (p : Nat) : slK s (p + 3) = s.kc p := if_neg (by omega)
theorem slV_n {s : PS} (p : Nat) : slV s (p + 3) = vcC s p := if_neg (by omega)
noncomputable def nxA : St := zI [
    ifS (zX (yB (zL (zC 0) .array) (zC 2)) [(.isnot, (cE .none))]) (zI [
      yM (wU [(yX .add (zC 2) (cE (.int 1))), (yB (zL (zC 0) .array) (zC 2))])]) (zI []),
    augS 2 .add (cE (.int 1))]
noncomputable def nxN : St := zI [
    zQ (zG 4) (yB (zL (zC 0) .nodes) (zC 3)),
    ifS (zX (zL (zC 4) .value) [(.isnot, (cE .none))]) (zI [
      yM (wU [(zL (zC 4) .key), (zL (zC 4) .value)])]) (zI []),
    augS 3 .add (cE (.int 1))]
noncomputable def nxR (mt : Bool) (k : V) (a b : Int) (x : Option V) : Rho := [some (.obj (T mt)), some k, some (.int a), some (.int b), x, none]
noncomputable def naR (mt : Bool) (k : V) (a : Int) : Rho := [some (.obj (T mt)), some k, some (.int a), none, none, none]
theorem na_val {k : V} : ∀ p : Nat, p < 3 → yB (zL (zC 0) .array) (zC 2) (naR mt k p) (zE mt s) = some (uV mt (s.av p), zE mt s) := by
  refine yF ?_; cases mt <;> kernel_rfl
theorem na_t {k : V} : ∀ p : Nat, p < 3 → zX (zC 2) [(.lt, (wB (zL (zC 0) .array)))] (naR mt k p) (zE mt s) = some (true, zE mt s) := by
  refine yF ?_; cases mt <;> kernel_rfl
theorem na_e {k : V} : ∀ p : Nat, p < 9 → zX (zC 2) [(.lt, (wB (zL (zC 0) .array)))] (naR mt k (p + 3 : Nat)) (zE mt s) = some (false, zE mt s) := by
  refine yF ?_; cases mt <;> kernel_rfl
theorem nn_t {k : V} {a : Int} {x : Option V} : ∀ p : Nat, p < 8 → zX (zC 3) [(.lt, (wB (zL (zC 0) .nodes)))] (nxR mt k a p x) (zE mt s) = some (true, zE mt s) := by
  refine yF ?_; cases mt <;> kernel_rfl
theorem nn_e {k : V} {a : Int} {x : Option V} : zX (zC 3) [(.lt, (wB (zL (zC 0) .nodes)))] (nxR mt k a 8 x) (zE mt s) = some (false, zE mt s) := by
  cases mt <;> kernel_rfl
theorem nn_a {k : V} {a : Int} {x : Option V} : ∀ p : Nat, p < 8 → zQ (zG 4) (yB (zL (zC 0) .nodes) (zC 3)) (nxR mt k a p x) (zE mt s) = some (.next, nxR mt k a p (some (.obj (T mt + 6 + p))), zE mt s) := by
  refine yF ?_; cases mt <;> kernel_rfl
theorem nn_v {k : V} {a b : Int} : ∀ p : Nat, p < 8 → zL (zC 4) .value (nxR mt k a b (some (.obj (T mt + 6 + p)))) (zE mt s) = some (uV mt (vcC s p), zE mt s) := by
  refine yF ?_; cases mt <;> kernel_rfl
theorem nn_r {k : V} {a b : Int} : ∀ p : Nat, p < 8 → wU [(zL (zC 4) .key), (zL (zC 4) .value)] (nxR mt k a b (some (.obj (T mt + 6 + p)))) (zE mt s) = some (.tup [ndV mt s p, uV mt (vcC s p)], zE mt s) := by
  refine yF ?_; cases mt <;> kernel_rfl
noncomputable def nxO (mt : Bool) (s : PS) : Option Nat → V
  | none => .none
  | some j => prV mt (slK s j, slV s j)
noncomputable def LiveK (s : PS) : Prop := ∀ p, p < 8 → vcC s p ≠ 15 → s.dd p = none
theorem nn_loop {k : V} {a : Int} (hk : LiveK s) (hv : ∀ p, p < 8 → vcC s p < 18) : ∀ (n p f : Nat) (x : Option V), n + p = 8 → n < f → ∃ ρ', whileL (zX (zC 3) [(.lt, (wB (zL (zC 0) .nodes)))]) nxN f (nxR mt k a p x) (zE mt s) =
    match ((List.range 11).drop (p + 3)).find? (slL s) with
    | some j => some (.ret (nxO mt s (some j)), ρ', zE mt s)
    | none => some (.next, ρ', zE mt s)
  | _, _, 0, _, _, hf => absurd hf (Nat.not_lt_zero _)
  | 0, p, f + 1, x, e, _ => by
    rw [Nat.zero_add] at e; subst e
    exact ⟨_, while_end nn_e⟩
  | n + 1, p, f + 1, x, e, hf => by
    have hp : p < 8 := by exact oA ‹_›
    have hd : (List.range 11).drop (p + 3) = (p + 3) :: (List.range 11).drop (p + 1 + 3) := by
      rw [List.drop_eq_getElem_cons (by rw [List.length_range]; exact Nat.add_lt_add_right ‹_› _), List.getElem_range, show p + 3 + 1 = p + 1 + 3 by exact Nat.add_right_comm _ _ _]
    have hs : slL s (p + 3) = (vcC s p != 15) := by
      unfold slL; rw [slV_n]
    have ht : zX (zL (zC 4) .value) [(.isnot, (cE .none))] (nxR mt k a p (some (.obj (T mt + 6 + p)))) (zE mt s) = some (vcC s p != 15, zE mt s) := by
      refine wQ (nn_v p hp) rfl ?_
      show (isN (uV mt (vcC s p))).map (!·) = _
      rw [isN_18 _ (hv p hp)]; rfl
    rw [hd, List.find?_cons, hs]
    cases e1 : (vcC s p != 15) with
    | true =>
      rw [e1] at ht
      have h1 := nn_r (mt := mt) (s := s) (k := k) (a := a) (b := p) p hp
      rw [show ndV mt s p = uV mt (s.kc p) by unfold ndV; rw [hk p hp (by rwa [bne_iff_ne] at e1)]] at h1
      refine ⟨_, while_ret (nn_t p hp) (zN (nn_a p hp) (yP (if_tt ht (yP (wP (h1.trans ?_))))))⟩
      show _ = some (V.tup [uV mt (slK s (p + 3)), uV mt (slV s (p + 3))], zE mt s)
      rw [slK_n, slV_n]
    | false =>
      rw [e1] at ht
      obtain ⟨ρ', ih⟩ := nn_loop hk hv n (p + 1) f (some (.obj (T mt + 6 + p))) (by exact oB ‹_›) (Nat.lt_of_succ_lt_succ hf)
      exact ⟨ρ', while_next (nn_t p hp) (zN (nn_a p hp) (zN (if_ff ht rfl) rfl)) ih⟩
end
end Mine


section
namespace Mine
section
variable {mt : Bool} {d : D} {t : Tb} {av : Nat → Nat} {gn : Nat → Bool} {dd : Nat → Option Nat} {wk : V} {R G : H} {s : PS} {w : List UInt8}
theorem na_r {k : V} : ∀ p : Nat, p < 3 → wU [(yX .add (zC 2) (cE (.int 1))), (yB (zL (zC 0) .array) (zC 2))] (naR mt k p) (zE mt s) = some (.tup [uV mt p, uV mt (s.av p)], zE mt s) := by
  refine yF ?_; cases mt <;> kernel_rfl
theorem slK_a {s : PS} {p : Nat} (h : p < 3) : slK s p = p := if_pos h
theorem slV_a {s : PS} {p : Nat} (h : p < 3) : slV s p = s.av p := if_pos h
theorem na_loop {k : V} (hv : ∀ p, p < 3 → s.av p < 18) : ∀ (n p f : Nat), n + p = 3 → n < f → ∃ ρ', whileL (zX (zC 2) [(.lt, (wB (zL (zC 0) .array)))]) nxA f (naR mt k p) (zE mt s) =
    match ((List.range 3).drop p).find? (slL s) with
    | some j => some (.ret (nxO mt s (some j)), ρ', zE mt s)
    | none => some (.next, naR mt k 3, zE mt s)
  | _, _, 0, _, hf => absurd hf (Nat.not_lt_zero _)
  | 0, p, f + 1, e, _ => by
    rw [Nat.zero_add] at e; subst e
    exact ⟨[], while_end (na_e 0 (by decide))⟩
  | n + 1, p, f + 1, e, hf => by
    have hp : p < 3 := by exact oA ‹_›
    have hd : (List.range 3).drop p = p :: (List.range 3).drop (p + 1) := by
      rw [List.drop_eq_getElem_cons (by rw [List.length_range]; assumption), List.getElem_range]
    have hs : slL s p = (s.av p != 15) := by unfold slL; rw [slV_a hp]
    have ht : zX (yB (zL (zC 0) .array) (zC 2)) [(.isnot, (cE .none))] (naR mt k p) (zE mt s) = some (s.av p != 15, zE mt s) := by
      refine wQ (na_val p hp) rfl ?_
      show (isN (uV mt (s.av p))).map (!·) = _
      rw [isN_18 _ (hv p hp)]; rfl
    rw [hd, List.find?_cons, hs]
    cases e1 : (s.av p != 15) with
    | true =>
      rw [e1] at ht
      refine ⟨_, while_ret (na_t p hp) (yP (if_tt ht (yP (wP ((na_r p hp).trans ?_)))))⟩
      show _ = some (V.tup [uV mt (slK s p), uV mt (slV s p)], zE mt s)
      rw [slK_a hp, slV_a hp]
    | false =>
      rw [e1] at ht
      obtain ⟨ρ', ih⟩ := na_loop hv n (p + 1) f (by exact oB ‹_›) (Nat.lt_of_succ_lt_succ hf)
      exact ⟨ρ', while_next (na_t p hp) (zN (if_ff ht rfl) rfl) ih⟩
theorem drop_split : ∀ a, a < 4 → (List.range 11).drop a = (List.range 3).drop a ++ (List.range 11).drop 3 := by decide
theorem next_spec {k : V} (hk : LiveK s) (hv : ∀ j, j < 11 → slV s j < 18) {a : Nat} (ha : a ≤ 11) (hi : xS [.obj (T mt), k] (zE mt s) = some (.int ((a : Int) - 1), zE mt s)) : f_next [.obj (T mt), k] (zE mt s) = some (nxO mt s (((List.range 11).drop a).find? (slL s)), zE mt s) := by
  have hT : ∀ mt : Bool, isObj .table (.obj (T mt)) (zE mt s) = true := fun mt => by cases mt <;> kernel_rfl
  have h1 : zQ (zG 2) (yX .add (yT .table xS (zC 0) [(zC 1)]) (cE (.int 1))) [some (.obj (T mt)), some k, none, none, none, none] (zE mt s) = some (.next, naR mt k a, zE mt s) := by
    refine wF (bin_of (meth_of rfl (hT mt) rfl hi) rfl (r := some (.int a, zE mt s)) ?_) rfl
    show some (V.int ((a : Int) - 1 + 1), zE mt s) = _
    rw [Int.sub_add_cancel]
  have hvn : ∀ p, p < 8 → vcC s p < 18 := fun p hp => by have := hv (p + 3) (Nat.add_lt_add_right ‹_› _); rwa [slV_n] at this
  have hva : ∀ p, p < 3 → s.av p < 18 := fun p hp => by have := hv p (Nat.lt_of_lt_of_le ‹_› (by decide)); rwa [slV_a hp] at this
  have h2 : ∀ p, p < 9 → zQ (zG 3) (yX .sub (zC 2) (wB (zL (zC 0) .array))) (naR mt k (p + 3 : Nat)) (zE mt s) = some (.next, nxR mt k (p + 3 : Nat) p none, zE mt s) := by
    clear h1 ha hi; refine yF ?_; cases mt <;> kernel_rfl
  have fin : ∀ p, p < 9 → ∃ ρ', zI [zQ (zG 3) (yX .sub (zC 2) (wB (zL (zC 0) .array))), whileS (zX (zC 3) [(.lt, (wB (zL (zC 0) .nodes)))]) nxN, yM (cE .none)] (naR mt k (p + 3 : Nat)) (zE mt s) = some (.ret (nxO mt s (((List.range 11).drop (p + 3)).find? (slL s))), ρ', zE mt s) := fun p hp => by
    obtain ⟨ρ', h3⟩ := nn_loop (mt := mt) (k := k) (a := (p + 3 : Nat)) hk hvn (8 - p) p 100 none (by exact Nat.sub_add_cancel (Nat.le_of_lt_succ ‹_›)) (by exact Nat.lt_of_le_of_lt (Nat.sub_le _ _) (by decide))
    cases e : ((List.range 11).drop (p + 3)).find? (slL s) with
    | some j => rw [e] at h3; exact ⟨ρ', zN (h2 p hp) (yP h3)⟩
    | none => rw [e] at h3; exact ⟨ρ', zN (h2 p hp) (zN h3 rfl)⟩
  by_cases h3 : a < 3
  · obtain ⟨ρ', h4⟩ := na_loop (mt := mt) (k := k) hva (3 - a) a 100 (by exact Nat.sub_add_cancel (Nat.le_of_lt ‹_›)) (by exact Nat.lt_of_le_of_lt (Nat.sub_le _ _) (by decide))
    rw [drop_split a (Nat.lt_of_lt_of_le ‹_› (by decide)), List.find?_append]
    cases e : ((List.range 3).drop a).find? (slL s) with
    | some j => rw [e] at h4; exact xN rfl (zN h1 (yP h4)) (by simp)
    | none =>
      rw [e] at h4
      obtain ⟨ρ'', h5⟩ := fin 0 (by decide)
      exact xN rfl (zN h1 (zN h4 h5)) (by simp)
  · obtain ⟨p, rfl⟩ : ∃ p, a = p + 3 := ⟨a - 3, by exact (Nat.sub_add_cancel (Nat.le_of_not_lt ‹_›)).symm⟩
    obtain ⟨ρ'', h5⟩ := fin p (Nat.lt_of_add_lt_add_right ‹_›)
    exact xN rfl (zN h1 (zN (while_end (na_e p (Nat.lt_of_add_lt_add_right ‹_›))) h5)) (by simp)
theorem Cld.live (h : Cld mt d t w av gn dd wk R) : LiveK (SF d t av gn dd wk R) := fun p hp hv => by
  have h1 := h.dead p hp
  refine h1.2.2 ?_
  have : (SF d t av gn dd wk R).gn p = false := by
    cases e : (SF d t av gn dd wk R).gn p with
    | false => rfl
    | true => unfold vcC at hv; rw [e] at hv; exact absurd rfl hv
  rw [← h1.1, this]; rfl
theorem Cld.val (h : Cld mt d t w av gn dd wk R) {j : Nat} (hj : j < 11) : slV (SF d t av gn dd wk R) j = 15 ∨ slV (SF d t av gn dd wk R) j < 15 := by
  have hv : ∀ q, d.vv q = 15 ∨ d.vv q < 15 := fun q => (vv_cases d.ns d.t q).imp id fun h => h.2.1
  by_cases h3 : j < 3
  · rw [slV_a h3]
    show av j = 15 ∨ av j < 15
    rw [h.arr j h3]; unfold avC
    split
    · exact .inl rfl
    · exact hv j
  · obtain ⟨p, rfl⟩ : ∃ p, j = p + 3 := ⟨j - 3, by exact (Nat.sub_add_cancel (Nat.le_of_not_lt ‹_›)).symm⟩
    rw [slV_n]; unfold vcC
    split
    · exact .inl rfl
    · exact hv _
theorem Cld.key (h : Cld mt d t w av gn dd wk R) {j : Nat} (hj : j < 11) (hl : slL (SF d t av gn dd wk R) j = true) : slK (SF d t av gn dd wk R) j < 11 ∧ xS [.obj (T mt), uV mt (slK (SF d t av gn dd wk R) j)] (zE mt (SF d t av gn dd wk R)) = some (.int j, zE mt (SF d t av gn dd wk R)) := by
  by_cases h3 : j < 3
  · rw [slK_a h3]; exact ⟨by assumption, find_index_arr j h3⟩
  · obtain ⟨p, rfl⟩ : ∃ p, j = p + 3 := ⟨j - 3, by exact (Nat.sub_add_cancel (Nat.le_of_not_lt ‹_›)).symm⟩
    have hp : p < 8 := by exact Nat.lt_of_add_lt_add_right ‹_›
    unfold slL at hl
    rw [slV_n, bne_iff_ne] at hl
    rw [slK_n]
    have hk : t.kc p ≠ 15 := fun e => hl (by
      unfold vcC; split
      · rfl
      · show d.vv (t.kc p) = 15; rw [e]; exact vv15)
    obtain ⟨hb, h3'⟩ := (h.good.bits p hp).resolve_left hk
    have hr : t.kc p < 11 := ((h.good.keys p hp).resolve_left hk).2
    show t.kc p < 11 ∧ xS [.obj (T mt), uV mt (t.kc p)] _ = _
    obtain ⟨p', hp', hk', hi, _⟩ := index_of h.dead h.good (i := t.kc p - 3) (by omega) hb
    rw [Nat.sub_add_cancel h3'] at hk' hi
    have : p' = p := uniq h.good hp' hp (by rw [hk']; exact hk) hk'
    subst this
    refine ⟨hr, hi.trans ?_⟩
    rw [Int.add_comm]; rfl
end
end Mine


section
namespace Mine
theorem for_ret {it : It} {tg : As} {b : St} {f k : Nat} {v u : V} {ρ ρ₁ ρ' : Rho} {σ σ₁ σ' : H} (h0 : it.nxt k σ = some (some v)) (h1 : tg v ρ σ = some (ρ₁, σ₁)) (h2 : b ρ₁ σ₁ = some (.ret u, ρ', σ')) : forL it tg b (f + 1) k ρ σ = some (.ret u, ρ', σ') := by
  rw [forL]; dsimp only; rw [h0]; dsimp only; rw [h1]; dsimp only; rw [h2]
theorem find_drop {n : Nat} {p : Nat → Bool} : ∀ (m a j : Nat), m + a = n → ((List.range n).drop a).find? p = some j → j < n ∧ p j = true ∧ a ≤ j ∧ ((List.range n).drop a).filter p = j :: ((List.range n).drop (j + 1)).filter p
  | 0, a, j, e, h => by
    rw [List.drop_eq_nil_of_le (by rw [List.length_range]; exact Nat.le_of_eq ((Eq.symm ‹_›).trans (Nat.zero_add _)))] at h; cases h
  | m + 1, a, j, e, h => by
    have hd : (List.range n).drop a = a :: (List.range n).drop (a + 1) := by
      rw [List.drop_eq_getElem_cons (by rw [List.length_range]; exact oA ‹_›), List.getElem_range]
    rw [hd, List.find?_cons] at h
    rw [hd]
    cases e1 : p a with
    | true =>
      rw [e1] at h; cases h
      exact ⟨by exact oA ‹_›, e1, Nat.le_refl _, List.filter_cons_of_pos e1⟩
    | false =>
      rw [e1] at h
      obtain ⟨h1, h2, h3, h4⟩ := find_drop m (a + 1) j (by exact oB ‹_›) h
      exact ⟨h1, h2, by exact Nat.le_of_lt ‹_›, by rw [List.filter_cons_of_neg (by rw [e1]; decide), h4]⟩
theorem find_none {p : Nat → Bool} {l : List Nat} (h : l.find? p = none) : l.filter p = [] :=
  List.filter_eq_nil_iff.mpr fun a ha => List.find?_eq_none.mp h a ha
noncomputable def EV (e : Nat × Nat) : V := .tup [lawN e.1, lawN e.2]
noncomputable def slE (s : PS) (j : Nat) : Nat × Nat := (slK s j, slV s j)
noncomputable def wkB : St := zI [
    zQ (zG 4) (yT .table f_next (zC 0) [(zC 2)]),
    ifS (zX (zC 4) [(.is, (cE .none))]) (zI [
      yM (zC 1)]) (zI []),
    zQ (zG 2) (yB (zC 4) (cE (.int 0))),
    yR (xZ (zC 1) (wU [(zR yK [(zC 2)]), (zR yK [(yB (zC 4) (cE (.int 1)))])]))]
noncomputable def wkR (mt : Bool) (R : H) (k : V) (x y : Option V) : Rho := [some (.obj (T mt)), some (.obj (ix mt R)), some k, x, y, none, none]
section
variable {mt : Bool} {d : D} {t : Tb} {av : Nat → Nat} {gn : Nat → Bool} {dd : Nat → Option Nat} {wk : V} {R G : H} {s : PS} {w : List UInt8}
theorem next_cld (h : Cld mt d t w av gn dd wk R) {k : V} {a : Nat} (ha : a ≤ 11) (hi : xS [.obj (T mt), k] (zE mt (SF d t av gn dd wk R)) = some (.int ((a : Int) - 1), zE mt (SF d t av gn dd wk R))) :
    f_next [.obj (T mt), k] (zE mt (SF d t av gn dd wk R)) = some (nxO mt (SF d t av gn dd wk R) (((List.range 11).drop a).find? (slL (SF d t av gn dd wk R))), zE mt (SF d t av gn dd wk R)) :=
  next_spec h.live (fun j hj => by have := h.val hj; omega) ha hi
theorem wk_loop : ∀ (f a k : Nat) (acc : List V) (key : V) (x y : Option V), 11 < f + a → a ≤ 11 → k ≤ a → acc.length ≤ a → Cld mt d t w av gn dd wk (R ++ [.list acc]) →
    xS [.obj (T mt), key] (zE mt (SF d t av gn dd wk (R ++ [.list acc]))) = some (.int ((a : Int) - 1), zE mt (SF d t av gn dd wk (R ++ [.list acc]))) →
    (∀ acc, Cld mt d t w av gn dd wk (R ++ [.list acc])) →
    ∃ ρ', forL (.rng 0 30) (zG 3) wkB f k (wkR mt R key x y) (zE mt (SF d t av gn dd wk (R ++ [.list acc]))) =
      some (.ret (.obj (ix mt R)), ρ', zE mt (SF d t av gn dd wk (R ++ [.list (acc ++ (((List.range 11).drop a).filter (slL (SF d t av gn dd wk []))).map fun j => EV (slE (SF d t av gn dd wk []) j))])))
  | 0, a, k, acc, key, x, y, hf, ha, _, _, _, _, _ => absurd hf (by omega)
  | f + 1, a, k, acc, key, x, y, hf, ha, hk, hl, hC, hi, hA => by
    have hT : ∀ mt : Bool, isObj .table (.obj (T mt)) (zE mt (SF d t av gn dd wk (R ++ [.list acc]))) = true := fun mt => by cases mt <;> kernel_rfl
    have h1 := next_cld hC ha hi
    have h0 : (It.rng 0 30).nxt k (zE mt (SF d t av gn dd wk (R ++ [.list acc]))) = some (some (.int k)) := by
      have := rng_nxt (n := 30) (σ := zE mt (SF d t av gn dd wk (R ++ [.list acc]))) k
      rw [List.getElem?_map, List.getElem?_range (by exact Nat.lt_of_le_of_lt ‹_› (Nat.lt_of_le_of_lt ‹_› (by decide)))] at this
      exact this
    have h2 : zQ (zG 4) (yT .table f_next (zC 0) [(zC 2)]) (wkR mt R key (some (.int k)) y) (zE mt (SF d t av gn dd wk (R ++ [.list acc]))) = some (.next, wkR mt R key (some (.int k)) (some _), _) := wF (meth_of rfl (hT mt) rfl h1) rfl
    cases e : ((List.range 11).drop a).find? (slL (SF d t av gn dd wk [])) with
    | none =>
      rw [show ((List.range 11).drop a).find? (slL (SF d t av gn dd wk (R ++ [.list acc]))) = none from e] at h2
      rw [find_none e, List.map_nil, List.append_nil]
      exact ⟨_, for_ret h0 rfl (zN h2 (yP (if_tt (wQ (b := true) rfl rfl rfl) (yP (wP rfl)))))⟩
    | some j =>
      rw [show ((List.range 11).drop a).find? (slL (SF d t av gn dd wk (R ++ [.list acc]))) = some j from e] at h2
      obtain ⟨hj, hlj, haj, hfj⟩ := find_drop (n := 11) (11 - a) a j (by exact Nat.sub_add_cancel ‹_›) e
      have hkj := (hC.key hj hlj).1
      have hvj : slV (SF d t av gn dd wk []) j < 15 := by
        refine (hC.val hj).resolve_left fun z => ?_
        unfold slL at hlj; rw [bne_iff_ne] at hlj; exact hlj z
      have hlk := law_number (mt := mt) (s := SF d t av gn dd wk (R ++ [.list acc])) (slK (SF d t av gn dd wk []) j) (by exact Nat.lt_trans hkj (by decide))
      have hlv := law_number (mt := mt) (s := SF d t av gn dd wk (R ++ [.list acc])) (slV (SF d t av gn dd wk []) j) hvj
      have h3 := app_rsV (mt := mt) (s := SF d t av gn dd wk []) (R := R) (G := []) (xs := acc) (ρ := wkR mt R (uV mt (slK (SF d t av gn dd wk []) j)) (some (.int k)) (some (nxO mt (SF d t av gn dd wk []) (some j)))) (o := zC 1) (a := wU [(zR yK [(zC 2)]), (zR yK [(yB (zC 4) (cE (.int 1)))])]) (y := EV (slE (SF d t av gn dd wk []) j)) rfl
        (tup_of (wE (yJ rfl hlk) (wE (yJ rfl hlv) rfl))) (by omega)
      obtain ⟨ρ', ih⟩ := wk_loop f (j + 1) (k + 1) (acc ++ [EV (slE (SF d t av gn dd wk []) j)]) (uV mt (slK (SF d t av gn dd wk []) j)) (some (.int k)) (some (nxO mt (SF d t av gn dd wk []) (some j))) (by omega) ‹_› (by omega) (by rw [List.length_append]; simp; exact Nat.le_trans ‹_› ‹_›) (hA _)
        (by rw [show ((j + 1 : Nat) : Int) - 1 = j by exact oC _]; exact ((hA _).key hj hlj).2) hA
      refine ⟨ρ', for_next h0 rfl (zN h2 (zN (if_ff (wQ (b := false) rfl rfl rfl) rfl) (zN (wF (v := uV mt (slK (SF d t av gn dd wk []) j)) rfl rfl) (zN h3 rfl)))) ?_⟩
      rw [hfj, List.map_cons]
      rw [List.append_assoc] at ih
      exact ih
theorem walked (h : Cld mt d t w av gn dd wk R) : f__law_walked [.obj (T mt)] (zE mt (SF d t av gn dd wk R)) =
    some (.obj (ix mt R), zE mt (SF d t av gn dd wk (R ++ [.list (((List.range 11).filter (slL (SF d t av gn dd wk []))).map fun j => EV (slE (SF d t av gn dd wk []) j))]))) := by
  have h1 := wK (mt := mt) (s := SF d t av gn dd wk []) (R := R) (xs := []) (Nat.zero_le _)
  have h2 : wU [(xM []), (cE .none)] [some (.obj (T mt)), none, none, none, none, none, none] (zE mt (SF d t av gn dd wk R)) = some (.tup [.obj (ix mt R), .none], zE mt (SF d t av gn dd wk (R ++ [.list []]))) := tup_of (wE (zW rfl h1) rfl)
  obtain ⟨ρ', h3⟩ := wk_loop (mt := mt) (d := d) (t := t) (w := w) (av := av) (gn := gn) (dd := dd) (wk := wk) (R := R) 100 0 0 [] .none none none (by decide) (by decide) (by decide) (by decide) h.more find_index_none (fun _ => h.more)
  exact xN rfl (zN (asg_of h2 rfl) (yP (for_of (i := .rng 0 30) rfl h3))) (by simp)
end
end Mine


section
namespace Mine
theorem flat_single {α : Type} : ∀ l : List α, (l.flatMap fun a => [a]) = l
  | [] => rfl
  | a :: l => by rw [List.flatMap_cons, flat_single l]; rfl
theorem map_flat {α β : Type} (f : α → β) (p : α → Bool) (l : List α) : (l.filter p).map f = l.flatMap fun a => if p a then [f a] else [] := by
  rw [← filter_flat p (fun a => [f a]) l]
  induction l.filter p with
  | nil => rfl
  | cons a l ih => rw [List.map_cons, List.flatMap_cons, ih]; rfl
section
variable {mt : Bool} {d : D} {t : Tb} {av : Nat → Nat} {gn : Nat → Bool} {dd : Nat → Option Nat} {wk : V} {R G : H} {w : List UInt8}
theorem left_perm (h : Cld mt d t w av gn dd wk R) : (((List.range 11).filter (slL (SF d t av gn dd wk []))).map (slE (SF d t av gn dd wk []))).Perm (jG d w (yV d)) := by
  have e0 : jG d w (yV d) = (wD d.vv 11).flatMap fun e => if lQ d w e then [] else [e] := by
    unfold jG yV
    rw [← flat_single (List.filter _ _), filter_flat]
    refine flat_congr fun e _ => ?_
    cases lQ d w e <;> rfl
  rw [e0, kept_split, map_flat, range11, List.flatMap_append, flat_map]
  have p1 : ((List.range 3).flatMap fun a => if slL (SF d t av gn dd wk []) a then [slE (SF d t av gn dd wk []) a] else []) = (List.range 3).flatMap fun q => if d.vv q = 15 then [] else if lQ d w (q, d.vv q) then [] else [(q, d.vv q)] := by
    refine flat_congr fun q hq => ?_
    have hq := List.mem_range.mp hq
    unfold slL slE
    rw [slV_a hq, slK_a hq]
    show (if av q != 15 then [(q, av q)] else []) = _
    rw [h.arr q hq]
    unfold avC lQ
    dsimp only
    rw [if_pos hq]
    by_cases h1 : d.vv q = 15
    · rw [if_pos h1, h1]; cases w.contains 118 <;> rfl
    · rw [if_neg h1]
      cases (w.contains 118 && lV d (d.vv q)) with
      | true => rfl
      | false =>
        show (if (d.vv q != 15) = true then [(q, d.vv q)] else []) = [(q, d.vv q)]
        rw [if_pos (by rw [bne_iff_ne]; exact h1)]
  have p2 := nodes_perm h.good fun k => if d.vv k = 15 then [] else if lQ d w (k, d.vv k) then [] else [(k, d.vv k)]
  rw [p1]
  refine List.Perm.append_left _ ((List.Perm.of_eq (flat_congr fun p hp => ?_)).trans (p2.trans (.of_eq (flat_congr fun i _ => ?_))))
  · have hp := List.mem_range.mp hp
    unfold slL slE
    rw [slV_n, slK_n]
    have hd := (h.dead p hp).1
    show (if vcC (SF d t av gn dd wk []) p != 15 then [(t.kc p, vcC (SF d t av gn dd wk []) p)] else []) = _
    have hgn : gn p = goneP d t p := hd
    have hv : vcC (SF d t av gn dd wk []) p = if goneP d t p then 15 else d.vv (t.kc p) := by
      unfold vcC; show (match gn p with | true => 15 | false => d.vv (t.kc p)) = _
      rw [hgn]; cases goneP d t p <;> rfl
    rw [hv]
    by_cases hk : t.kc p = 15
    · rw [if_pos hk, hk, vv15]; cases goneP d t p <;> rfl
    · rw [if_neg hk]
      have h3 := ((h.good.bits p hp).resolve_left hk).2
      unfold goneP lQ
      by_cases h1 : d.vv (t.kc p) = 15
      · rw [if_pos h1, h1]; rfl
      · dsimp only
        rw [if_neg h1, if_neg (by exact Nat.not_lt_of_le ‹_› : ¬ t.kc p < 3), show (d.vv (t.kc p) != 15) = true by rw [bne_iff_ne]; exact h1, Bool.true_and]
        cases (lK d (t.kc p) || lV d (d.vv (t.kc p))) with
        | true => rfl
        | false =>
          show (if (d.vv (t.kc p) != 15) = true then [(t.kc p, d.vv (t.kc p))] else []) = [(t.kc p, d.vv (t.kc p))]
          rw [if_pos (by rw [bne_iff_ne]; exact h1)]
  · by_cases h1 : d.vv (i + 3) = 15
    · rw [if_pos h1, if_pos h1]
    · rw [if_neg h1, if_neg h1]
noncomputable def rkq (q : Nat) : Int := [6, 8, 9, 10, 7, 5, 4, 3, 2, 1, 0].getD q 0
noncomputable def rkV : V → Int
  | .tup (k :: _) => rkq (((List.range 11).find? fun q => eqB k (lawN q)).getD 0)
  | _ => 0
theorem rkV_E {x : V} : ∀ q, q < 11 → rkV (.tup [lawN q, x]) = rkq q := by
  refine yF ?_; kernel_rfl
theorem ltV_ne {x y : V} : ∀ q, q < 11 → ∀ r, r < 11 → (if q = r then true else ltV (.tup [lawN q, x]) (.tup [lawN r, y]) == some (decide (rkq q < rkq r))) = true := fun q hq => by
  revert q; refine fun q hq => ?_
  refine yF ?_
  exact all_range (f := fun q => (List.range 11).map fun r => (if q = r then true else ltV (.tup [lawN q, x]) (.tup [lawN r, y]) == some (decide (rkq q < rkq r)))) (g := fun q => (List.range 11).map fun r => true) (by kernel_rfl) hq
theorem ltV_eq : ∀ q, q < 11 → ∀ u, u < 15 → ltV (EV (q, u)) (EV (q, u)) = some false := fun q hq => by
  refine yF ?_
  exact all_range (f := fun q => (List.range 15).map fun u => ltV (EV (q, u)) (EV (q, u))) (g := fun q => (List.range 15).map fun u => some false) (by kernel_rfl) hq
theorem data_E : ∀ q, q < 11 → ∀ u, u < 15 → jM 3 (EV (q, u)) = true := fun q hq => by
  refine yF ?_
  exact all_range (f := fun q => (List.range 15).map fun u => jM 3 (EV (q, u))) (g := fun q => (List.range 15).map fun u => true) (by kernel_rfl) hq
theorem tup_E {x : V} : ∀ q, q < 11 → tupB (.tup [lawN q, x]) = true := by
  refine yF ?_; kernel_rfl
theorem rkq_inj : ∀ q, q < 11 → ∀ r, r < 11 → rkq q = rkq r → q = r := by decide
theorem kept_pw : (yV d).Pairwise fun a b => a.1 ≠ b.1 := by
  unfold yV wD
  refine List.pairwise_filterMap.mpr (List.nodup_range.imp fun {a b} h => fun x hx y hy => ?_)
  unfold keptF at hx hy
  split at hx
  · cases hx
  · split at hy
    · cases hy
    · cases hx; cases hy; exact h
theorem sort_ents {l : List (Nat × Nat)} (hm : ∀ e ∈ l, e ∈ yV d) (hp : l.Pairwise fun a b => a.1 ≠ b.1) (hl : l.length < 64) : sortO (l.map EV) = some (xL rkV (l.map EV)) := by
  have hlt : ∀ x ∈ l.map EV, ∀ y ∈ l.map EV, ltV x y = some (decide (rkV x < rkV y)) := fun x hx y hy => by
    obtain ⟨a, ha, rfl⟩ := List.mem_map.mp hx
    obtain ⟨b, hb, rfl⟩ := List.mem_map.mp hy
    obtain ⟨⟨a1, a2⟩, a3, _⟩ := wM a (hm a ha)
    obtain ⟨⟨b1, b2⟩, b3, _⟩ := wM b (hm b hb)
    have ea : rkV (EV a) = rkq a.1 := rkV_E _ a1
    have eb : rkV (EV b) = rkq b.1 := rkV_E _ b1
    rw [ea, eb]
    by_cases h : a.1 = b.1
    · have : a = b := Prod.ext h (by rw [a3, b3, h])
      subst this
      rw [decide_eq_false (Int.lt_irrefl _)]
      exact ltV_eq a.1 a1 a.2 a2
    · have := ltV_ne (x := lawN a.2) (y := lawN b.2) a.1 a1 b.1 b1
      rw [if_neg h, beq_iff_eq] at this
      exact this
  refine sortO_tups (by rw [List.length_map]; exact hl) hlt ?_ ?_ ?_
  · refine List.pairwise_map.mpr (hp.imp_of_mem fun {a b} ha hb h => ?_)
    have a1 := (wM a (hm a ha)).1.1
    have b1 := (wM b (hm b hb)).1.1
    intro e
    rw [show rkV (EV a) = rkq a.1 from rkV_E _ a1, show rkV (EV b) = rkq b.1 from rkV_E _ b1] at e
    exact h (rkq_inj _ a1 _ b1 e)
  · refine List.all_eq_true.mpr fun x hx => ?_
    obtain ⟨a, ha, rfl⟩ := List.mem_map.mp hx
    exact tup_E _ (wM a (hm a ha)).1.1
  · refine dataVs_all fun x hx => ?_
    obtain ⟨a, ha, rfl⟩ := List.mem_map.mp hx
    obtain ⟨⟨a1, a2⟩, _⟩ := wM a (hm a ha)
    exact data_E a.1 a1 a.2 a2
end
end Mine


section
namespace Mine
section
variable {mt : Bool} {d : D} {t : Tb} {av : Nat → Nat} {gn : Nat → Bool} {dd : Nat → Option Nat} {wk : V} {R G : H} {w : List UInt8} {s : PS}
theorem ent_lt {e : Nat × Nat} (h : e ∈ yV d) : e.1 < 15 ∧ e.2 < 15 := by
  have := (wM e h).1
  exact ⟨Nat.lt_trans this.1 (by decide), this.2⟩
theorem left_in {e : Nat × Nat} (h : e ∈ jG d w (yV d)) : e ∈ yV d := (List.mem_filter.mp h).1
theorem left_pw : (jG d w (yV d)).Pairwise fun a b => a.1 ≠ b.1 := kept_pw.filter _
theorem lw13_run {c i : Nat} {a8 a9 a11 a12 a13 a14 : Option V} (hC : Cld mt d t w av gn dd wk R) (hi : (zE mt (SF d t av gn dd wk R))[i]? = some (MO.list ((jG d w (yV d)).map (prV mt)))) :
    ∃ X, lw13 (lR mt (sS c) a8 a9 (some (.obj i)) a11 a12 a13 a14) (zE mt (SF d t av gn dd wk R)) = some (.next, lR mt (sS c) a8 a9 (some (.obj i)) a11 a12 a13 a14, zE mt (SF d t av gn dd wk (R ++ X))) := by
  have hp := left_perm hC
  have hw := walked hC
  have hll := left_len (d := d) (w := w) (yV d)
  have hk11 := keptD_len (d := d)
  have e1 : (((List.range 11).filter (slL (SF d t av gn dd wk []))).map fun j => EV (slE (SF d t av gn dd wk []) j)) = (((List.range 11).filter (slL (SF d t av gn dd wk []))).map (slE (SF d t av gn dd wk []))).map EV := by rw [List.map_map]; rfl
  rw [e1] at hw
  have hmL : ∀ e ∈ jG d w (yV d), e ∈ yV d := fun e he => left_in he
  have hpL := left_pw (d := d) (w := w)
  generalize jG d w (yV d) = L at *
  generalize ((List.range 11).filter (slL (SF d t av gn dd wk []))).map (slE (SF d t av gn dd wk [])) = W at *
  have hmW : ∀ e ∈ W, e ∈ yV d := fun e he => hmL e (hp.mem_iff.mp he)
  have hpW : W.Pairwise fun a b => a.1 ≠ b.1 := (hp.pairwise_iff (fun {a b} h => Ne.symm h)).mpr hpL
  have hlW : W.length = L.length := hp.length_eq
  have s1 := sort_ents hmW hpW (by omega)
  have s2 := sort_ents hmL hpL (by exact Nat.lt_of_le_of_lt ‹_› (Nat.lt_of_le_of_lt ‹_› (by decide)))
  have hs : xL rkV (W.map EV) = xL rkV (L.map EV) := sortR_congr (hp.map EV) fun x hx y hy e => by
    obtain ⟨a, ha, rfl⟩ := List.mem_map.mp hx
    obtain ⟨b, hb, rfl⟩ := List.mem_map.mp hy
    obtain ⟨⟨a1, _⟩, a3, _⟩ := wM a (hmW a ha)
    obtain ⟨⟨b1, _⟩, b3, _⟩ := wM b (hmW b hb)
    rw [show rkV (EV a) = rkq a.1 from rkV_E _ a1, show rkV (EV b) = rkq b.1 from rkV_E _ b1] at e
    have h := rkq_inj _ a1 _ b1 e
    rw [Prod.ext h (by rw [a3, b3, h])]
  have lS : ∀ l : List (Nat × Nat), l.length ≤ 11 → (xL rkV (l.map EV)).length ≤ 100000 := fun l h => by rw [(sortR_perm _).length_eq, List.length_map]; exact Nat.le_trans ‹_› (by decide)
  have h1 : sortedE (zR f__law_walked [(zC 5)]) (lR mt (sS c) a8 a9 (some (.obj i)) a11 a12 a13 a14) (zE mt (SF d t av gn dd wk R)) = some (.obj (ix mt (R ++ [MO.list (W.map EV)])), zE mt (SF d t av gn dd wk (R ++ [MO.list (W.map EV)] ++ [MO.list (xL rkV (W.map EV))]))) :=
    sorted_of (yJ (es := [zC 5]) rfl hw) (yW (s := SF d t av gn dd wk [])) s1 (wK (s := SF d t av gn dd wk []) (lS W (by omega)))
  have hi2 : (zE mt (SF d t av gn dd wk (R ++ [MO.list (W.map EV)] ++ [MO.list (xL rkV (W.map EV))])))[i]? = some (MO.list (L.map (prV mt))) := rs_more (s := SF d t av gn dd wk []) (rs_more (s := SF d t av gn dd wk []) hi)
  have h2 : xR (xJ (zC 10)) [none, none, none, none] (jB [(zG 1), (zG 2)]) [] (wU [(zR yK [(zC 1)]), (zR yK [(zC 2)])]) (lR mt (sS c) a8 a9 (some (.obj i)) a11 a12 a13 a14) (zE mt (SF d t av gn dd wk (R ++ [MO.list (W.map EV)] ++ [MO.list (xL rkV (W.map EV))]))) =
      some (.obj (ix mt (R ++ [MO.list (W.map EV)] ++ [MO.list (xL rkV (W.map EV))])), zE mt (SF d t av gn dd wk (R ++ [MO.list (W.map EV)] ++ [MO.list (xL rkV (W.map EV))] ++ [MO.list (L.map EV)]))) := by
    refine jO (wL rfl (listAt_of hi2)) (comp_all (us := L) (val := prV mt) (g := EV) (fun ρ => ∃ x y, ρ = [none, x, y, none]) ⟨none, none, rfl⟩ (by exact Nat.lt_of_le_of_lt ‹_› (Nat.lt_of_le_of_lt ‹_› (by decide))) (jF (listAt_of hi2)) fun e he ρ hρ => ?_) (wK (s := SF d t av gn dd wk []) (by rw [List.length_map]; exact Nat.le_trans ‹_› (Nat.le_trans ‹_› (by decide))))
    obtain ⟨x, y, rfl⟩ := hρ
    obtain ⟨k1, k2⟩ := ent_lt (hmL e he)
    exact ⟨_, rfl, ⟨_, _, rfl⟩, tup_of (wE (yJ (es := [zC 1]) rfl (law_number _ k1)) (wE (yJ (es := [zC 2]) rfl (law_number _ k2)) rfl))⟩
  have h3 := sorted_of h2 (yW (s := SF d t av gn dd wk [])) s2 (wK (s := SF d t av gn dd wk []) (R := R ++ [MO.list (W.map EV)] ++ [MO.list (xL rkV (W.map EV))] ++ [MO.list (L.map EV)]) (lS L (Nat.le_trans ‹_› ‹_›)))
  have l1 : listAt (zE mt (rs (SF d t av gn dd wk []) (R ++ [MO.list (W.map EV)] ++ [MO.list (xL rkV (W.map EV))] ++ [MO.list (L.map EV)] ++ [MO.list (xL rkV (L.map EV))]))) (.obj (ix mt (R ++ [MO.list (W.map EV)]))) = some (xL rkV (L.map EV)) := by
    rw [List.append_assoc, List.append_assoc, hs]; exact yW
  have l2 : listAt (zE mt (rs (SF d t av gn dd wk []) (R ++ [MO.list (W.map EV)] ++ [MO.list (xL rkV (W.map EV))] ++ [MO.list (L.map EV)] ++ [MO.list (xL rkV (L.map EV))]))) (.obj (ix mt (R ++ [MO.list (W.map EV)] ++ [MO.list (xL rkV (W.map EV))] ++ [MO.list (L.map EV)]))) = some (xL rkV (L.map EV)) := yW
  have h4 := ne_same l1 l2 fun v hv => by
    obtain ⟨e, he, rfl⟩ := List.mem_map.mp ((sortR_perm _).mem_iff.mp hv)
    have := (wM e (hmL e he)).1
    exact data_E e.1 this.1 e.2 this.2
  refine ⟨[MO.list (W.map EV)] ++ [MO.list (xL rkV (W.map EV))] ++ [MO.list (L.map EV)] ++ [MO.list (xL rkV (L.map EV))], ?_⟩
  rw [← List.append_assoc, ← List.append_assoc, ← List.append_assoc]
  exact if_ff (wQ h1 h3 h4) rfl
end
end Mine


section
namespace Mine
noncomputable def l4C : Ex V := xR (xJ (zC 10)) [none, none, none, none] (jB [(zG 1), (zG 2)]) [] (zR yK [(zC 1)])
noncomputable def l4B : St := zI [
    ifS (orT (notT (xO (jC (zC 8) [.int]))) (zX (zC 8) [(.gt, (cE (.int 3)))])) (zI [
      zQ (zG 14) (yT .table f_next (zC 5) [(zC 8)]),
      ifS (andT (zX (zC 14) [(.isnot, (cE .none))]) (zX (zR yK [(yB (zC 14) (cE (.int 0)))]) [(.notin, l4C)])) (zI [
        yM (cE (.bool false))]) (zI [])]) (zI [])]
theorem lawN_tup (u : Nat) : ∃ us, lawN u = .tup us := by unfold lawN; split <;> exact ⟨_, rfl⟩
theorem lawN_data : ∀ u, u < 15 → jM 3 (lawN u) = true := by
  refine yF ?_; kernel_rfl
theorem notin_f {σ : H} {i : Nat} {vs : List V} {v : V} (ht : ∃ us, v = .tup us) (h : listAt σ (.obj i) = some vs) (hd : ∀ x ∈ vs, jM 3 x = true) (hm : v ∈ vs) : cmpO .notin v (.obj i) σ = some false := by
  obtain ⟨us, rfl⟩ := ht
  show (match listAt σ (.obj i) with | some vs => if jM 3 (.tup us) && xD 3 vs then some (vs.any fun y => eqB y (.tup us)) else .none | .none => .none : Option Bool).map (!·) = _
  rw [h]; dsimp only
  rw [hd _ hm, dataVs_all hd, show vs.any (fun y => eqB y (.tup us)) = true from List.any_eq_true.mpr ⟨_, hm, eqB_refl (hd _ hm)⟩]; rfl
section
variable {mt : Bool} {d : D} {t : Tb} {av : Nat → Nat} {gn : Nat → Bool} {dd : Nat → Option Nat} {wk : V} {R G : H} {w : List UInt8} {s : PS}
theorem l4_test {W : List Nat} {a9 a10 a11 a12 a13 a14 : Option V} : ∀ q, q < 11 → orT (notT (xO (jC (zC 8) [.int]))) (zX (zC 8) [(.gt, (cE (.int 3)))]) (lR mt W (some (uV mt q)) a9 a10 a11 a12 a13 a14) (zE mt s) = some (decide (3 ≤ q), zE mt s) := by
  refine yF ?_; cases mt <;> kernel_rfl
theorem l4_turn {W : List Nat} {i : Nat} {a9 a11 a12 a13 a14 : Option V} (hC : Cld mt d t w av gn dd wk R) (hi : (zE mt (SF d t av gn dd wk R))[i]? = some (MO.list ((jG d w (yV d)).map (prV mt)))) {e : Nat × Nat} (he : e ∈ yV d) :
    ∃ b14 X, l4B (lR mt W (some (uV mt e.1)) a9 (some (.obj i)) a11 a12 a13 a14) (zE mt (SF d t av gn dd wk R)) = some (.next, lR mt W (some (uV mt e.1)) a9 (some (.obj i)) a11 a12 a13 b14, zE mt (SF d t av gn dd wk (R ++ X))) := by
  obtain ⟨⟨h1, _⟩, h2, h3⟩ := wM e he
  have ht := l4_test (mt := mt) (s := SF d t av gn dd wk R) (W := W) (a9 := a9) (a10 := some (.obj i)) (a11 := a11) (a12 := a12) (a13 := a13) (a14 := a14) e.1 h1
  by_cases h : 3 ≤ e.1
  · rw [decide_eq_true h] at ht
    obtain ⟨q, hq⟩ : ∃ q, e.1 = q + 3 := ⟨e.1 - 3, by exact (Nat.sub_add_cancel ‹_›).symm⟩
    rw [hq] at ht h1 h3 ⊢
    obtain ⟨p, hp, _, hx, _⟩ := index_of hC.dead hC.good (i := q) (Nat.lt_of_add_lt_add_right ‹_›) (by rw [bne_iff_ne]; exact h3)
    have hT : ∀ mt : Bool, isObj .table (.obj (T mt)) (zE mt (SF d t av gn dd wk R)) = true := fun mt => by cases mt <;> kernel_rfl
    have hn := next_cld hC (a := p + 4) (Nat.add_lt_add_right ‹_› _) (hx.trans (by rw [show ((p + 4 : Nat) : Int) - 1 = 3 + p by omega]))
    have h4 : zQ (zG 14) (yT .table f_next (zC 5) [(zC 8)]) (lR mt W (some (uV mt (q + 3))) a9 (some (.obj i)) a11 a12 a13 a14) (zE mt (SF d t av gn dd wk R)) = some (.next, lR mt W (some (uV mt (q + 3))) a9 (some (.obj i)) a11 a12 a13 (some _), _) := wF (meth_of rfl (hT mt) rfl hn) rfl
    cases hf : ((List.range 11).drop (p + 4)).find? (slL (SF d t av gn dd wk R)) with
    | none =>
      rw [hf] at h4
      refine ⟨some (nxO mt (SF d t av gn dd wk R) none), [], ?_⟩
      rw [List.append_nil]
      exact zN (if_tt ht (zN h4 (zN (if_ff (zW (a := false) (wQ rfl rfl rfl) rfl) rfl) rfl))) rfl
    | some j =>
      rw [hf] at h4
      obtain ⟨hj, hlj, _, _⟩ := find_drop (n := 11) (11 - (p + 4)) (p + 4) j (by omega) hf
      have hkj := (hC.key hj hlj).1
      have hm : slE (SF d t av gn dd wk []) j ∈ jG d w (yV d) := (left_perm hC).mem_iff.mp (List.mem_map.mpr ⟨j, List.mem_filter.mpr ⟨List.mem_range.mpr hj, hlj⟩, rfl⟩)
      have hcl : l4C (lR mt W (some (uV mt (q + 3))) a9 (some (.obj i)) a11 a12 a13 (some (nxO mt (SF d t av gn dd wk R) (some j)))) (zE mt (SF d t av gn dd wk R)) = some (.obj (ix mt R), zE mt (SF d t av gn dd wk (R ++ [MO.list ((jG d w (yV d)).map fun e => lawN e.1)]))) := by
        have hll := left_len (d := d) (w := w) (yV d)
        have hk11 := keptD_len (d := d)
        refine jO (wL rfl (listAt_of hi)) (comp_all (us := jG d w (yV d)) (val := prV mt) (g := fun e => lawN e.1) (fun ρ => ∃ x y, ρ = [none, x, y, none]) ⟨none, none, rfl⟩ (by exact Nat.lt_of_le_of_lt ‹_› (Nat.lt_of_le_of_lt ‹_› (by decide))) (jF (listAt_of hi)) fun e he ρ hρ => ?_) (wK (s := SF d t av gn dd wk []) (by rw [List.length_map]; exact Nat.le_trans ‹_› (Nat.le_trans ‹_› (by decide))))
        obtain ⟨x, y, rfl⟩ := hρ
        exact ⟨_, rfl, ⟨_, _, rfl⟩, yJ (es := [zC 1]) rfl (law_number _ (ent_lt (left_in he)).1)⟩
      have hlk := law_number (mt := mt) (s := SF d t av gn dd wk R) (slK (SF d t av gn dd wk R) j) (Nat.lt_trans hkj (by decide))
      have hno := notin_f (lawN_tup (slK (SF d t av gn dd wk R) j)) (yW (mt := mt) (s := SF d t av gn dd wk []) (R := R) (xs := (jG d w (yV d)).map fun e => lawN e.1) (Y := [])) (fun x hx => by
        obtain ⟨e, he, rfl⟩ := List.mem_map.mp hx
        exact lawN_data _ (ent_lt (left_in he)).1) (List.mem_map.mpr ⟨_, hm, rfl⟩)
      have h5 : zX (zR yK [(yB (zC 14) (cE (.int 0)))]) [(.notin, l4C)] (lR mt W (some (uV mt (q + 3))) a9 (some (.obj i)) a11 a12 a13 (some (nxO mt (SF d t av gn dd wk R) (some j)))) (zE mt (SF d t av gn dd wk R)) = some (false, zE mt (SF d t av gn dd wk (R ++ [MO.list ((jG d w (yV d)).map fun e => lawN e.1)]))) :=
        wQ (yJ (vs := [uV mt (slK (SF d t av gn dd wk R) j)]) (σ₁ := zE mt (SF d t av gn dd wk R)) rfl hlk) hcl hno
      exact ⟨_, _, zN (if_tt ht (zN h4 (zN (if_ff (zW (a := true) (wQ rfl rfl rfl) h5) rfl) rfl))) rfl⟩
  · rw [decide_eq_false h] at ht
    refine ⟨a14, [], ?_⟩
    rw [List.append_nil]
    exact zN (if_ff ht rfl) rfl
end
end Mine


section
namespace Mine
noncomputable def sc (s : PS) (c : Nat) : PS := { s with c := c }
noncomputable def lrR (mt : Bool) (x y : Option V) : Rho := [some (.obj (B mt + 14)), some (.obj 3), x, y, none, none, none, none, none, none]
theorem eq_same {σ : H} {i j : Nat} {xs : List V} (h1 : listAt σ (.obj i) = some xs) (h2 : listAt σ (.obj j) = some xs) (hd : ∀ v ∈ xs, jM 3 v = true) : cmpO .eq (.obj i) (.obj j) σ = some true := by
  have hd := dataVs_all hd
  unfold cmpO eqO; dsimp only; rw [h1, h2]; dsimp only
  rw [hd, eqBs_refl hd]; rfl
section
variable {mt : Bool} {s : PS} {R G : H}
theorem lr_item : ∀ r : Nat, r < 6 → itemO (.obj (B mt + 14)) (.int r) (zE mt s) = some (uV mt (10 - r)) := by
  refine yF ?_; cases mt <;> kernel_rfl
theorem lr_draw (hl : s.ns.length ≤ 60) {c : Nat} (hc : c < 1000) {ρ : Rho} {o a : Ex V} (ho : o ρ (zE mt (sc s c)) = some (.obj (B mt + 14), zE mt (sc s c))) (ha : seqE [a, cE (.int 6)] ρ (zE mt (sc s c)) = some ([.obj 3, .int 6], zE mt (sc s c))) : ∃ u, u ∈ wV ∧ yB o (zR yG [a, (cE (.int 6))]) ρ (zE mt (sc s c)) = some (uV mt u, zE mt (sc s (c + 1))) := by
  have h1 := drawn_pre (mt := mt) (s := sc s c) hl hc (b := 6) (by decide)
  obtain ⟨r, hr⟩ := Int.eq_ofNat_of_zero_le (drw_nn s.ns s.t c (b := 6) (by decide))
  have hlt := drw_lt s.ns s.t c (b := 6) (by decide)
  rw [hr] at hlt
  have h1 : yG [.obj 3, .int 6] (zE mt (sc s c)) = some (.int r, zE mt (sc s (c + 1))) := by rw [← hr]; exact h1
  exact ⟨10 - r, (by decide : ∀ r, r < 6 → 10 - r ∈ wV) r (by exact Int.ofNat_lt.mp ‹_›), item_of ho (yJ ha h1) (lr_item r (by exact Int.ofNat_lt.mp ‹_›))⟩
theorem lr_loop (hl : s.ns.length ≤ 60) {n : Nat} (hn : n < 6) : ∀ (m k f c : Nat) (x : Option V) (acc : List Nat), m + k = n → m < f → c + m < 900 → ∃ us, us.length = m ∧ (∀ u ∈ us, u ∈ wV) ∧
    compL (.rng 0 n) (zG 1) [] (yB (zC 3) (zR yG [(zC 4), (cE (.int 6))])) f k [none, x, none, some (.obj (B mt + 14)), some (.obj 3)] (zE mt (sc s c)) (acc.map (uV mt)) = some ((acc ++ us).map (uV mt), zE mt (sc s (c + m)))
  | _, _, 0, _, _, _, _, hf, _ => absurd hf (Nat.not_lt_zero _)
  | 0, k, f + 1, c, x, acc, e, hf, hc => by
    refine ⟨[], rfl, (fun u hu => by cases hu), ?_⟩
    have h := rng_nxt (n := n) (σ := zE mt (sc s c)) k
    rw [List.getElem?_eq_none (by rw [List.length_map, List.length_range]; exact Nat.le_of_eq ((Eq.symm ‹_›).trans (Nat.zero_add _)))] at h
    rw [compL_c, h, List.append_nil]; rfl
  | m + 1, k, f + 1, c, x, acc, e, hf, hc => by
    have h := rng_nxt (n := n) (σ := zE mt (sc s c)) k
    rw [List.getElem?_map, List.getElem?_range (by exact oA ‹_›)] at h
    obtain ⟨u, hu, hd⟩ := lr_draw (mt := mt) (s := s) hl (c := c) (Nat.lt_of_lt_of_le (Nat.lt_of_le_of_lt (Nat.le_add_right _ _) ‹_›) (by decide)) (ρ := [none, some (.int k), none, some (.obj (B mt + 14)), some (.obj 3)]) (o := zC 3) (a := zC 4) rfl rfl
    obtain ⟨us, h1, h2, h3⟩ := lr_loop hl hn m (k + 1) f (c + 1) (some (.int k)) (acc ++ [u]) (by exact oB ‹_›) (Nat.le_of_lt_succ ‹_›) (by exact oD ‹_›)
    refine ⟨u :: us, by rw [List.length_cons, h1], fun v hv => ?_, ?_⟩
    · rcases List.mem_cons.mp hv with rfl | hv
      · exact hu
      · exact h2 v hv
    · rw [List.append_assoc, Nat.add_assoc, Nat.add_comm 1 m] at h3
      rw [compL_c, h]
      show (match yB (zC 3) (zR yG [(zC 4), (cE (.int 6))]) [none, some (.int k), none, some (.obj (B mt + 14)), some (.obj 3)] (zE mt (sc s c)) with | .none => .none | some (x, σ₃) => compL (.rng 0 n) (zG 1) [] (yB (zC 3) (zR yG [(zC 4), (cE (.int 6))])) f (k + 1) [none, some (.int k), none, some (.obj (B mt + 14)), some (.obj 3)] σ₃ (acc.map (uV mt) ++ [x]) : Option (List V × H)) = _
      rw [hd]; dsimp only
      rw [← List.map_singleton (f := uV mt), ← List.map_append]
      exact h3
theorem enm_nxt {σ : H} {i : Nat} {us : List Nat} (h : listAt σ (.obj i) = some (us.map (uV mt))) (k : Nat) : (It.enm i).nxt k σ = some (((List.range us.length).map fun p : Nat => V.tup [.int p, uV mt (us.getD p 15)])[k]?) := by
  show (listAt σ (.obj i)).map (fun xs => xs[k]?.map fun x => V.tup [.int k, x]) = _
  rw [h, List.getElem?_map]
  show some ((us.map (uV mt))[k]?.map _) = _
  rw [List.getElem?_map]
  by_cases hk : k < us.length
  · have e : us.getD k 15 = us[k] := by simp [hk]
    rw [List.getElem?_eq_getElem hk, List.getElem?_range hk]
    show some (some (V.tup [.int k, uV mt us[k]])) = some (some (V.tup [.int k, uV mt (us.getD k 15)]))
    rw [e]
  · rw [List.getElem?_eq_none (Nat.le_of_not_lt ‹_›), List.getElem?_eq_none (by rw [List.length_range]; exact Nat.le_of_not_lt ‹_›)]; rfl
theorem law_places {us : List Nat} {i : Nat} (hu : ∀ u ∈ us, u < 18) (hl : us.length < 100) (h : listAt (zE mt (rs s R)) (.obj i) = some (us.map (uV mt))) {y : Option V} :
    xR (enmI (zC 2)) [none, none, none, none] (jB [(zG 1), (zG 2)]) [(xO (zR yC [(zC 2), (cE (.bool false))]))] (zC 1) (lrR mt (some (.obj i)) y) (zE mt (rs s R)) = some (.obj (ix mt R), zE mt (rs s (R ++ [MO.list (((List.range us.length).filter (lostP s us)).map intN)]))) := by
  have hf := List.length_filter_le (lostP s us) (List.range us.length)
  rw [List.length_range] at hf
  refine jO (i := .enm i) (zW rfl (read_of (by dsimp only; rw [h]; rfl))) (comp_run (us := List.range us.length) (p := lostP s us) (g := intN) (fun ρ => ∃ x y, ρ = [none, x, y, none]) ⟨none, none, rfl⟩ (by rw [List.length_range]; exact hl) (enm_nxt h) fun p hp ρ hρ => ?_) (wK (by rw [List.length_map]; exact Nat.le_trans ‹_› (Nat.le_trans (Nat.le_of_lt ‹_›) (by decide))))
  obtain ⟨x, y, rfl⟩ := hρ
  have hp := List.mem_range.mp hp
  have e : us.getD p 15 = us[p] := by simp [hp]
  have hv := law_is_lost (mt := mt) (s := rs s R) (u := us.getD p 15) (k := false) (by rw [e]; exact hu _ (List.getElem_mem hp))
  rw [Bool.not_false, Bool.true_and] at hv
  refine ⟨_, rfl, ⟨_, _, rfl⟩, zW (jJ (yJ (es := [(zC 2), (cE (.bool false))]) rfl hv)) ?_, fun _ => rfl⟩
  show (if lostP s us p then allT [] else pureE false) _ _ = _
  cases lostP s us p <;> rfl
end
end Mine


section
namespace Mine
section
variable {mt : Bool} {s : PS} {R G : H}
theorem objL_num {u : Nat} (h : u ∈ wV) : getF (uV mt u) .number (zE mt s) = some (.int (numX u)) :=
  num_X (Nat.lt_trans (objL_mem u h) (by decide)) ((by decide : ∀ mt : Bool, ∀ u ∈ wV, obX mt u = true) mt u h)
noncomputable def neP (o u : Nat) : Bool := !(numX u == numX o)
theorem lists_tail {o : Nat} (ho : o ∈ wV) {x : Option V} : ∃ G, zI [yM (cmpE (xR (xJ (zR f_without [(zC 0), (zC 3)])) [none, none] (zG 1) [] (zL (zC 1) .number)) [(.eq, (xR (xJ (zC 0)) [none, none, some 3] (zG 1) [(zX (zL (zC 1) .number) [(.ne, (zL (zC 2) .number))])] (zL (zC 1) .number)))])]
    (lrR mt x (some (uV mt o))) (zE mt (rs s R)) = some (.ret (.bool true), lrR mt x (some (uV mt o)), zE mt (rs s (R ++ G))) := by
  have hlen : ∀ p : Nat → Bool, (wV.filter p).length ≤ 6 := fun p => List.length_filter_le p wV
  have hw : f_without [.obj (B mt + 14), uV mt o] (zE mt (rs s R)) = some (.obj (ix mt R), zE mt (rs s (R ++ [MO.list ((wV.filter (neP o)).map (uV mt))]))) := by
    refine xN (ρ := [some (.obj (B mt + 14)), some (uV mt o)]) rfl (yP (wP (jO (wL rfl objs_at) (comp_run (us := wV) (val := uV mt) (p := neP o) (g := uV mt) (fun ρ => ∃ x, ρ = [none, x, some (uV mt o)]) ⟨none, rfl⟩ (by decide) (jF objs_at) fun u hu ρ hρ => ?_) (wK (by rw [List.length_map]; have := hlen (neP o); exact Nat.le_trans ‹_› (by decide)))))) (by simp)
    obtain ⟨x, rfl⟩ := hρ
    refine ⟨_, rfl, ⟨_, rfl⟩, zW (wQ (attr_of rfl (objL_num hu)) (attr_of rfl (objL_num ho)) (b := neP o u) rfl) ?_, fun _ => rfl⟩
    cases neP o u <;> rfl
  have h1 : xR (xJ (zR f_without [(zC 0), (zC 3)])) [none, none] (zG 1) [] (zL (zC 1) .number) (lrR mt x (some (uV mt o))) (zE mt (rs s R)) = some (.obj (ix mt (R ++ [MO.list ((wV.filter (neP o)).map (uV mt))])), zE mt (rs s (R ++ [MO.list ((wV.filter (neP o)).map (uV mt))] ++ [MO.list ((wV.filter (neP o)).map fun u => V.int (numX u))]))) := by
    refine jO (wL (yJ (es := [(zC 0), (zC 3)]) rfl hw) yW) (comp_all (us := wV.filter (neP o)) (val := uV mt) (fun ρ => ∃ x, ρ = [none, x]) ⟨none, rfl⟩ (by have := hlen (neP o); exact Nat.lt_of_le_of_lt ‹_› (by decide)) (jF yW) fun u hu ρ hρ => ?_) (wK (by rw [List.length_map]; have := hlen (neP o); exact Nat.le_trans ‹_› (by decide)))
    obtain ⟨x, rfl⟩ := hρ
    exact ⟨_, rfl, ⟨_, rfl⟩, attr_of rfl (objL_num (List.mem_filter.mp hu).1)⟩
  have h2 : xR (xJ (zC 0)) [none, none, some 3] (zG 1) [(zX (zL (zC 1) .number) [(.ne, (zL (zC 2) .number))])] (zL (zC 1) .number) (lrR mt x (some (uV mt o))) (zE mt (rs s (R ++ [MO.list ((wV.filter (neP o)).map (uV mt))] ++ [MO.list ((wV.filter (neP o)).map fun u => V.int (numX u))]))) = some (.obj (ix mt (R ++ [MO.list ((wV.filter (neP o)).map (uV mt))] ++ [MO.list ((wV.filter (neP o)).map fun u => V.int (numX u))])), zE mt (rs s (R ++ [MO.list ((wV.filter (neP o)).map (uV mt))] ++ [MO.list ((wV.filter (neP o)).map fun u => V.int (numX u))] ++ [MO.list ((wV.filter (neP o)).map fun u => V.int (numX u))]))) := by
    refine jO (wL rfl objs_at) (comp_run (us := wV) (val := uV mt) (p := neP o) (g := fun u => V.int (numX u)) (fun ρ => ∃ x, ρ = [none, x, some (uV mt o)]) ⟨none, rfl⟩ (by decide) (jF objs_at) fun u hu ρ hρ => ?_) (wK (by rw [List.length_map]; have := hlen (neP o); exact Nat.le_trans ‹_› (by decide)))
    obtain ⟨x, rfl⟩ := hρ
    refine ⟨_, rfl, ⟨_, rfl⟩, zW (wQ (attr_of rfl (objL_num hu)) (attr_of rfl (objL_num ho)) (b := neP o u) rfl) ?_, fun _ => attr_of rfl (objL_num hu)⟩
    cases neP o u <;> rfl
  have l1 : listAt (zE mt (rs s (R ++ [MO.list ((wV.filter (neP o)).map (uV mt))] ++ [MO.list ((wV.filter (neP o)).map fun u => V.int (numX u))] ++ [MO.list ((wV.filter (neP o)).map fun u => V.int (numX u))]))) (.obj (ix mt (R ++ [MO.list ((wV.filter (neP o)).map (uV mt))]))) = some ((wV.filter (neP o)).map fun u => V.int (numX u)) := by
    rw [List.append_assoc]; exact yW
  have h3 := eq_same l1 yW fun v hv => by
    obtain ⟨u, _, rfl⟩ := List.mem_map.mp hv; rfl
  refine ⟨[MO.list ((wV.filter (neP o)).map (uV mt))] ++ [MO.list ((wV.filter (neP o)).map fun u => V.int (numX u))] ++ [MO.list ((wV.filter (neP o)).map fun u => V.int (numX u))], ?_⟩
  rw [← List.append_assoc, ← List.append_assoc]
  exact yP (wP (cmpE_of (wQ h1 h2 h3)))
theorem lists_right (hl : s.ns.length ≤ 60) (hc : s.c < 800) : ∃ σ', f__law_lists_right [.obj (B mt + 14), .obj 3] (zE mt (rs s R)) = some (.bool true, σ') := by
  have hd := drawn_pre (mt := mt) (s := rs s R) hl (by show s.c < 1000; exact Nat.lt_of_lt_of_le ‹_› (by decide)) (b := 5) (by decide)
  obtain ⟨n, hn⟩ := Int.eq_ofNat_of_zero_le (drw_nn s.ns s.t s.c (b := 5) (by decide))
  have hlt := drw_lt s.ns s.t s.c (b := 5) (by decide)
  rw [hn] at hlt
  rw [show drw (rs s R).ns (rs s R).t (rs s R).c 5 = n from hn] at hd
  have hn5 : n < 5 := by exact Int.ofNat_lt.mp ‹_›
  obtain ⟨us, u1, u2, hL⟩ := lr_loop (mt := mt) (s := rs s R) hl (n := n) (Nat.lt_of_lt_of_le ‹_› (by decide)) n 0 100 (s.c + 1) none [] rfl (Nat.lt_of_lt_of_le ‹_› (by decide)) (by omega)
  have hlu : us.length < 10 := by omega
  have hu18 : ∀ u ∈ us ++ [16, 17], u < 18 := fun u hu => by
    rcases List.mem_append.mp hu with h | h
    · exact objL_mem u (u2 u h)
    · exact (by decide : ∀ u ∈ [16, 17], u < 18) u h
  generalize hs2 : sc s (s.c + 1 + n) = s2 at *
  have hs2' : sc (rs s R) (s.c + 1 + n) = rs s2 R := by rw [← hs2]; rfl
  rw [hs2'] at hL
  have h1 : xR (rngI (cE (.int 0)) (zR yG [(zC 1), (cE (.int 5))])) [none, none, none, some 0, some 1] (zG 1) [] (yB (zC 3) (zR yG [(zC 4), (cE (.int 6))])) (lrR mt none none) (zE mt (rs s R)) = some (.obj (ix mt R), zE mt (rs s2 (R ++ [MO.list (us.map (uV mt))]))) := by
    refine jO (i := .rng 0 n) (zW rfl (zW (yJ (es := [(zC 1), (cE (.int 5))]) rfl hd) ?_)) hL (wK (by rw [List.nil_append, List.length_map]; exact Nat.le_trans (Nat.le_of_lt ‹_›) (by decide)))
    dsimp only; rw [small_len (Nat.lt_of_lt_of_le ‹_› (by decide))]; rfl
  have h2 : xM [(cE (.str [116, 101, 120, 116])), (cE (.int 4))] (lrR mt none none) (zE mt (rs s2 (R ++ [MO.list (us.map (uV mt))]))) = some (.obj (ix mt (R ++ [MO.list (us.map (uV mt))])), zE mt (rs s2 (R ++ [MO.list (us.map (uV mt))] ++ [MO.list ([16, 17].map (uV mt))]))) :=
    zW rfl (wK (xs := [16, 17].map (uV mt)) (Nat.le_of_ble_eq_true rfl))
  have l1 : listAt (zE mt (rs s2 (R ++ [MO.list (us.map (uV mt))] ++ [MO.list ([16, 17].map (uV mt))]))) (.obj (ix mt R)) = some (us.map (uV mt)) := by rw [List.append_assoc]; exact yW
  have l2 : listAt (zE mt (rs s2 (R ++ [MO.list (us.map (uV mt))] ++ [MO.list ([16, 17].map (uV mt))]))) (.obj (ix mt (R ++ [MO.list (us.map (uV mt))]))) = some ([16, 17].map (uV mt)) := yW
  have hadd : binO .add (.obj (ix mt R)) (.obj (ix mt (R ++ [MO.list (us.map (uV mt))]))) (zE mt (rs s2 (R ++ [MO.list (us.map (uV mt))] ++ [MO.list ([16, 17].map (uV mt))]))) = some (.obj (ix mt (R ++ [MO.list (us.map (uV mt))] ++ [MO.list ([16, 17].map (uV mt))])), zE mt (rs s2 (R ++ [MO.list (us.map (uV mt))] ++ [MO.list ([16, 17].map (uV mt))] ++ [MO.list ((us ++ [16, 17]).map (uV mt))]))) := by
    unfold binO; dsimp only; rw [if_pos rfl, l1, l2]; dsimp only
    rw [← List.map_append]
    exact wK (by rw [List.length_map, List.length_append]; simp; exact Nat.le_trans (Nat.le_of_lt ‹_›) (by decide))
  have h3 := wF (i := 2) (ρ' := lrR mt (some (.obj (ix mt (R ++ [MO.list (us.map (uV mt))] ++ [MO.list ([16, 17].map (uV mt))])))) none) (bin_of h1 h2 hadd) rfl
  generalize R ++ [MO.list (us.map (uV mt))] ++ [MO.list ([16, 17].map (uV mt))] = R3 at *
  have hl2 : (us ++ [16, 17]).length < 100 := by rw [List.length_append]; simp; exact Nat.lt_of_lt_of_le (Nat.add_lt_add_right ‹_› _) (by decide)
  generalize us ++ [16, 17] = vs at *
  have h4 := lost_places (mt := mt) (s := s2) (R := R3 ++ [MO.list (vs.map (uV mt))]) hu18 hl2 yW
  have h5 := law_places (mt := mt) (s := s2) (R := R3 ++ [MO.list (vs.map (uV mt))] ++ [MO.list (((List.range vs.length).filter (lostP s2 vs)).map intN)]) hu18 hl2 (i := ix mt R3) (by rw [List.append_assoc]; exact yW) (y := none)
  have l3 : listAt (zE mt (rs s2 (R3 ++ [MO.list (vs.map (uV mt))] ++ [MO.list (((List.range vs.length).filter (lostP s2 vs)).map intN)] ++ [MO.list (((List.range vs.length).filter (lostP s2 vs)).map intN)]))) (.obj (ix mt (R3 ++ [MO.list (vs.map (uV mt))]))) = some (((List.range vs.length).filter (lostP s2 vs)).map intN) := by
    rw [List.append_assoc]; exact yW
  have h6 := ne_same l3 yW fun v hv => by
    obtain ⟨p, _, rfl⟩ := List.mem_map.mp hv; rfl
  have h7 := wQ (yJ (ρ := lrR mt (some (.obj (ix mt R3))) none) (es := [(zC 2), (cE (.fn 1))]) rfl h4) h5 h6
  generalize R3 ++ [MO.list (vs.map (uV mt))] ++ [MO.list (((List.range vs.length).filter (lostP s2 vs)).map intN)] ++ [MO.list (((List.range vs.length).filter (lostP s2 vs)).map intN)] = R4 at *
  have e2 : rs s2 R4 = sc (rs s R4) (s.c + 1 + n) := by rw [← hs2]; rfl
  rw [e2] at h7
  obtain ⟨u, hu, h8⟩ := lr_draw (mt := mt) (s := rs s R4) hl (c := s.c + 1 + n) (by omega) (ρ := lrR mt (some (.obj (ix mt R3))) none) (o := zC 0) (a := zC 1) rfl rfl
  obtain ⟨G, h9⟩ := lists_tail (mt := mt) (s := sc s (s.c + 1 + n + 1)) (R := R4) hu (x := some (.obj (ix mt R3)))
  exact ⟨_, xN rfl (zN h3 (zN (if_ff h7 rfl) (zN (wF h8 rfl) h9))) (by simp)⟩
end
end Mine


section
namespace Mine
section
variable {mt : Bool} {d : D} {t : Tb} {av : Nat → Nat} {gn : Nat → Bool} {dd : Nat → Option Nat} {wk : V} {R G : H} {w : List UInt8} {s : PS}
theorem lw14_run {W : List Nat} {i j : Nat} {a8 a9 a12 a13 a14 : Option V} (hC : Cld mt d t w av gn dd wk R) (hi : (zE mt (SF d t av gn dd wk R))[i]? = some (MO.list ((jG d w (yV d)).map (prV mt)))) (hj : (zE mt (SF d t av gn dd wk R))[j]? = some (MO.list ((goneL d w (yV d)).map (prV mt)))) :
    ∃ b8 b9 b14 X, lw14 (lR mt W a8 a9 (some (.obj i)) (some (.obj j)) a12 a13 a14) (zE mt (SF d t av gn dd wk R)) = some (.next, lR mt W b8 b9 (some (.obj i)) (some (.obj j)) a12 a13 b14, zE mt (SF d t av gn dd wk (R ++ X))) := by
  have hgl := gone_len (d := d) (w := w) (yV d)
  have hk11 := keptD_len (d := d)
  have hgm : ∀ e ∈ goneL d w (yV d), e ∈ yV d := fun e he => (List.mem_filter.mp he).1
  generalize goneL d w (yV d) = L at *
  obtain ⟨ρ', σ', h1, b8, b9, b14, X, rfl, rfl⟩ := for_inv (it := .lst j) (tg := jB [(zG 8), (zG 9)]) (b := l4B) (us := L.map (prV mt))
    (fun k ρ σ => ∃ b8 b9 b14 X, ρ = lR mt W b8 b9 (some (.obj i)) (some (.obj j)) a12 a13 b14 ∧ σ = zE mt (SF d t av gn dd wk (R ++ X)))
    (fun k ρ σ ⟨b8, b9, b14, X, e1, e2⟩ => by subst e2; exact jF (listAt_of (rs_more (s := SF d t av gn dd wk []) hj)) k)
    (fun k hk ρ σ ⟨b8, b9, b14, X, e1, e2⟩ => by
      have hk : k < L.length := by simpa using hk
      subst e1; subst e2
      obtain ⟨c14, Y, h⟩ := l4_turn (mt := mt) (W := W) (i := i) (a9 := some (uV mt (L[k]).2)) (a11 := some (.obj j)) (a12 := a12) (a13 := a13) (a14 := b14) (hC.more (X := X)) (rs_more (s := SF d t av gn dd wk []) hi) (hgm _ (List.getElem_mem hk))
      rw [List.append_assoc] at h
      exact ⟨_, _, _, _, by rw [List.getElem_map]; rfl, h, _, _, c14, X ++ Y, rfl, rfl⟩)
    100 0 (lR mt W a8 a9 (some (.obj i)) (some (.obj j)) a12 a13 a14) _ ⟨a8, a9, a14, [], rfl, by rw [List.append_nil]⟩ (Nat.zero_le _) (by rw [List.length_map]; exact Nat.lt_of_le_of_lt ‹_› (Nat.lt_of_le_of_lt ‹_› (by decide)))
  exact ⟨b8, b9, b14, X, for_of (wL rfl (listAt_of hj)) h1⟩
theorem law_rest (hns : d.ns.length ≤ 60) (hk : d.fm < 6) (hg : Good (fun i => d.vv (i + 3) != 15) t) (y8 y9 : Option V) : ∃ ρ' σ', zI lawZ (lR mt (wz mt d.fm) y8 y9 none none none none none) (zE mt (SF d t (avq d.vv 3) noG noD (.bytes []) [])) = some (.ret (.bool true), ρ', σ') := by
  obtain ⟨hz, hc⟩ := wz_s (mt := mt) hk
  rw [hz]
  obtain ⟨G1, h7⟩ := lw7_run (mt := mt) (wk := .bytes []) (x8 := y8) (x9 := y9) hg hk
  generalize wc mt d.fm = c at *
  obtain ⟨G2, h8⟩ := lw8_run (mt := mt) (s := SF d t (avq d.vv 3) noG noD (.bytes (w4 c)) []) (R := G1) (w := sS c) (a8 := y8) (a9 := y9) (a10 := none) (a11 := none) (a12 := none) (a13 := none) (a14 := none)
  have ha : ∀ i, avq d.vv 3 i < 18 := fun i => by unfold avq; split; · exact vv_lt _
                                                  · decide
  obtain ⟨av', gn, dd, G3, hav, hI, h9⟩ := clear_spec (mt := mt) (d := d) (t := t) (av := avq d.vv 3) (R := G2) hc hg.keys ha
  have hC : Cld mt d t (w4 c) av' gn dd (.bytes (w4 c)) G3 := ⟨hg, fun i hi => by
    rw [hav i hi]; unfold avC; rw [show avq d.vv 3 i = d.vv i from if_pos hi], hI⟩
  have h10 := lw10_run (mt := mt) (d := d) (t := t) (av := av') (gn := gn) (dd := dd) (wk := .bytes (w4 c)) (R := G3) (x8 := y8) (x9 := y9) (w := sS c)
  obtain ⟨z8, z9, z12, z13, h11⟩ := lw11_run (mt := mt) (d := d) (t := t) (av := av') (gn := gn) (dd := dd) (wk := .bytes (w4 c)) (R := G3) (x8 := y8) (x9 := y9) hc
  have hC11 : Cld mt d t (w4 c) av' gn dd (.bytes (w4 c)) (lgG mt G3 (jG d (w4 c) (yV d)) (goneL d (w4 c) (yV d))) := hC.more
  have hgl := gone_len (d := d) (w := w4 c) (yV d)
  have hk11 := keptD_len (d := d)
  have h12 := lw12_run (mt := mt) (R := G3) (y8 := z8) (y9 := z9) (y12 := z12) (y13 := z13) (c := c) hC11 (fun e he => List.mem_filter.mp he) (by exact Nat.lt_of_le_of_lt ‹_› (Nat.lt_of_le_of_lt ‹_› (by decide)))
  have hi1 : (zE mt (SF d t av' gn dd (.bytes (w4 c)) (lgG mt G3 (jG d (w4 c) (yV d)) (goneL d (w4 c) (yV d)))))[ix mt G3]? = some (MO.list ((jG d (w4 c) (yV d)).map (prV mt))) := rs_get (s := SF d t av' gn dd (.bytes (w4 c)) [])
  have hj1 : (zE mt (SF d t av' gn dd (.bytes (w4 c)) (lgG mt G3 (jG d (w4 c) (yV d)) (goneL d (w4 c) (yV d)))))[ix mt G3 + 1]? = some (MO.list ((goneL d (w4 c) (yV d)).map (prV mt))) := by
    have := rs_get (mt := mt) (s := SF d t av' gn dd (.bytes (w4 c)) []) (R := G3 ++ [MO.list ((jG d (w4 c) (yV d)).map (prV mt))]) (m := MO.list ((goneL d (w4 c) (yV d)).map (prV mt))) (Y := [])
    rwa [ix_snoc, List.append_assoc] at this
  generalize lgG mt G3 (jG d (w4 c) (yV d)) (goneL d (w4 c) (yV d)) = R11 at *
  have hC12 := hC11.more (X := [MO.list [], MO.list []])
  have hi2 := rs_more (s := SF d t av' gn dd (.bytes (w4 c)) []) (X := [MO.list [], MO.list []]) hi1
  have hj2 := rs_more (s := SF d t av' gn dd (.bytes (w4 c)) []) (X := [MO.list [], MO.list []]) hj1
  obtain ⟨X13, h13⟩ := lw13_run (c := c) (a8 := z8) (a9 := z9) (a11 := some (.obj (ix mt G3 + 1))) (a12 := z12) (a13 := z13) (a14 := none) hC12 hi2
  obtain ⟨b8, b9, b14, X14, h14⟩ := lw14_run (W := sS c) (a8 := z8) (a9 := z9) (a12 := z12) (a13 := z13) (a14 := none) (hC12.more (X := X13)) (rs_more (s := SF d t av' gn dd (.bytes (w4 c)) []) (X := X13) hi2) (rs_more (s := SF d t av' gn dd (.bytes (w4 c)) []) (X := X13) hj2)
  have hcc := cnt_le d.ns d.t 11
  obtain ⟨σ', h15⟩ := lists_right (mt := mt) (s := SF d t av' gn dd (.bytes (w4 c)) []) (R := R11 ++ [MO.list [], MO.list []] ++ X13 ++ X14) hns (by show cnt d.ns d.t 11 < 800; exact Nat.lt_of_le_of_lt ‹_› (by decide))
  exact ⟨_, σ', zN lw6_run (zN h7 (zN h8 (zN (expr_of (yJ (es := [zC 5]) rfl h9)) (zN h10 (zN h11 (zN h12 (zN h13 (zN h14 (yP (wP (yJ (es := [(zC 4), (zC 1)]) rfl h15)))))))))))⟩
end
theorem law_true {xs : List Int} (hl : xs.length ≤ 1000) : ∃ σ', f_law [.obj 0] [.list (xs.map .int)] = some (.bool true, σ') := by
  obtain ⟨mt, d, k, t, y8, y9, hns, rfl, hk, hg, h⟩ := law_start hl
  obtain ⟨ρ', σ', hr⟩ := law_rest (mt := mt) hns hk hg y8 y9
  exact ⟨σ', h _ ρ' σ' hr⟩
end Mine


section
open PySem PySem.W PySem.Calls PyProof.Rows Lean
namespace Mine
noncomputable abbrev pg : Program := PySem.Challenge.pw_rr0068_01
noncomputable def bodyP : List Stmt := PySem.Challenge.pw_rr0068_01.main.body
noncomputable def envP : Env := { scope := PySem.Challenge.pw_rr0068_01.main.scope, locals := mainNs, globals := mainNs, cells := [], code := .ref 13, frame := some 14 }
noncomputable def pos0 : Pos := { line := 0, col := 0, endLine := 0, endCol := 0 }
noncomputable def codeP : Code := .body PySem.Challenge.pw_rr0068_01.main.body envP
noncomputable def cdO : Obj := { cls := .type "code", data := .fields #[.str (Str.ofString "<module>") 182, .str (Str.ofString "<module>") 183, .str (Str.ofString "/claim/cut.py") 184, .int 1 0, .int 0 0, .int 0 0, .int 0 0, .int 0 0, .ref 11, .bool false, .int 181 0, .ref 12, .none, .none, .none, .none, .int 185 0, .int 1 0, .str (Str.ofString "/claim/cut.py") 186] }
noncomputable def frO : Obj := { cls := .type "frame", slots := #[some (.ref 13), some (.ref 3), some (.ref 3), none, some (.str (Str.ofString "__main__") 164), none, some (.ref 0)] }
noncomputable def tupE0 : Obj := { cls := .type "tuple", data := .seq #[] }
noncomputable def fldE0 : Obj := { cls := .none, data := .fields #[] }
noncomputable def T0 (P : Params) : BT := .node (boot_o_0 P)
  (.node (boot_o_1 P) (.node (boot_o_3 P) (.node (boot_o_7 P) .nil .nil) (.node tupE0 .nil .nil)) (.node (boot_o_5 P) (.node (boot_o_9 P) .nil .nil) (.node cdO .nil .nil)))
  (.node (boot_o_2 P) (.node (boot_o_4 P) (.node (boot_o_8 P) .nil .nil) (.node fldE0 .nil .nil)) (.node (boot_o_6 P) (.node (boot_o_10 P) .nil .nil) (.node frO .nil .nil)))
noncomputable def S0 (w : World) (os : OsState) : SharedT := ⟨T0 w.params, 15, {}, #[], {}, 187, os⟩
noncomputable def annP : Option Value := some (.ref 6)
noncomputable def B0 : List Frame := [topFrame pos0]
theorem hd_pre_tw (w : World) (os : OsState) : PySem.W.Fast.tw15667345088766844465 PySem.W.Fast.tw14364793385576792824 pg w 11 annP 12 ⟨boot_heap w.params, Array.mk [], boot_drawn, boot_toks, os⟩ (topStub pg) = some ((S0 w os).abs, ⟨PySem.W.Fast.tw11892475500146522536 PySem.W.Fast.tw14364793385576792824 codeP, codeP, pos0, B0⟩) := by kernel_rfl
theorem hd_pre (w : World) (os : OsState) : topGo treeTable pg w 11 annP 12 ⟨boot_heap w.params, Array.mk [], boot_drawn, boot_toks, os⟩ (topStub pg) = some ((S0 w os).abs, ⟨denote treeTable codeP, codeP, pos0, B0⟩) := by
  have h := hd_pre_tw w os
  rw [← PySem.W.Fast.te15667345088766844465, ← PySem.W.Fast.te14364793385576792824, ← PySem.W.Fast.te11892475500146522536] at h
  exact h
theorem hd_block (w : World) (s : Shared) : segRun treeTable pg w 11 annP 1 1 s (blockOf bodyP envP codeP pos0 B0) = some (.next, s, codeP, pos0) := by kernel_rfl
theorem hd_fin (w : World) (s : Shared) (p : Pos) : topRun treeTable pg w 11 annP 2 s ⟨doneF .next, codeP, p, B0⟩ = some s := by
  cases s; kernel_rfl
theorem hd_open : opening pg = plainProg pg.main.scope.names := by kernel_rfl
theorem hd_fence (s : Shared) : fenceModules? pg s = some s := by kernel_rfl
end Mine


section
open PySem PySem.W PySem.Calls PyProof.Rows Lean
namespace Mine
noncomputable def alt : List Obj → List Obj
  | a :: _ :: r => a :: alt r
  | l => l
noncomputable def bt : Nat → List Obj → BT
  | d + 1, o :: l => .node o (bt d (alt l)) (bt d (alt l.tail))
  | _, _ => .nil
noncomputable def fill (f : Nat → Obj) : Nat → Nat → Frag → List Obj
  | n + 1, a, (b, o) :: r => match Nat.beq a b with
    | true => o :: fill f n (a + 1) r
    | false => f a :: fill f n (a + 1) ((b, o) :: r)
  | n + 1, a, [] => f a :: fill f n (a + 1) []
  | 0, _, _ => []
noncomputable def codesP : List (Int × Addr) := [(1, 20), (5, 27), (29, 34), (35, 54), (42, 75), (46, 96), (48, 103), (62, 110), (64, 117), (73, 124), (80, 131), (86, 138), (94, 145), (115, 193), (137, 241), (146, 260), (212, 379), (247, 419), (251, 440), (262, 468), (264, 475), (281, 482), (287, 489), (542, 695), (574, 743), (577, 750), (579, 755), (581, 762), (588, 769), (597, 776), (599, 781), (601, 788), (616, 795), (628, 802), (634, 809), (636, 816), (638, 823), (642, 828), (650, 833), (653, 838), (656, 845), (660, 852), (668, 857), (675, 864), (677, 871), (681, 876), (690, 883), (699, 888), (705, 893)]
noncomputable def kM (P : Params) (k : Nat) (nm : String) (tk j m : Nat) : Frag := match kP P with
  | (_, o2) :: (_, ⟨c, d, .dict es _, sl⟩) :: r =>
    [(0, boot_o_0 P), (1, boot_o_1 P), (2, o2), (3, ⟨c, d, .dict ((⟨PyData.keyHash P (Str.ofString "__name__"), vS "__name__" 165, vS nm tk⟩ :: (es.toList.tail.take k)).toArray) (k + 1), sl⟩), (4, boot_o_4 P), (5, boot_o_5 P), (6, boot_o_6 P), (7, boot_o_7 P), (8, boot_o_8 P), (9, boot_o_9 P), (10, boot_o_10 P), (11, tupE0),
      (12, { cls := .none, data := .fields ((codesP.take j).flatMap fun p => [.int p.1 0, .int 0 0, .ref p.2]).toArray }), (13, cdO), (14, frO)] ++
    r.flatMap fun p => match Nat.beq p.1 65, Nat.beq p.1 893, p.2 with
      | true, _, ⟨c, d, .cls x, sl⟩ => [(p.1, ⟨c, d, .cls { x with subclasses := x.subclasses.take m }, sl⟩)]
      | _, true, o => [(890, tupE0), (891, fldE0), (p.1, o)]
      | _, _, o => [(p.1, o)]
  | _ => []
noncomputable abbrev RunR := Option (Flow × SharedT × Code × Pos)
noncomputable def objOf (r : RunR) (a : Nat) : Obj := match r with
  | some (_, s, _, _) => (s.tree.get a).getD default
  | none => default
noncomputable def SM (w : World) (os : OsState) (f : Nat → Obj) (n tk : Nat) (K : Frag) : SharedT := ⟨bt 11 (fill f n 0 K), n, {}, #[], {}, tk, os⟩
noncomputable abbrev run1 (w : World) (s : SharedT) (l : List Stmt) (p : Pos) : RunR := PySem.W.Fast.tw10110043849684766642 PySem.W.Fast.tw14364793385576792824 pg w 11 annP 1 3000 s ⟨(PySem.W.Fast.tw12563942051412417395 l envP).wrap doneF deadEnd id id, codeP, p, B0⟩
noncomputable abbrev M1 (w : World) (os : OsState) (f : Nat → Obj) : SharedT := SM w os f 126 369 (kM w.params 31 "lua.values" 207 10 0)
noncomputable abbrev p1 : Pos := ⟨73, 0, 79, 16⟩
noncomputable abbrev b1 : List Stmt := (bodyP.drop 0).take 25
noncomputable abbrev M2 (w : World) (os : OsState) (f : Nat → Obj) : SharedT := SM w os f 236 524 (kM w.params 40 "lua.objects" 384 14 2)
noncomputable abbrev p2 : Pos := ⟨115, 0, 136, 16⟩
noncomputable abbrev b2 : List Stmt := (bodyP.drop 25).take 10
noncomputable abbrev M3 (w : World) (os : OsState) (f : Nat → Obj) : SharedT := SM w os f 374 709 (kM w.params 42 "lua.objects" 384 16 4)
noncomputable abbrev p3 : Pos := ⟨146, 0, 210, 17⟩
noncomputable abbrev b3 : List Stmt := (bodyP.drop 35).take 2
noncomputable abbrev M4 (w : World) (os : OsState) (f : Nat → Obj) : SharedT := SM w os f 484 890 (kM w.params 55 "lua.tables" 773 22 5)
noncomputable abbrev p4 : Pos := ⟨281, 0, 286, 12⟩
noncomputable abbrev b4 : List Stmt := (bodyP.drop 37).take 15
noncomputable abbrev M5 (w : World) (os : OsState) (f : Nat → Obj) : SharedT := SM w os f 690 1198 (kM w.params 56 "lua.upvals" 1196 23 6)
noncomputable abbrev p5 : Pos := ⟨540, 0, 540, 8⟩
noncomputable abbrev b5 : List Stmt := (bodyP.drop 52).take 2
noncomputable abbrev M6 (w : World) (os : OsState) (f : Nat → Obj) : SharedT := SM w os f 757 1289 (kM w.params 63 "lua.weaks" 1272 27 7)
noncomputable abbrev p6 : Pos := ⟨579, 0, 580, 73⟩
noncomputable abbrev b6 : List Stmt := (bodyP.drop 54).take 9
noncomputable abbrev M7 (w : World) (os : OsState) (f : Nat → Obj) : SharedT := SM w os f 895 1472 (kM w.params 88 "law_rr0068_01" 1395 49 7)
noncomputable abbrev p7 : Pos := ⟨705, 0, 737, 42⟩
noncomputable abbrev b7 : List Stmt := (bodyP.drop 63).take 28
theorem seg1 (w : World) (os : OsState) : run1 w (S0 w os) b1 pos0 = some (.next, M1 w os (objOf (run1 w (S0 w os) b1 pos0)), codeP, p1) := by kernel_rfl
theorem seg2 (w : World) (os : OsState) (f : Nat → Obj) : run1 w (M1 w os f) b2 p1 = some (.next, M2 w os (objOf (run1 w (M1 w os f) b2 p1)), codeP, p2) := by kernel_rfl
theorem seg3 (w : World) (os : OsState) (f : Nat → Obj) : run1 w (M2 w os f) b3 p2 = some (.next, M3 w os (objOf (run1 w (M2 w os f) b3 p2)), codeP, p3) := by kernel_rfl
theorem seg4 (w : World) (os : OsState) (f : Nat → Obj) : run1 w (M3 w os f) b4 p3 = some (.next, M4 w os (objOf (run1 w (M3 w os f) b4 p3)), codeP, p4) := by kernel_rfl
theorem seg5 (w : World) (os : OsState) (f : Nat → Obj) : run1 w (M4 w os f) b5 p4 = some (.next, M5 w os (objOf (run1 w (M4 w os f) b5 p4)), codeP, p5) := by kernel_rfl
theorem seg6 (w : World) (os : OsState) (f : Nat → Obj) : run1 w (M5 w os f) b6 p5 = some (.next, M6 w os (objOf (run1 w (M5 w os f) b6 p5)), codeP, p6) := by kernel_rfl
theorem seg7 (w : World) (os : OsState) (f : Nat → Obj) : run1 w (M6 w os f) b7 p6 = some (.next, M7 w os (objOf (run1 w (M6 w os f) b7 p6)), codeP, p7) := by kernel_rfl
noncomputable def asP : List Addr := [2, 3, 27, 28, 61, 62, 64, 65, 85, 86, 96, 97, 103, 104, 110, 111, 117, 118, 124, 125, 131, 132, 138, 139, 184, 185, 200, 201, 232, 233, 248, 249, 251, 252, 370, 371, 410, 411, 426, 427, 429, 430, 447, 448, 454, 455, 457, 458, 468, 469, 475, 476, 482, 483, 491, 497, 498, 504, 505, 511, 512, 518, 519, 525, 526, 532, 533, 539, 540, 546, 547, 567, 568, 574, 575, 581, 582, 588, 589, 595, 596, 602, 603, 604, 610, 611, 617, 618, 622, 623, 636, 637, 643, 644, 650, 651, 671, 672, 686, 687, 734, 735, 743, 744, 750, 751, 755, 756, 762, 763, 769, 770, 776, 777, 781, 782, 788, 789, 795, 796, 809, 810, 816, 817, 823, 824, 828, 829, 833, 834, 838, 839, 845, 846, 852, 853, 857, 858, 864, 865, 871, 872, 876, 877, 883, 884, 888, 889, 893, 894]
noncomputable def hookP : Hook := kHook kP asP fun _ => by kernel_rfl
theorem look1 (w : World) (os : OsState) (f : Nat → Obj) : (staticsOk (importedModules pg.main.body) (boot_heap w.params) (M7 w os f).abs.heap && namesBound pg (M7 w os f).abs.heap && gensDone (M7 w os f).abs && laidKept (boot_heap w.params) (M7 w os f).abs.heap) = true := by kernel_rfl
theorem look2 (w : World) (os : OsState) (f : Nat → Obj) : openSeen qP looseP (importedModules pg.main.body) (fun _ => true) true (M7 w os f).abs = openGood qP looseP := by kernel_rfl
theorem look3 (w : World) (os : OsState) (f : Nat → Obj) : (asP.map fun a => ((M7 w os f).tree.get a).bind alive) = (kP w.params).map fun p => some p.2 := by kernel_rfl
theorem gets_of {t : BT} {n : Nat} {life : Life} : ∀ {as : List Nat} {K : Frag}, (as.all fun a => Nat.blt a n) = true → (as.map fun a => (t.get a).bind alive) = (K.map fun p => some p.2) → as.map (absHeap t n life).get? = K.map fun p => some p.2
  | [], _, _, e => e
  | a :: as, [], _, e => by cases e
  | a :: as, p :: K, h, e => by
    obtain ⟨h1, h2⟩ := Bool.and_eq_true_iff.mp h
    obtain ⟨e1, e2⟩ := List.cons.inj e
    obtain ⟨o, g, e3⟩ := Option.bind_eq_some_iff.mp e1
    exact List.cons_eq_cons.mpr ⟨(abs_get (Nat.le_of_ble_eq_true h1) g).trans e3, gets_of h2 e2⟩
theorem segs {w : World} {s s' : SharedT} {r : Shared} {l rest : List Stmt} {p p' : Pos} {N : Nat} (h : PySem.W.Fast.tw10110043849684766642 PySem.W.Fast.tw14364793385576792824 pg w 11 annP 1 3000 s ⟨(PySem.W.Fast.tw12563942051412417395 l envP).wrap doneF deadEnd id id, codeP, p, B0⟩ = some (.next, s', codeP, p'))
    (k : topRun treeTable pg w 11 annP N s'.abs (restOf rest envP codeP p' B0) = some r) : topRun treeTable pg w 11 annP (3000 + N) s.abs (restOf (l ++ rest) envP codeP p B0) = some r := by
  rw [← PySem.W.Fast.te10110043849684766642, ← PySem.W.Fast.te14364793385576792824, ← PySem.W.Fast.te12563942051412417395] at h
  exact piece_app (segRun_of h) k
theorem body_segs : bodyP = b1 ++ (b2 ++ (b3 ++ (b4 ++ (b5 ++ (b6 ++ (b7 ++ [])))))) := by kernel_rfl
noncomputable abbrev f1 (w : World) (os : OsState) : Nat → Obj := objOf (run1 w (S0 w os) b1 pos0)
noncomputable abbrev f2 (w : World) (os : OsState) : Nat → Obj := objOf (run1 w (M1 w os (f1 w os)) b2 p1)
noncomputable abbrev f3 (w : World) (os : OsState) : Nat → Obj := objOf (run1 w (M2 w os (f2 w os)) b3 p2)
noncomputable abbrev f4 (w : World) (os : OsState) : Nat → Obj := objOf (run1 w (M3 w os (f3 w os)) b4 p3)
noncomputable abbrev f5 (w : World) (os : OsState) : Nat → Obj := objOf (run1 w (M4 w os (f4 w os)) b5 p4)
noncomputable abbrev f6 (w : World) (os : OsState) : Nat → Obj := objOf (run1 w (M5 w os (f5 w os)) b6 p5)
noncomputable abbrev f7 (w : World) (os : OsState) : Nat → Obj := objOf (run1 w (M6 w os (f6 w os)) b7 p6)
theorem run_segs (w : World) (os : OsState) (N : Nat) (r : Shared) (k : topRun treeTable pg w 11 annP N (M7 w os (f7 w os)).abs (restOf [] envP codeP p7 B0) = some r) : topRun treeTable pg w 11 annP (21000 + N) (S0 w os).abs (restOf bodyP envP codeP pos0 B0) = some r := by
  rw [body_segs, show 21000 + N = 3000 + (3000 + (3000 + (3000 + (3000 + (3000 + (3000 + N)))))) by omega]
  exact segs (seg1 w os) (segs (seg2 w os (f1 w os)) (segs (seg3 w os (f2 w os)) (segs (seg4 w os (f3 w os)) (segs (seg5 w os (f4 w os)) (segs (seg6 w os (f5 w os)) (segs (seg7 w os (f6 w os)) k))))))
theorem hd_run (w : World) (os : OsState) : ∃ s p, (∀ (N : Nat) (r : Shared), topRun treeTable pg w 11 annP N s (restOf [] envP codeP p B0) = some r → topRun treeTable pg w 11 annP (21000 + N) (S0 w os).abs (restOf bodyP envP codeP pos0 B0) = some r) ∧
    (staticsOk (importedModules pg.main.body) (boot_heap w.params) s.heap && namesBound pg s.heap && gensDone s && laidKept (boot_heap w.params) s.heap) = true ∧
    openSeen qP looseP (importedModules pg.main.body) (fun _ => true) true s = openGood qP looseP ∧ asP.map s.heap.get? = (kP w.params).map fun p => some p.2 := by
  exact ⟨(M7 w os (f7 w os)).abs, p7, run_segs w os, look1 w os _, look2 w os _, gets_of (by kernel_rfl) (look3 w os _)⟩
theorem hd_size (w : World) : ((boot_heap w.params).isNs mainGlobals && (Array.mk [] : Array GenState).size == 0, (boot_heap w.params).objs.size, (boot_heap w.params).nsMap mainGlobals "__annotations__") = (true, 11, annP) := by kernel_rfl
theorem left_of {p q : Program} {loose : List PySem.Str} {α : Type} {Yf : Shared → α} {Ya : World → α} {b : List Stmt} {env : Env} {pos : Pos} {ann : Option Value} {m₀ n₁ n₂ : Nat} {S : World → OsState → Shared}
    (ho : opening p = plainProg p.main.scope.names) (hN : Nat.ble 600 (n₁ + (1 + (n₂ + 2))) = true) (hf : ∀ s, fenceModules? p s = some s)
    (hp : ∀ (w : World) (os : OsState), topGo treeTable p w m₀ ann n₁ ⟨boot_heap w.params, Array.mk [], boot_drawn, boot_toks, os⟩ (topStub p) = some (S w os, ⟨denote treeTable (.body b env), .body b env, pos, [topFrame pos]⟩))
    (hb : ∀ (w : World) (s : Shared), segRun treeTable p w m₀ ann 1 1 s (blockOf b env (.body b env) pos [topFrame pos]) = some (.next, s, .body b env, pos))
    (hd : ∀ (w : World) (s : Shared) (p' : Pos), topRun treeTable p w m₀ ann 2 s ⟨doneF .next, .body b env, p', [topFrame pos]⟩ = some s)
    (hr : ∀ (w : World) (os : OsState), ∃ s p', (∀ (N : Nat) (r : Shared), topRun treeTable p w m₀ ann N s (restOf [] env (.body b env) p' [topFrame pos]) = some r → topRun treeTable p w m₀ ann (n₂ + N) (S w os) (restOf b env (.body b env) pos [topFrame pos]) = some r) ∧
      (staticsOk (importedModules p.main.body) (boot_heap w.params) s.heap && namesBound p s.heap && gensDone s && laidKept (boot_heap w.params) s.heap) = true ∧
      openSeen q loose (importedModules p.main.body) (fun _ => true) true s = openGood q loose ∧ Yf s = Ya w)
    (hs : ∀ w : World, ((boot_heap w.params).isNs mainGlobals && (Array.mk [] : Array GenState).size == 0, (boot_heap w.params).objs.size, (boot_heap w.params).nsMap mainGlobals "__annotations__") = (true, m₀, ann)) :
    LeftO p q loose (fun _ => true) Yf Ya (n₁ + (1 + (n₂ + 2))) := fun w => by
  obtain ⟨⟨h, gs, d, k, os⟩, e, e'⟩ := Option.map_eq_some_iff.mp (boot_open ho hN hf w)
  obtain ⟨rfl, rfl, rfl, rfl⟩ : h = boot_heap w.params ∧ gs = Array.mk [] ∧ d = boot_drawn ∧ k = boot_toks := by simpa only [Prod.mk.injEq] using e'
  obtain ⟨z1, z2⟩ := Prod.mk.inj (hs w)
  obtain ⟨z2, z3⟩ := Prod.mk.inj z2
  obtain ⟨s, p', r1, l1, l2, l3⟩ := hr w os
  have r2 := r1 2 s (piece_nil (hd w s p'))
  have r3 := go_top (hp w os) (piece_block (hb w _) r2)
  have t : topFrom treeTable p w (n₁ + (1 + (n₂ + 2))) ⟨boot_heap w.params, Array.mk [], boot_drawn, boot_toks, os⟩ = some s := by
    unfold topFrom
    dsimp only
    rw [z1, z2, z3, r3]
    show (match staticsOk (importedModules p.main.body) (boot_heap w.params) s.heap && namesBound p s.heap && gensDone s && laidKept (boot_heap w.params) s.heap with | true => _ | false => _) = _
    rw [l1]
  unfold openEnds
  rw [e]
  show (topFrom treeTable p w _ _).map _ = _
  rw [t]
  exact congrArg some (Prod.ext l2 l3)
theorem hd_left : LeftO pg qP looseP (fun _ => true) hookP.obs hookP.val (12 + (1 + (21000 + 2))) :=
  left_of (S := fun w os => (S0 w os).abs) (b := bodyP) (env := envP) (pos := pos0) hd_open (by decide) hd_fence hd_pre hd_block hd_fin hd_run hd_size
end Mine


section
open PySem PySem.W PySem.Calls PyProof.Rows
namespace Mine
theorem items_int {R : WRecords} : ∀ {ds : List WData}, WShape.hasItems R ds .int = true → ∃ xs : List Int, ds = xs.map .int
  | [], _ => ⟨[], rfl⟩
  | d :: r, h => by
    obtain ⟨h1, h2⟩ := Bool.and_eq_true_iff.mp h
    obtain ⟨i, rfl⟩ := hasW_int h1
    obtain ⟨xs, rfl⟩ := items_int h2
    exact ⟨i :: xs, rfl⟩
theorem pre_at {args : List WData} (h : PySem.Challenge.rw_rr0068_01.row.toRowW.claim.pre args = true) : ∃ xs : List Int, args = [.list (xs.map .int)] ∧ xs.length ≤ 63 := by
  obtain ⟨h1, h2⟩ := pre_splitW h
  obtain ⟨d, r, rfl, h3, h4⟩ := hasAllW_cons h1
  obtain rfl := hasAllW_nil h4
  obtain ⟨ds, rfl, h5⟩ := hasW_list h3
  obtain ⟨xs, rfl⟩ := items_int h5
  refine ⟨xs, rfl, ?_⟩
  by_cases hl : xs.length ≤ 63
  · exact hl
  · have e : (match (match (match (some (decide ((63 : Int) < ((xs.map WData.int).length : Int)))).map WData.bool with | some (.bool b) => some (WData.bool (!b)) | _ => none) with
      | some (.bool false) => some (WData.bool false) | some (.bool true) => some (.bool true) | _ => none : Option WData) with | some (.bool true) => true | _ => false) = true := h2
    have hd : decide ((63 : Int) < (xs.length : Int)) = true := decide_eq_true (Int.ofNat_lt.mpr (Nat.lt_of_not_le hl))
    rw [List.length_map, hd] at e
    cases e
theorem law_wit : PySem.Challenge.rw_rr0068_01.row.toRowW.promised := by
  refine ⟨[.list []], ?_, ?_⟩ <;> decide +kernel
end Mine


section
open PySem PySem.W PySem.Calls PyProof.Rows Lean
namespace Mine
noncomputable abbrev rl : OpenLaw := PySem.Challenge.rw_rr0068_01
noncomputable abbrev pl : Program := PySem.Challenge.pw_rr0068_01
theorem w_a1 : sreFenced pl.main = true := by kernel_rfl
theorem w_a2 : ((moduleNames pl.main.body).isEmpty || lookedIntoSs (moduleNames pl.main.body) pl.main.body) = true := by kernel_rfl
theorem w_a3 : namesResolve pl = true := by kernel_rfl
theorem w_a4 : (pl.boundNames.all (fun n => !worldNames.contains n)) = true := by kernel_rfl
theorem w_r1 : readsOut pl pl.main.body "vars" = false := by kernel_rfl
theorem w_r2 : readsOut pl pl.main.body "dir" = false := by kernel_rfl
theorem w_r3 : readsOut pl pl.main.body "locals" = false := by kernel_rfl
theorem w_fl : (["vars", "dir", "locals"] : List PySem.Str).filter (readsOut pl pl.main.body) = [] := by
  rw [List.filter_cons, w_r1, List.filter_cons, w_r2, List.filter_cons, w_r3]; rfl
theorem w_a5 : noRoadLSs { strict := !(importedModules pl.main.body).all cThrough.contains, foot := none, bare := (["vars", "dir", "locals"] : List PySem.Str).filter (readsOut pl pl.main.body) } pl.main.body = true := by rw [w_fl]; kernel_rfl
theorem w_a6 : (namesMeet pl pl.main.body fun _ n => attrL n) = true := by kernel_rfl
theorem w_open : looksOpen pl = true := by
  unfold looksOpen
  exact look_both (look_both (look_both (look_both (look_both w_a1 w_a2) w_a3) w_a4) w_a5) w_a6
theorem w_part : rl.row.partSaid = true := by
  unfold OpenRow.partSaid
  rw [show looksOpen rl.row.prog = true from w_open]
  kernel_rfl
theorem w_row : rl.row.wellSaid = true := by
  unfold OpenRow.wellSaid
  rw [w_part]
  kernel_rfl
theorem w_b1 : noClassBlock pl rl.footing = true := by kernel_rfl
theorem w_b2 : noRoadLSs { strict := true, foot := some rl.bound', writes := rl.writes, may := rl.may } rl.footing = true := by kernel_rfl
theorem w_b3 : rl.namesIt = true := by kernel_rfl
theorem w_b4 : (rl.bound'.all (fun n => !builtinNamed n || rl.about == [n] || !rl.reads n)) = true := by kernel_rfl
theorem w_b6 : (namesMeet pl rl.footing (fun sc n => (!(["type", "isinstance", "issubclass", "getattr", "hasattr"] : List PySem.Str).contains n || sc.names.lookup n == some .globalImplicit) &&
    (rl.may != some n || sc.kind == .module || sc.names.lookup n == some .globalImplicit))) = true := by kernel_rfl
theorem w_b8 : (namesMeet pl rl.above (fun _ n => !rl.own.contains n)) = true := by kernel_rfl
theorem w_b9 : (namesMeet pl rl.footing fun sc n => sc.kind == .module || sc.names.lookup n != some .globalExplicit) = true := by kernel_rfl
theorem w_said : rl.wellSaid = true := by
  unfold OpenLaw.wellSaid
  exact look_both (look_both (look_both (look_both (look_both (look_both (look_both (look_both (look_both (look_both (look_both (look_both (look_both (look_both (look_both (look_both (look_both (look_both w_row (by kernel_rfl)) (by kernel_rfl)) w_b1) (by kernel_rfl)) (by kernel_rfl)) w_b2) (by kernel_rfl)) w_b3) (by kernel_rfl)) w_b4) (by kernel_rfl)) (by kernel_rfl)) w_b6) (by kernel_rfl)) (by kernel_rfl)) (by kernel_rfl)) w_b8) w_b9
theorem w_t1 : TablesWhole.noTwice pl.main.scope = true := by kernel_rfl
theorem w_t2 : TablesWhole.wSs TablesWhole.gather pl.main.scope ⟨pl.main.scope, [], [], [], none⟩ pl.main.scope pl.main.body = [] := by kernel_rfl
theorem w_t3 : TablesWhole.wSs TablesWhole.holds pl.main.scope ⟨pl.main.scope, [], [], [], none⟩ pl.main.scope (pl.main.body.take 55) = true := by kernel_rfl
theorem w_t4 : TablesWhole.wSs TablesWhole.holds pl.main.scope ⟨pl.main.scope, [], [], [], none⟩ pl.main.scope (pl.main.body.drop 55) = true := by kernel_rfl
theorem wss_app {sc : Scope} {cx : TablesWhole.Ctx} : ∀ {a b : List Stmt}, TablesWhole.wSs TablesWhole.holds sc cx sc a = true → TablesWhole.wSs TablesWhole.holds sc cx sc b = true → TablesWhole.wSs TablesWhole.holds sc cx sc (a ++ b) = true
  | [], _, _, h => h
  | _ :: _, _, h, k => Bool.and_eq_true_iff.mpr ⟨(Bool.and_eq_true_iff.mp h).1, wss_app (Bool.and_eq_true_iff.mp h).2 k⟩
theorem w_mod (m : PySem.Module) (h1 : TablesWhole.noTwice m.scope = true) (h2 : TablesWhole.wSs TablesWhole.gather m.scope ⟨m.scope, [], [], [], none⟩ m.scope m.body = [])
    (h3 : TablesWhole.wSs TablesWhole.holds m.scope ⟨m.scope, [], [], [], none⟩ m.scope m.body = true) : TablesWhole.wModule TablesWhole.holds m = true := by
  have h4 : (true && (TablesWhole.noTwice m.scope && (TablesWhole.wSs TablesWhole.holds m.scope ⟨m.scope, [], TablesWhole.wSs TablesWhole.gather m.scope ⟨m.scope, [], [], [], none⟩ m.scope m.body, [], none⟩ m.scope m.body && true))) = true := by
    rw [h1, h2, h3]; rfl
  exact h4
theorem w_prog (p : Program) (h : TablesWhole.wModule TablesWhole.holds p.main = true) (h1 : p.modules = []) (h2 : p.parses = []) (h3 : p.harvested = []) : p.tablesWhole = true := by
  have e : (TablesWhole.wModule TablesWhole.holds p.main && (TablesWhole.holds.all (p.modules.map fun (_, _, m) => TablesWhole.wModule TablesWhole.holds m) && (TablesWhole.holds.all (p.parses.map (TablesWhole.wParse TablesWhole.holds)) && (TablesWhole.holds.all (p.harvested.map (TablesWhole.wParse TablesWhole.holds)) && true)))) = true := by
    rw [h, h1, h2, h3]; rfl
  exact e
theorem w_t5 : TablesWhole.wSs TablesWhole.holds pl.main.scope ⟨pl.main.scope, [], [], [], none⟩ pl.main.scope pl.main.body = true := by
  have h := wss_app w_t3 w_t4
  rw [List.take_append_drop] at h
  exact h
theorem w_tabs : pl.tablesWhole = true := w_prog pl (w_mod pl.main w_t1 w_t2 w_t5) rfl rfl rfl
end Mine


section
open PySem PySem.W PySem.Calls PyProof.Rows
namespace Mine
noncomputable abbrev rwP : OpenRow := PySem.Challenge.rw_rr0068_01.row
theorem well_int {P : Params} {h : Heap} {v : Value} {d : WData} (x : Well P h v d) : match d with | .int i => ∃ t, v = .int i t | _ => True := by
  cases x <;> first | exact ⟨_, rfl⟩ | trivial
theorem reads_ints {P : Params} {fa : Nat → Addr} {φ : Phi} {h : Heap} {xs : List Int} : ∀ {vs : List Value}, WellAll P h vs (xs.map .int) → VRs fa φ h (xs.map .int) vs := by
  induction xs with
  | nil => intro vs x; cases x; exact .nil
  | cons i xs ih =>
    intro vs x
    obtain ⟨v, vs', rfl, h1, h2⟩ := wellAll_cons_inv x
    obtain ⟨t, rfl⟩ : ∃ t, v = .int i t := well_int h1
    exact .cons (.int i t) (ih h2)
theorem kP_law (P : Params) : nsIn (kP P) mainGlobals "law" = some (some (.ref 894)) := by kernel_rfl
set_option tactic.hygienic true in
theorem hd_walk {d : DefRec} {kwd : List (PySem.Str × PySem.Expr)} (hn : d.name = Str.ofString "law") : WalkO qP looseP (fun _ _ => True) hookP.says rwP.toRowW d kwd fun f vs => PySem.call f vs := by
  intro w s₀ s₁ mg mb G Y fa o pm cd doc dV kV ho hd hcd hD hmg hg args vals as hpre hlay hrd hwl hlo
  obtain ⟨xs, rfl, hl⟩ := pre_at hpre
  cases hwl with
  | cons h1 h2 =>
    cases h2
    cases h1 with
    | list ha hvs =>
      rename_i a vs
      have X : (kP w.params).In s₁.heap := kIn_of Y
      have T := topRead_of G.T
      obtain rfl : fa = 894 := by
        have e := mg_of X T.g (kP_law w.params)
        rw [hn] at hmg
        rw [show mg (Str.ofString "law") = some (.ref 894) from e] at hmg
        cases hmg; rfl
      obtain ⟨σ', hσ⟩ := law_true (xs := xs) (by omega)
      refine wpAny_call (F_law (b := ⟨w, mg, mb, s₁.heap, X, T⟩) [(a, a)] [.obj 0] [.ref a] callerA [.list (xs.map .int)] s₁ _ (.bool true) σ' (.cons (.obj 0 (a, a) rfl) .nil) ⟨rfl, by decide, by decide⟩ ?_ hσ ?_)
      · refine ⟨rfl, fun _ _ e => e, fun i p e hi => ?_, ⟨_, rfl⟩, fun i m p e1 e2 => ?_, fun i j p q e1 e2 hij => ?_⟩
        · match i, hi, e with
          | 0, hi, _ => exact absurd rfl hi
        · match i, e1, e2 with
          | 0, e1, e2 => cases e1; cases e2; exact ⟨rfl, vs, 0, ha, reads_ints hvs⟩
        · match i, j, e1, e2, hij with
          | 0, 0, _, _, hij => exact absurd rfl hij
      · intro v φ' h' tk st hr r
        cases r
        exact ⟨.inl ⟨.bool true, .bool true, [], rfl, fun cls => rfl, .bool true, by kernel_rfl, fun _ => ⟨.nil, fun _ h => by cases h⟩⟩, .of_keep hr.base, rfl, .of_eq hg⟩
theorem hd_def : ∃ d kwd, defOf qP rwP.name = some (d, kwd) ∧ rwP.prog.theDef rwP.name = some (d.params, d.body, d.scope) ∧ kwWritten? d.params.kwonlyargs d.params.kw_defaults = some kwd := by
  have h : ((defOf qP rwP.name).map fun x => (rwP.prog.theDef rwP.name, kwWritten? x.1.params.kwonlyargs x.1.params.kw_defaults)) = (defOf qP rwP.name).map fun x => (some (x.1.params, x.1.body, x.1.scope), some x.2) := by kernel_rfl
  have e : (defOf qP rwP.name).isSome = true := by kernel_rfl
  obtain ⟨⟨d, kwd⟩, e⟩ := Option.isSome_iff_exists.mp e
  rw [e] at h
  have h := Option.some.inj h
  exact ⟨d, kwd, e, (Prod.mk.inj h).1, (Prod.mk.inj h).2⟩
theorem hd_holds (said : rwP.wellSaid = true) : rwP.Holds := by
  obtain ⟨d, kwd, hdef, hp, hk⟩ := hd_def
  refine holds_open (q := qP) (loose := looseP) (Xt := fun _ => true) (XP := fun _ _ => True) (Yf := hookP.obs) (Ya := hookP.val) (YP := hookP.says) hd_left hookP.of hookP.keeps (fun _ _ => trivial) (fun _ _ _ _ _ => trivial)
    hdef hp hk (fun _ _ => recFacts_nil rfl) rfl said ?_ ?_ law_wit (hd_walk (defOf_name hdef))
  · kernel_rfl
  · exact ⟨rfl, rfl, rfl, rfl, rfl, w_tabs⟩
end Mine
theorem PySem.Challenge.cw_rr0068_01_holds : PySem.Challenge.rw_rr0068_01.Holds := by
  exact holds_law Mine.w_said Mine.hd_holds


