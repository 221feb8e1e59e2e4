import PyProof.Rows.All
import Wide.All
import OpenK.AllK
import Wide.FinOn
import KE.KEqDeep
import KE.KEqText
import PySem.Challenge.RW_sa0541_01
set_option Elab.async false
set_option compiler.extract_closed false
set_option maxRecDepth 100000
set_option genSizeOf false
set_option genSizeOfSpec false
namespace Mine
inductive BI where
  | len | min | max | sum | ord | range | int
deriving DecidableEq, Inhabited
inductive V where
  | none
  | bool (b : Bool)
  | int (i : Int)
  | str (s : List Nat)
  | tup (vs : List V)
  | loc (i : Nat)
  | ref (a : Nat)
  | bi (b : BI)
  | rng (n : Int)
deriving Inhabited
noncomputable def asI : V → Option Int
  | .int i => some i
  | _ => none
noncomputable def asB : V → Option Bool
  | .bool b => some b
  | _ => none
noncomputable def asS : V → Option (List Nat)
  | .str s => some s
  | _ => none
noncomputable def asT : V → Option (List V)
  | .tup vs => some vs
  | _ => none
noncomputable def asL : V → Option Nat
  | .loc i => some i
  | _ => none
noncomputable def isNo : V → Bool
  | .none => true
  | _ => false
noncomputable def one {α : Type} : List α → Option α
  | [] => none
  | x :: r => match r with
    | [] => some x
    | _ :: _ => none
noncomputable def asR : V → Option Nat
  | .ref a => some a
  | _ => none
noncomputable def asF : V → Option BI
  | .bi b => some b
  | _ => none
noncomputable def asG : V → Option Int
  | .rng n => some n
  | _ => none
theorem asI_some {v : V} {i : Int} (h : asI v = some i) : v = .int i := by cases v <;> cases h; rfl
theorem asB_some {v : V} {i : Bool} (h : asB v = some i) : v = .bool i := by cases v <;> cases h; rfl
theorem asS_some {v : V} {i : List Nat} (h : asS v = some i) : v = .str i := by cases v <;> cases h; rfl
theorem asT_some {v : V} {i : List V} (h : asT v = some i) : v = .tup i := by cases v <;> cases h; rfl
theorem asL_some {v : V} {i : Nat} (h : asL v = some i) : v = .loc i := by cases v <;> cases h; rfl
theorem asR_some {v : V} {i : Nat} (h : asR v = some i) : v = .ref i := by cases v <;> cases h; rfl
theorem asF_some {v : V} {i : BI} (h : asF v = some i) : v = .bi i := by cases v <;> cases h; rfl
theorem asG_some {v : V} {i : Int} (h : asG v = some i) : v = .rng i := by cases v <;> cases h; rfl
theorem isNo_eq {v : V} (h : isNo v = true) : v = .none := by cases v <;> cases h; rfl
theorem one_some {α : Type} {l : List α} {x : α} (h : one l = some x) : l = [x] := by
  cases l with
  | nil => cases h
  | cons y r => cases r <;> cases h; rfl
mutual
noncomputable def V.beq : V → V → Bool
  | .none, y => isNo y
  | .bool a, y => asB y == some a
  | .int a, y => asI y == some a
  | .str a, y => asS y == some a
  | .tup a, y => match asT y with
    | .some b => V.beqs a b
    | .none => false
  | .loc a, y => asL y == some a
  | .ref a, y => asR y == some a
  | .bi a, y => asF y == some a
  | .rng a, y => asG y == some a
noncomputable def V.beqs : List V → List V → Bool
  | [], l => l.isEmpty
  | a :: r, l => match l with | [] => false | b :: q => V.beq a b && V.beqs r q
end
mutual
theorem V.eq_of_beq : ∀ (a b : V), V.beq a b = true → a = b
  | .none, _, h => (isNo_eq h).symm
  | .bool _, _, h => (asB_some (beq_iff_eq.mp h)).symm
  | .int _, _, h => (asI_some (beq_iff_eq.mp h)).symm
  | .str _, _, h => (asS_some (beq_iff_eq.mp h)).symm
  | .loc _, _, h => (asL_some (beq_iff_eq.mp h)).symm
  | .ref _, _, h => (asR_some (beq_iff_eq.mp h)).symm
  | .bi _, _, h => (asF_some (beq_iff_eq.mp h)).symm
  | .rng _, _, h => (asG_some (beq_iff_eq.mp h)).symm
  | .tup x, b, h => by
    cases hb : asT b with
    | none => rw [V.beq, hb] at h; cases h
    | some y => rw [V.beq, hb] at h; rw [asT_some hb, V.eq_of_beqs x y h]
theorem V.eq_of_beqs : ∀ (a b : List V), V.beqs a b = true → a = b
  | [], b, h => (List.isEmpty_iff.mp h).symm
  | x :: r, b, h => by cases b with
    | nil => cases h
    | cons y q =>
      have h := Bool.and_eq_true_iff.mp h
      exact congr (congrArg _ (V.eq_of_beq x y h.1)) (V.eq_of_beqs r q h.2)
end
mutual
theorem V.beq_refl : ∀ a : V, V.beq a a = true
  | .none => rfl
  | .bool _ => beq_self_eq_true _
  | .int _ => beq_self_eq_true _
  | .str _ => beq_self_eq_true _
  | .loc _ => beq_self_eq_true _
  | .ref _ => beq_self_eq_true _
  | .bi _ => beq_self_eq_true _
  | .rng _ => beq_self_eq_true _
  | .tup x => V.beqs_refl x
theorem V.beqs_refl : ∀ a : List V, V.beqs a a = true
  | [] => rfl
  | a :: r => Bool.and_eq_true_iff.mpr ⟨V.beq_refl a, V.beqs_refl r⟩
end
noncomputable instance : DecidableEq V := fun a b => match h : V.beq a b with
  | true => .isTrue (V.eq_of_beq a b h)
  | false => .isFalse fun e => by subst e; rw [V.beq_refl] at h; cases h
inductive O where
  | list (vs : List V)
  | inst (c : Nat) (as : List (Nat × V))
  | dict (es : List (List Nat × V))
  | tab (b : Bool)
deriving Inhabited
noncomputable abbrev MH := List O
noncomputable abbrev Env := List (Nat × V)
noncomputable def Env.put : Env → Nat → V → Env
  | [], x, v => [(x, v)]
  | p :: r, x, v => if p.1 = x then (x, v) :: r else p :: Env.put r x v
noncomputable def Env.get : Env → Nat → Option V
  | [], _ => none
  | (a, v) :: r, x => if a = x then some v else Env.get r x
inductive BOp where
  | add | sub | mul | fdiv | mod
deriving DecidableEq, Inhabited
inductive COp where
  | eq | ne | lt | le | gt | ge | is | isnot | in_ | notin
deriving DecidableEq, Inhabited
inductive ME where
  | c (v : V)
  | var (x : Nat)
  | tup (es : List ME)
  | list (es : List ME)
  | edict
  | bin (op : BOp) (a b : ME)
  | neg (a : ME)
  | not (a : ME)
  | bop (isAnd : Bool) (es : List ME)
  | ite (c a b : ME)
  | cmp (a : ME) (ops : List COp) (es : List ME)
  | attr (o : ME) (a : Nat)
  | sub (o i : ME)
  | slice (o lo hi st : ME)
  | call (f : ME) (args : List ME)
  | meth (o : ME) (m : Nat) (args : List ME)
  | comp (elt : ME) (tgt : List Nat) (one : Bool) (iter : ME) (ifs : List ME)
  | bad
deriving Inhabited
inductive MT where
  | var (x : Nat)
  | vars (xs : List Nat)
  | attr (o : ME) (a : Nat)
  | sub (o i : ME)
deriving Inhabited
inductive MS where
  | expr (e : ME)
  | ret (e : ME)
  | asg (t : MT) (e : ME)
  | aug (t : MT) (op : BOp) (e : ME)
  | ite (c : ME) (a b : List MS)
  | whl (c : ME) (b : List MS)
  | for_ (t : MT) (it : ME) (b : List MS)
  | brk
  | bad
deriving Inhabited
inductive Fl where
  | next | brk | ret (v : V)
deriving Inhabited
structure Ctx where
  call : Nat → List V → MH → Option (V × MH)
  clist : Nat → Option (List V)
  cdict : Nat → Option (List (List Nat × V))
  meth : Nat → Nat → Option Nat
  attrOk : Nat → Nat → Bool
noncomputable abbrev R (α : Type) := Option (α × MH)
noncomputable def top : Nat := 16777216
noncomputable def alloc (o : O) (h : MH) : R V := some (.loc h.length, h ++ [o])
noncomputable def andThen {α β : Type} (m : R α) (f : α → MH → R β) : R β := match m with
  | none => none
  | some (a, h) => f a h
@[simp] theorem andThen_some {α β : Type} (a : α) (h : MH) (f : α → MH → R β) : andThen (some (a, h)) f = f a h := rfl
@[simp] theorem andThen_none {α β : Type} (f : α → MH → R β) : andThen (none : R α) f = none := rfl
noncomputable def cut {α : Type} (xs : List α) (lo hi st : Option Int) : List α :=
  (PySem.sliceRange (PySem.sliceBounds lo hi st xs.length).1 (PySem.sliceBounds lo hi st xs.length).2.1 (PySem.sliceBounds lo hi st xs.length).2.2).filterMap (xs[·]?)
noncomputable def asPart (x : V) : Option (Option Int) := if isNo x then some none else (asI x).map some
noncomputable def listO : O → Option (List V)
  | .list vs => some vs
  | _ => none
noncomputable def dictO : O → Option (List (List Nat × V))
  | .dict es => some es
  | _ => none
noncomputable def instO : O → Option (Nat × List (Nat × V))
  | .inst c as => some (c, as)
  | _ => none
theorem listO_some {o : O} {vs : List V} (h : listO o = some vs) : o = .list vs := by cases o <;> cases h; rfl
theorem dictO_some {o : O} {es : List (List Nat × V)} (h : dictO o = some es) : o = .dict es := by cases o <;> cases h; rfl
theorem instO_some {o : O} {p : Nat × List (Nat × V)} (h : instO o = some p) : o = .inst p.1 p.2 := by cases o <;> cases h; rfl
noncomputable def lst (h : MH) (i : Nat) : Option (List V) := (h[i]?).bind listO
noncomputable def small (i : Int) : Bool := decide (-1000000000 < i) && decide (i < 1000000000)
noncomputable def binop (op : BOp) (a b : V) (h : MH) : R V := match op with
  | .add => match a with
    | .int i => (asI b).map fun j => (.int (i + j), h)
    | .str x => (asS b).bind fun y => if x.length + y.length ≤ top then some (.str (x ++ y), h) else none
    | .loc i => (lst h i).bind fun xs => (asL b).bind fun j => (lst h j).bind fun ys => if xs.length + ys.length ≤ top then alloc (.list (xs ++ ys)) h else none
    | _ => none
  | .sub => (asI a).bind fun i => (asI b).map fun j => (.int (i - j), h)
  | .mul => match a with
    | .int i => (asI b).bind fun j => if small i && small j then some (.int (i * j), h) else none
    | .loc i => (lst h i).bind fun xs => (one xs).bind fun x => (asI b).bind fun k => if small k && decide (k ≤ 1000) then alloc (.list (List.replicate k.toNat x)) h else none
    | _ => none
  | .fdiv => (asI a).bind fun i => (asI b).bind fun j => if 0 < j && small j then some (.int (Int.fdiv i j), h) else none
  | .mod => (asI a).bind fun i => (asI b).bind fun j => if 0 < j then some (.int (Int.fmod i j), h) else none
noncomputable def augop (op : BOp) (a b : V) (h : MH) : R V := match op with
  | .add => match a with
    | .int i => (asI b).map fun j => (.int (i + j), h)
    | .str x => (asS b).bind fun y => if x.length + y.length ≤ top then some (.str (x ++ y), h) else none
    | _ => none
  | .sub => (asI a).bind fun i => (asI b).map fun j => (.int (i - j), h)
  | _ => none
noncomputable def scal : V → Bool
  | .none => true
  | .int _ => true
  | .str s => s.all (· < 1114112)
  | _ => false
noncomputable def flat1 : V → Bool
  | .tup vs => vs.all scal
  | .none => true
  | .int _ => true
  | .str s => s.all (· < 1114112)
  | _ => false
noncomputable def eqV (a b : V) (h : MH) : Option Bool := match a with
  | .loc i => (asL b).bind fun j => (lst h i).bind fun xs => (lst h j).bind fun ys => if xs.all flat1 && ys.all flat1 then some (decide (xs = ys)) else none
  | .tup xs => (asT b).bind fun ys => if xs.all scal && ys.all scal then some (decide (xs = ys)) else none
  | .int i => (asI b).map fun j => decide (i = j)
  | .str x => (asS b).map fun y => decide (x = y)
  | .bool x => (asB b).map fun y => decide (x = y)
  | _ => none
noncomputable def inStrs (s : List Nat) : List V → Option Bool
  | [] => some false
  | v :: r => (asS v).bind fun t => if s = t then some true else inStrs s r
noncomputable def inDict (s : List Nat) : List (List Nat × V) → Option V
  | [] => none
  | p :: r => if p.1 = s then some p.2 else inDict s r
noncomputable def dct (C : Ctx) (v : V) (h : MH) : Option (List (List Nat × V)) := match v with
  | .ref d => C.cdict d
  | .loc i => (h[i]?).bind dictO
  | _ => none
noncomputable def member (C : Ctx) (a b : V) (h : MH) : Option Bool := (asS a).bind fun s => match b with
  | .str t => (one s).map fun x => t.contains x
  | .tup vs => if s.all (· < 1114112) && vs.all scal then inStrs s vs else none
  | _ => (dct C b h).map fun es => (inDict s es).isSome
noncomputable def isSame (a b : V) : Option Bool := if isNo b then some (isNo a) else none
noncomputable def lessI (f : Int → Int → Bool) (a b : V) : Option Bool := (asI a).bind fun i => (asI b).map fun j => f i j
noncomputable def compare (C : Ctx) (op : COp) (a b : V) (h : MH) : Option Bool := match op with
  | .eq => eqV a b h
  | .ne => (eqV a b h).map (!·)
  | .is => isSame a b
  | .isnot => (isSame a b).map (!·)
  | .in_ => member C a b h
  | .notin => (member C a b h).map (!·)
  | .lt => lessI (fun i j => decide (i < j)) a b
  | .le => lessI (fun i j => decide (i ≤ j)) a b
  | .gt => lessI (fun i j => decide (i > j)) a b
  | .ge => lessI (fun i j => decide (i ≥ j)) a b
noncomputable def subscript (C : Ctx) (o i : V) (h : MH) : Option V := match i with
  | .int k => match o with
    | .tup vs => if vs.length ≤ top then (PySem.seqIndex? k vs.length).bind fun j => vs[j]? else none
    | .str s => (PySem.seqIndex? k s.length).bind fun j => s[j]?.map fun c => .str [c]
    | .loc l => (lst h l).bind fun vs => (PySem.seqIndex? k vs.length).bind fun j => vs[j]?
    | .ref d => (C.clist d).bind fun vs => (PySem.seqIndex? k vs.length).bind fun j => vs[j]?
    | _ => none
  | .str s => (dct C o h).bind fun es => inDict s es
  | _ => none
noncomputable def slicing (C : Ctx) (o lo hi st : V) (h : MH) : R V := (asPart lo).bind fun l => (asPart hi).bind fun u => (asPart st).bind fun k => match o with
  | .str s => if k = none then some (.str (cut s l u none), h) else none
  | .loc i => if k = none ∨ k = some 2 then (lst h i).bind fun vs => alloc (.list (cut vs l u k)) h else none
  | .ref d => if k = none then (C.clist d).bind fun vs => alloc (.list (cut vs l u none)) h else none
  | _ => none
noncomputable def inst (h : MH) (o : V) : Option (Nat × List (Nat × V)) := (asL o).bind fun i => (h[i]?).bind instO
noncomputable def getAttr (C : Ctx) (o : V) (a : Nat) (h : MH) : Option V := (inst h o).bind fun p => if C.attrOk p.1 a then Env.get p.2 a else none
noncomputable def setAttr (C : Ctx) (o : V) (a : Nat) (v : V) (h : MH) : Option MH := (inst h o).bind fun p => (asL o).bind fun i =>
  if C.attrOk p.1 a && decide (p.2.length ≤ 100) then some (h.set i (.inst p.1 (Env.put p.2 a v))) else none
noncomputable def setSub (o i v : V) (h : MH) : Option MH := (asL o).bind fun l => (asI i).bind fun k => (lst h l).bind fun vs => if 0 ≤ k ∧ k < vs.length then some (h.set l (.list (vs.set k.toNat v))) else none
noncomputable def itemsOf (C : Ctx) (v : V) (h : MH) : Option (List V) := match v with
  | .tup vs => some vs
  | .str s => if s.all (· < 128) then some (s.map fun c => .str [c]) else none
  | .rng n => if small n then some ((List.range n.toNat).map fun i => .int (i : Nat)) else none
  | .ref a => C.clist a
  | .loc i => lst h i
  | _ => none
noncomputable def putAll : List Nat → List V → Env → Option Env
  | [], vs, r => match vs with
    | [] => some r
    | _ :: _ => none
  | x :: xs, vs, r => match vs with
    | [] => none
    | v :: vs => putAll xs vs (r.put x v)
noncomputable def bindVars (xs : List Nat) (single : Bool) (v : V) (r : Env) : Option Env := if single then (one xs).map fun x => r.put x v else (asT v).bind fun vs => putAll xs vs r
noncomputable def push (l : Nat) (v : V) (h : MH) : Option MH := (lst h l).bind fun vs => if vs.length < top then some (h.set l (.list (vs ++ [v]))) else none
noncomputable def still (src : V) (items : List V) (h : MH) : Bool := match src with
  | .loc i => decide (lst h i = some items)
  | _ => true
noncomputable def compGo (src : V) (items : List V) (acc : Nat) (f : V → MH → R (Option V)) : List V → MH → Option MH
  | [], h => if still src items h then some h else none
  | v :: r, h => if still src items h then (f v h).bind fun p => match p.1 with
      | some x => (push acc x p.2).bind fun h2 => compGo src items acc f r h2
      | none => compGo src items acc f r p.2
    else none
noncomputable def sumInts : List V → Option Int
  | [] => some 0
  | v :: r => (asI v).bind fun i => (sumInts r).map (i + ·)
noncomputable def joinTexts (sep : List Nat) : List V → Option (List Nat)
  | [] => some []
  | v :: r => (asS v).bind fun s => match r with
    | [] => some s
    | _ :: _ => (joinTexts sep r).map fun t => s ++ (sep ++ t)
noncomputable def joinCost (sep : List Nat) : List V → Nat
  | [] => 0
  | v :: r => (match asS v with
    | some s => s.length + sep.length
    | none => 0) + joinCost sep r
noncomputable def lenV (v : V) (h : MH) : Option Nat := match v with
  | .str s => some s.length
  | .tup vs => if vs.length ≤ top then some vs.length else none
  | .loc i => (lst h i).map List.length
  | _ => none
noncomputable def two {α : Type} (l : List α) : Option (α × α) := match l with
  | [] => none
  | x :: r => (one r).map fun y => (x, y)
noncomputable def builtin (b : BI) (args : List V) (h : MH) : R V := match b with
  | .len => (one args).bind fun v => (lenV v h).map fun (n : Nat) => (V.int (n : Int), h)
  | .min => (two args).bind fun p => (asI p.1).bind fun i => (asI p.2).map fun j => (.int (min i j), h)
  | .max => (two args).bind fun p => (asI p.1).bind fun i => (asI p.2).map fun j => (.int (max i j), h)
  | .ord => (one args).bind fun v => (asS v).bind fun s => (one s).map fun (c : Nat) => (V.int (c : Int), h)
  | .range => (one args).bind fun v => (asI v).bind fun n => if n ≤ 1000 then some (.rng n, h) else none
  | .int => (one args).bind fun v => (asB v).map fun b => (.int (if b then 1 else 0), h)
  | .sum => (one args).bind fun v => (asL v).bind fun i => (lst h i).bind fun vs => (sumInts vs).map fun s => (.int s, h)
noncomputable def applyV (C : Ctx) (f : V) (args : List V) (h : MH) : R V := match f with
  | .ref a => C.call a args h
  | .bi b => builtin b args h
  | _ => none
noncomputable def nAppend : Nat := 110425311047777
noncomputable def nExtend : Nat := 110425311311973
noncomputable def nPop : Nat := 7368560
noncomputable def nJoin : Nat := 1852403562
noncomputable def nGet : Nat := 7628135
inductive Mth where
  | join (s : List Nat)
  | get (d : Nat)
  | append (i : Nat)
  | extend (i : Nat)
  | pop (i : Nat)
  | fn (f : Nat) (self : V)
noncomputable def methO (C : Ctx) (i m : Nat) (o : O) : Option Mth := match o with
  | .list _ => if m = nAppend then some (.append i) else if m = nExtend then some (.extend i) else if m = nPop then some (.pop i) else none
  | .inst c as => (C.meth c m).bind fun f => if Env.get as m = none then some (.fn f (.loc i)) else none
  | _ => none
noncomputable def method (C : Ctx) (o : V) (m : Nat) (h : MH) : Option Mth := match o with
  | .str s => if m = nJoin then some (.join s) else none
  | .ref d => if m = nGet ∧ (C.cdict d).isSome = true then some (.get d) else none
  | .loc i => (h[i]?).bind (methO C i m)
  | _ => none
noncomputable def applyM (C : Ctx) (k : Mth) (args : List V) (h : MH) : R V := match k with
  | .join s => (one args).bind fun v => (asL v).bind fun i => (lst h i).bind fun vs => if joinCost s vs ≤ top then (joinTexts s vs).map fun t => (.str t, h) else none
  | .get d => (two args).bind fun p => (asS p.1).bind fun k => (C.cdict d).map fun es => ((inDict k es).getD p.2, h)
  | .append i => (one args).bind fun v => (push i v h).map fun h' => (.none, h')
  | .extend i => (one args).bind fun v => (asL v).bind fun j => (lst h i).bind fun vs => (lst h j).bind fun ws => if vs.length + ws.length ≤ top then some (.none, h.set i (.list (vs ++ ws))) else none
  | .pop i => match args with
    | [] => (lst h i).bind fun vs => vs.getLast?.map fun v => (v, h.set i (.list vs.dropLast))
    | _ :: _ => none
  | .fn f self => C.call f (self :: args) h
noncomputable def asBool (x : V) (h : MH) : R Bool := (asB x).map (·, h)
mutual
noncomputable def evE (C : Ctx) (t : Bool) : ME → Env → MH → R V
  | .c v, _, h => some (v, h)
  | .var x, r, h => (Env.get r x).map (·, h)
  | .tup es, r, h => andThen (evEs C es r h) fun vs h1 => some (.tup vs, h1)
  | .list es, r, h => andThen (evEs C es r h) fun vs h1 => alloc (.list vs) h1
  | .edict, _, h => alloc (.dict []) h
  | .bin op a b, r, h => andThen (evE C false a r h) fun x h1 => andThen (evE C false b r h1) fun y h2 => binop op x y h2
  | .neg a, r, h => andThen (evE C false a r h) fun x h1 => (asI x).map fun i => (.int (-i), h1)
  | .not a, r, h => andThen (evE C t a r h) fun x h1 => (asB x).map fun b => (.bool (!b), h1)
  | .bop k es, r, h => evB C t k es r h
  | .ite c a b, r, h => andThen (evE C true c r h) fun x h1 => (asB x).bind fun q => if q then evE C t a r h1 else evE C t b r h1
  | .cmp a ops es, r, h => andThen (evE C false a r h) fun x h1 => evC C es ops x r h1
  | .attr o a, r, h => andThen (evE C false o r h) fun x h1 => (getAttr C x a h1).map (·, h1)
  | .sub o i, r, h => andThen (evE C false o r h) fun x h1 => andThen (evE C false i r h1) fun k h2 => (subscript C x k h2).map (·, h2)
  | .slice o lo hi st, r, h => andThen (evE C false o r h) fun x h1 => andThen (evE C false lo r h1) fun l h2 => andThen (evE C false hi r h2) fun u h3 => andThen (evE C false st r h3) fun s h4 => slicing C x l u s h4
  | .call f args, r, h => andThen (evE C false f r h) fun g h1 => andThen (evEs C args r h1) fun vs h2 => applyV C g vs h2
  | .meth o m args, r, h => andThen (evE C false o r h) fun x h1 => (method C x m h1).bind fun k => andThen (evEs C args r h1) fun vs h2 => applyM C k vs h2
  | .comp elt tgt one iter ifs, r, h => andThen (evE C false iter r h) fun src h1 =>
      (itemsOf C src h1).bind fun items => (compGo src items h1.length (fun v h2 => (bindVars tgt one v r).bind fun r' =>
          andThen (evAll C ifs r' h2) fun ok h3 => if ok then andThen (evE C false elt r' h3) fun x h4 => some (some x, h4) else some (none, h3)) items (h1 ++ [.list []])).map (.loc h1.length, ·)
  | .bad, _, _ => none
noncomputable def evEs (C : Ctx) : List ME → Env → MH → R (List V)
  | [], _, h => some ([], h)
  | e :: es, r, h => andThen (evE C false e r h) fun v h1 => andThen (evEs C es r h1) fun vs h2 => some (v :: vs, h2)
noncomputable def evB (C : Ctx) (t k : Bool) : List ME → Env → MH → R V
  | [], _, _ => none
  | e :: es, r, h => match es with
    | [] => evE C t e r h
    | _ :: _ => andThen (evE C t e r h) fun v h1 => (asB v).bind fun b => if b = k then evB C t k es r h1 else some (.bool b, h1)
noncomputable def evC (C : Ctx) : List ME → List COp → V → Env → MH → R V
  | [], _, _, _, _ => none
  | e :: es, ops, x, r, h => match ops with
    | [] => none
    | op :: ops => andThen (evE C false e r h) fun y h1 => (compare C op x y h1).bind fun q => if q then (match es with
        | [] => some (.bool true, h1)
        | _ :: _ => evC C es ops y r h1) else some (.bool false, h1)
noncomputable def evAll (C : Ctx) : List ME → Env → MH → R Bool
  | [], _, h => some (true, h)
  | e :: es, r, h => andThen (evE C true e r h) fun x h1 => (asB x).bind fun b => if b then evAll C es r h1 else some (false, h1)
end
noncomputable def evT (C : Ctx) (e : ME) (r : Env) (h : MH) : R Bool := andThen (evE C true e r h) asBool
noncomputable def onNext (p : Fl × Env) (h : MH) (k : Env → MH → R (Fl × Env)) : R (Fl × Env) := match p.1 with
  | .next => k p.2 h
  | .brk => some (p, h)
  | .ret _ => some (p, h)
noncomputable def onTurn (p : Fl × Env) (h : MH) (k : Env → MH → R (Fl × Env)) : R (Fl × Env) := match p.1 with
  | .next => k p.2 h
  | .brk => some ((.next, p.2), h)
  | .ret _ => some (p, h)
noncomputable def whileGo (test : Env → MH → R Bool) (body : Env → MH → R (Fl × Env)) : Nat → Env → MH → R (Fl × Env)
  | 0, _, _ => none
  | n + 1, r, h => andThen (test r h) fun b h1 => if b then andThen (body r h1) fun p h2 => onTurn p h2 (whileGo test body n) else some ((.next, r), h1)
noncomputable def forGo (src : V) (items : List V) (bnd : V → Env → Option Env) (body : Env → MH → R (Fl × Env)) : List V → Env → MH → R (Fl × Env)
  | [], r, h => if still src items h then some ((.next, r), h) else none
  | v :: vs, r, h => if still src items h then (bnd v r).bind fun r1 => andThen (body r1 h) fun p h2 => onTurn p h2 (forGo src items bnd body vs) else none
noncomputable def turns : Nat := 1000000
noncomputable def bindT (t : MT) (v : V) (r : Env) : Option Env := match t with
  | .var x => some (r.put x v)
  | .vars xs => bindVars xs false v r
  | .attr _ _ => none
  | .sub _ _ => none
noncomputable def assignT (C : Ctx) (t : MT) (v : V) (r : Env) (h : MH) : R Env := match t with
  | .attr o a => andThen (evE C false o r h) fun x h1 => (setAttr C x a v h1).map (r, ·)
  | .sub o i => andThen (evE C false o r h) fun x h1 => andThen (evE C false i r h1) fun k h2 => (setSub x k v h2).map (r, ·)
  | .var x => some (r.put x v, h)
  | .vars xs => (bindVars xs false v r).map (·, h)
mutual
noncomputable def evS (C : Ctx) : MS → Env → MH → R (Fl × Env)
  | .expr e, r, h => andThen (evE C false e r h) fun _ h1 => some ((.next, r), h1)
  | .ret e, r, h => andThen (evE C false e r h) fun v h1 => some ((.ret v, r), h1)
  | .asg t e, r, h => andThen (evE C false e r h) fun v h1 => andThen (assignT C t v r h1) fun r2 h2 => some ((.next, r2), h2)
  | .aug t op e, r, h => match t with
    | .var x => (Env.get r x).bind fun a => andThen (evE C false e r h) fun b h1 => andThen (augop op a b h1) fun c h2 => some ((.next, r.put x c), h2)
    | .attr o a => andThen (evE C false o r h) fun x h1 => (getAttr C x a h1).bind fun y => andThen (evE C false e r h1) fun b h2 => andThen (augop op y b h2) fun c h3 => (setAttr C x a c h3).map ((.next, r), ·)
    | .sub o i => andThen (evE C false o r h) fun x h1 => andThen (evE C false i r h1) fun k h2 => (subscript C x k h2).bind fun y => andThen (evE C false e r h2) fun b h3 => andThen (augop op y b h3) fun c h4 => (setSub x k c h4).map ((.next, r), ·)
    | .vars _ => none
  | .ite c a b, r, h => andThen (evT C c r h) fun t h1 => if t then evSs C a r h1 else evSs C b r h1
  | .whl c b, r, h => whileGo (evT C c) (evSs C b) turns r h
  | .for_ t it b, r, h => andThen (evE C false it r h) fun src h1 => (itemsOf C src h1).bind fun items => forGo src items (bindT t) (evSs C b) items r h1
  | .brk, r, h => some ((.brk, r), h)
  | .bad, _, _ => none
noncomputable def evSs (C : Ctx) : List MS → Env → MH → R (Fl × Env)
  | [], r, h => some ((.next, r), h)
  | s :: ss, r, h => andThen (evS C s r h) fun p h2 => onNext p h2 (evSs C ss)
end
structure MF where
  params : List Nat
  dflts : List V
  body : List MS
deriving Inhabited
noncomputable def bindArgs (f : MF) (args : List V) : Option Env :=
  if args.length ≤ f.params.length ∧ f.params.length ≤ args.length + f.dflts.length then
    some (f.params.zip (args ++ f.dflts.drop (args.length + f.dflts.length - f.params.length)))
  else none
noncomputable def flEnd (fl : Fl) : Option V := match fl with
  | .ret v => some v
  | .next => some .none
  | .brk => none
noncomputable def runF (C : Ctx) (f : MF) (args : List V) (h : MH) : R V := (bindArgs f args).bind fun r => andThen (evSs C f.body r h) fun p h1 => (flEnd p.1).map (·, h1)
mutual
noncomputable def shV (k : Nat) : V → V
  | .loc i => .loc (k + i)
  | .tup vs => .tup (shVs k vs)
  | .none => .none
  | .bool b => .bool b
  | .int i => .int i
  | .str s => .str s
  | .ref a => .ref a
  | .bi b => .bi b
  | .rng n => .rng n
noncomputable def shVs (k : Nat) : List V → List V
  | [] => []
  | v :: r => shV k v :: shVs k r
end
noncomputable def shO (k : Nat) : O → O
  | .list vs => .list (shVs k vs)
  | .inst c as => .inst c (as.map fun p => (p.1, shV k p.2))
  | .dict es => .dict (es.map fun p => (p.1, shV k p.2))
  | .tab b => .tab b
mutual
noncomputable def noLoc : V → Bool
  | .loc _ => false
  | .tup vs => noLocs vs
  | .none => true
  | .bool _ => true
  | .int _ => true
  | .str _ => true
  | .ref _ => true
  | .bi _ => true
  | .rng _ => true
noncomputable def noLocs : List V → Bool
  | [] => true
  | v :: r => noLoc v && noLocs r
end
structure Prg where
  fns : Nat → Option MF
  cls : Nat → Option Nat
  nat : Nat → Option O
  fr : Nat → Bool
  clist : Nat → Option (List V)
  cdict : Nat → Option (List (List Nat × V))
  meth : Nat → Nat → Option Nat
  attrOk : Nat → Nat → Bool
  ora : Nat → Nat → List V → MH → R V
noncomputable def Prg.ctx (P : Prg) : Nat → Ctx
  | 0 => ⟨fun _ _ _ => none, P.clist, P.cdict, P.meth, P.attrOk⟩
  | n + 1 => ⟨fun f args H => match P.fns f with
      | some mf => if P.fr f && noLocs args then (runF (P.ctx n) mf args []).map fun r => (shV H.length r.1, H ++ r.2.map (shO H.length)) else runF (P.ctx n) mf args H
      | none => match P.cls f with
        | some i => ((P.ctx n).call i (.loc H.length :: args) (H ++ [.inst f []])).bind fun p => if isNo p.1 then some (.loc H.length, p.2) else none
        | none => match P.nat f with
          | some o => if args.isEmpty then some (.loc H.length, H ++ [o]) else none
          | none => P.ora n f args H, P.clist, P.cdict, P.meth, P.attrOk⟩
end Mine
set_option maxRecDepth 100000
set_option autoImplicit false
namespace Mine
open PySem
theorem range_pick {α : Type} (ys : List α) : ∀ m, (List.range m).filterMap (ys[·]?) = ys.take m
  | 0 => by simp
  | m + 1 => by
    rw [List.range_succ, List.filterMap_append, range_pick ys m, List.take_succ]
    cases h : ys[m]? <;> simp [h]
noncomputable def clp (n : Nat) (i : Int) : Int := max 0 (min (if i < 0 then i + n else i) n)
theorem clp_bd (n : Nat) (i : Int) : 0 ≤ clp n i ∧ clp n i ≤ n := ⟨Int.le_max_left _ _, Int.max_le.mpr ⟨Int.natCast_nonneg n, Int.min_le_right _ _⟩⟩
theorem clp_nat {n i : Nat} (h : i ≤ n) : clp n i = i := by
  unfold clp
  rw [if_neg (Int.not_lt.mpr (Int.natCast_nonneg i)), Int.min_eq_left (Int.ofNat_le.mpr h), Int.max_eq_right (Int.natCast_nonneg i)]
theorem clp_last (n : Nat) : clp n (-1) = (n - 1 : Nat) := by
  cases n with
  | zero => rfl
  | succ k =>
    have e : (-1 : Int) + ((k + 1 : Nat) : Int) = (k : Int) := by rw [Int.natCast_succ, Int.add_comm, Int.add_neg_cancel_right]
    unfold clp
    rw [if_pos (by decide), e, Int.min_eq_left (Int.ofNat_le.mpr (Nat.le_succ k)), Int.max_eq_right (Int.natCast_nonneg k)]; rfl
noncomputable def loOf (n : Nat) (lo : Option Int) : Int := match lo with
  | none => 0
  | some i => clp n i
noncomputable def hiOf (n : Nat) (hi : Option Int) : Int := match hi with
  | none => n
  | some i => clp n i
theorem bounds_none (lo hi : Option Int) (n : Nat) : sliceBounds lo hi none n = (loOf n lo, hiOf n hi, 1) := by
  cases lo <;> cases hi <;> rfl
theorem loOf_bd (n : Nat) (lo : Option Int) : 0 ≤ loOf n lo ∧ loOf n lo ≤ n := by
  cases lo with
  | none => exact ⟨Int.le_refl 0, Int.natCast_nonneg n⟩
  | some i => exact clp_bd n i
theorem hiOf_bd (n : Nat) (lo : Option Int) : 0 ≤ hiOf n lo ∧ hiOf n lo ≤ n := by
  cases lo with
  | none => exact ⟨Int.natCast_nonneg n, Int.le_refl _⟩
  | some i => exact clp_bd n i
theorem sliceRange_one (a b : Int) (ha : 0 ≤ a) : sliceRange a b 1 = (List.range (b - a).toNat).map (fun k => a.toNat + k) := by
  unfold sliceRange
  simp only [show (1 : Int) > 0 from by decide, if_true]
  by_cases h : a < b
  · rw [if_pos h]
    have : ((b - a + 1 - 1) / 1).toNat = (b - a).toNat := by rw [Int.ediv_one]; lia
    rw [this]
    refine List.map_congr_left fun k _ => by lia
  · rw [if_neg h]
    have : (b - a).toNat = 0 := by lia
    rw [this]; rfl
theorem cut_none {α : Type} (xs : List α) (lo hi : Option Int) : cut xs lo hi none = (xs.drop (loOf xs.length lo).toNat).take ((hiOf xs.length hi) - (loOf xs.length lo)).toNat := by
  unfold cut
  rw [bounds_none]
  simp only []
  rw [sliceRange_one _ _ (loOf_bd _ _).1, List.filterMap_map, ← range_pick]
  congr 1
  funext k
  simp
theorem cut_full {α : Type} (xs : List α) (lo hi : Option Int) (h : (sliceRange (loOf xs.length lo) (hiOf xs.length hi) 1).length = xs.length) : cut xs lo hi none = xs := by
  rw [sliceRange_one _ _ (loOf_bd _ _).1] at h
  simp only [List.length_map, List.length_range] at h
  have h1 := loOf_bd xs.length lo
  have h2 := hiOf_bd xs.length hi
  rw [cut_none]
  by_cases h0 : xs.length = 0
  · have : xs = [] := List.eq_nil_of_length_eq_zero h0
    subst this; simp
  · have : (loOf xs.length lo).toNat = 0 := by lia
    rw [this, List.drop_zero, h, List.take_length]
end Mine
set_option maxRecDepth 100000
set_option autoImplicit false
set_option linter.unusedSimpArgs false
set_option linter.unusedVariables false
namespace Mine
noncomputable def f162 : MF := ⟨[6647407, 491327616111, 1851980491092171649897], [], [
  .ret (.bop false [(.cmp (.var 6647407) [.eq] [(.var 491327616111)]), (.bop true [(.var 1851980491092171649897), (.cmp (.var 6647407) [.eq] [(.call (.c (.ref 155)) [(.var 491327616111)])])])])]⟩
noncomputable def f174 : MF := ⟨[1835365481, 1852270963], [], [
  .ite (.cmp (.sub (.var 1835365481) (.c (.int 0))) [.eq] [(.c (.str [114, 97, 110, 103, 101]))]) [.ret (.cmp (.sub (.var 1835365481) (.c (.int 1))) [.le, .le] [(.call (.c (.bi .ord)) [(.var 1852270963)]), (.sub (.var 1835365481) (.c (.int 2)))])] [],
  .ite (.cmp (.sub (.var 1835365481) (.c (.int 0))) [.eq] [(.c (.str [99, 108, 97, 115, 115]))]) [.ret (.call (.c (.ref 148)) [(.sub (.var 1835365481) (.c (.int 1))), (.var 1852270963)])] [],
  .ret (.not (.call (.c (.ref 181)) [(.sub (.var 1835365481) (.c (.int 1))), (.var 1852270963)]))]⟩
noncomputable def f181 : MF := ⟨[495756604521, 1852270963], [], [
  .for_ (.var 1835365481) (.var 495756604521) [.ite (.call (.c (.ref 174)) [(.var 1835365481), (.var 1852270963)]) [.ret (.c (.bool true))] []],
  .ret (.c (.bool false))]⟩
noncomputable def f188 : MF := ⟨[495756604521, 474108155536075667764073, 1851980491092171649897, 1852270963], [], [
  .asg (.var 431349919590) (.call (.c (.ref 181)) [(.var 495756604521), (.var 1852270963)]),
  .ite (.bop true [(.var 1851980491092171649897), (.not (.var 431349919590))]) [.asg (.var 431349919590) (.call (.c (.ref 181)) [(.var 495756604521), (.call (.c (.ref 155)) [(.var 1852270963)])])] [],
  .ret (.cmp (.var 431349919590) [.ne] [(.var 474108155536075667764073)])]⟩
noncomputable def f195 : MF := ⟨[1953719668, 1852270963], [], [
  .ite (.cmp (.sub (.var 1953719668) (.c (.int 0))) [.eq] [(.c (.str [115, 105, 103, 110]))]) [.ret (.call (.c (.ref 162)) [(.var 1852270963), (.sub (.var 1953719668) (.c (.int 1))), (.sub (.var 1953719668) (.c (.int 2)))])] [],
  .ite (.cmp (.sub (.var 1953719668) (.c (.int 0))) [.eq] [(.c (.str [97, 110, 121]))]) [.ret (.bop false [(.sub (.var 1953719668) (.c (.int 1))), (.cmp (.var 1852270963) [.ne] [(.c (.str [10]))])])] [],
  .ret (.call (.c (.ref 188)) [(.sub (.var 1953719668) (.c (.int 1))), (.sub (.var 1953719668) (.c (.int 2))), (.sub (.var 1953719668) (.c (.int 3))), (.var 1852270963)])]⟩
noncomputable def f209 : MF := ⟨[1718379891, 30787916450984560, 1954047348, 474214786402, 1852629276641531618668, 1953722221], [], [
  .asg (.attr (.var 1718379891) 30787916450984560) (.var 30787916450984560),
  .asg (.attr (.var 1718379891) 1954047348) (.var 1954047348),
  .asg (.attr (.var 1718379891) 474214786402) (.var 474214786402),
  .asg (.attr (.var 1718379891) 1852629276641531618668) (.var 1852629276641531618668),
  .asg (.attr (.var 1718379891) 1953722221) (.var 1953722221),
  .asg (.attr (.var 1718379891) 495806936179) (.c (.int 0)),
  .asg (.attr (.var 1718379891) 29793) (.var 474214786402),
  .asg (.attr (.var 1718379891) 7827314) (.c (.int 0)),
  .asg (.attr (.var 1718379891) 126926843769447) (.list []),
  .asg (.attr (.var 1718379891) 2129618691208608441714) (.list []),
  .asg (.attr (.var 1718379891) 1701603696) (.list [])]⟩
noncomputable def f223 : MF := ⟨[7239026, 107, 435761734006], [], [
  .expr (.meth (.attr (.var 7239026) 1701603696) 110425311047777 [(.tup [(.c (.str [114, 101, 103, 105, 115, 116, 101, 114])), (.var 107), (.sub (.attr (.var 7239026) 2129618691208608441714) (.var 107))])]),
  .asg (.sub (.attr (.var 7239026) 2129618691208608441714) (.var 107)) (.var 435761734006)]⟩
noncomputable def f230 : MF := ⟨[7239026], [], [
  .aug (.attr (.var 7239026) 7827314) .add (.c (.int 1)),
  .ret (.c (.bool true))]⟩
noncomputable def f237 : MF := ⟨[7239026, 7827314], [], [
  .ite (.bop false [(.cmp (.attr (.var 7239026) 29793) [.ge] [(.call (.c (.bi .len)) [(.attr (.var 7239026) 1954047348)])]), (.not (.call (.c (.ref 195)) [(.var 7827314), (.sub (.attr (.var 7239026) 1954047348) (.attr (.var 7239026) 29793))]))]) [.ret (.c (.bool false))] [],
  .aug (.attr (.var 7239026) 29793) .add (.c (.int 1)),
  .ret (.call (.c (.ref 230)) [(.var 7239026)])]⟩
noncomputable def f244 : MF := ⟨[7239026, 1953719668, 29793, 1953722221], [], [
  .asg (.var 1886352499) (.ite (.cmp (.var 1953722221) [.lt] [(.c (.int 0))]) (.call (.c (.bi .len)) [(.attr (.var 7239026) 1954047348)]) (.call (.c (.bi .min)) [(.call (.c (.bi .len)) [(.attr (.var 7239026) 1954047348)]), (.bin .add (.var 29793) (.var 1953722221))])),
  .whl (.bop true [(.cmp (.var 29793) [.lt] [(.var 1886352499)]), (.call (.c (.ref 195)) [(.var 1953719668), (.sub (.attr (.var 7239026) 1954047348) (.var 29793))])]) [.aug (.var 29793) .add (.c (.int 1))],
  .ret (.var 29793)]⟩
noncomputable def f251 : MF := ⟨[7239026, 7827314], [], [
  .asg (.vars [1685221239, 1953719668, 500151969132, 1953722221, 34193031030600553]) (.var 7827314),
  .asg (.var 7827308) (.bin .add (.attr (.var 7239026) 29793) (.var 500151969132)),
  .asg (.var 6581861) (.call (.c (.ref 244)) [(.var 7239026), (.var 1953719668), (.attr (.var 7239026) 29793), (.ite (.var 34193031030600553) (.var 500151969132) (.var 1953722221))]),
  .aug (.attr (.var 7239026) 495806936179) .add (.bin .fdiv (.bin .sub (.var 6581861) (.attr (.var 7239026) 29793)) (.c (.int 100))),
  .ite (.cmp (.var 6581861) [.lt] [(.var 7827308)]) [.ret (.c (.bool false))] [],
  .aug (.attr (.var 7239026) 7827314) .add (.c (.int 1)),
  .ite (.bop true [(.var 34193031030600553), (.cmp (.var 1953722221) [.ne] [(.var 500151969132)])]) [.expr (.meth (.attr (.var 7239026) 1701603696) 110425311047777 [(.tup [(.c (.str [109, 111, 114, 101])), (.attr (.var 7239026) 7827314), (.var 1953719668), (.var 6581861), (.ite (.cmp (.var 1953722221) [.lt] [(.c (.int 0))]) (.neg (.c (.int 1))) (.bin .sub (.var 1953722221) (.var 500151969132)))])])] [.ite (.cmp (.var 6581861) [.gt] [(.var 7827308)]) [.expr (.meth (.attr (.var 7239026) 1701603696) 110425311047777 [(.tup [(.c (.str [108, 101, 115, 115])), (.attr (.var 7239026) 7827314), (.var 7827308), (.var 6581861)])])] []],
  .asg (.attr (.var 7239026) 29793) (.var 6581861),
  .ret (.c (.bool true))]⟩
noncomputable def f279 : MF := ⟨[7239026, 7827314], [], [
  .expr (.call (.c (.ref 223)) [(.var 7239026), (.sub (.var 7827314) (.c (.int 1))), (.attr (.var 7239026) 29793)]),
  .ret (.call (.c (.ref 230)) [(.var 7239026)])]⟩
noncomputable def f286 : MF := ⟨[7239026, 7827314], [], [
  .expr (.meth (.attr (.var 7239026) 1701603696) 110425311047777 [(.tup [(.c (.str [103, 114, 111, 117, 112])), (.sub (.var 7827314) (.c (.int 1))), (.sub (.attr (.var 7239026) 126926843769447) (.sub (.var 7827314) (.c (.int 1))))])]),
  .asg (.sub (.attr (.var 7239026) 126926843769447) (.sub (.var 7827314) (.c (.int 1)))) (.tup [(.sub (.attr (.var 7239026) 2129618691208608441714) (.sub (.var 7827314) (.c (.int 2)))), (.attr (.var 7239026) 29793)]),
  .ret (.call (.c (.ref 230)) [(.var 7239026)])]⟩
noncomputable def f293 : MF := ⟨[7239026, 7827314], [], [
  .asg (.attr (.var 7239026) 7827314) (.sub (.var 7827314) (.c (.int 1))),
  .ret (.c (.bool true))]⟩
noncomputable def f300 : MF := ⟨[7239026, 7827314], [], [
  .expr (.meth (.attr (.var 7239026) 1701603696) 110425311047777 [(.tup [(.c (.str [116, 114, 121])), (.sub (.var 7827314) (.c (.int 2))), (.attr (.var 7239026) 29793)])]),
  .asg (.attr (.var 7239026) 7827314) (.sub (.var 7827314) (.c (.int 1))),
  .ret (.c (.bool true))]⟩
noncomputable def f340 : MF := ⟨[7239026, 521611275877], [], [
  .ite (.cmp (.sub (.var 521611275877) (.c (.int 0))) [.eq] [(.c (.str [103, 114, 111, 117, 112]))]) [.asg (.sub (.attr (.var 7239026) 126926843769447) (.sub (.var 521611275877) (.c (.int 1)))) (.sub (.var 521611275877) (.c (.int 2)))] [.ite (.cmp (.sub (.var 521611275877) (.c (.int 0))) [.eq] [(.c (.str [114, 101, 103, 105, 115, 116, 101, 114]))]) [.asg (.sub (.attr (.var 7239026) 2129618691208608441714) (.sub (.var 521611275877) (.c (.int 1)))) (.sub (.var 521611275877) (.c (.int 2)))] []]]⟩
noncomputable def f389 : MF := ⟨[7239026], [], [
  .whl (.cmp (.attr (.var 7239026) 1701603696) [.ne] [(.list [])]) [.asg (.var 521611275877) (.meth (.attr (.var 7239026) 1701603696) 7368560 []), .ite (.cmp (.sub (.var 521611275877) (.c (.int 0))) [.eq] [(.c (.str [116, 114, 121]))]) [.asg (.attr (.var 7239026) 7827314) (.sub (.var 521611275877) (.c (.int 1))), .asg (.attr (.var 7239026) 29793) (.sub (.var 521611275877) (.c (.int 2))), .ret (.c (.bool true))] [], .ite (.cmp (.sub (.var 521611275877) (.c (.int 0))) [.eq] [(.c (.str [108, 101, 115, 115]))]) [.asg (.attr (.var 7239026) 7827314) (.sub (.var 521611275877) (.c (.int 1))), .asg (.attr (.var 7239026) 29793) (.bin .sub (.sub (.var 521611275877) (.c (.int 3))) (.c (.int 1))), .ite (.cmp (.attr (.var 7239026) 29793) [.gt] [(.sub (.var 521611275877) (.c (.int 2)))]) [.expr (.meth (.attr (.var 7239026) 1701603696) 110425311047777 [(.tup [(.c (.str [108, 101, 115, 115])), (.sub (.var 521611275877) (.c (.int 1))), (.sub (.var 521611275877) (.c (.int 2))), (.attr (.var 7239026) 29793)])])] [], .ret (.c (.bool true))] [], .ite (.cmp (.sub (.var 521611275877) (.c (.int 0))) [.eq] [(.c (.str [109, 111, 114, 101]))]) [.ite (.call (.c (.ref 382)) [(.var 7239026), (.var 521611275877)]) [.ret (.c (.bool true))] []] [.expr (.call (.c (.ref 340)) [(.var 7239026), (.var 521611275877)])]],
  .ret (.c (.bool false))]⟩
noncomputable def f396 : MF := ⟨[7239026, 495606460279, 500135195763], [], [
  .asg (.attr (.var 7239026) 29793) (.var 500135195763),
  .asg (.attr (.var 7239026) 7827314) (.c (.int 0)),
  .asg (.attr (.var 7239026) 1701603696) (.list []),
  .asg (.attr (.var 7239026) 126926843769447) (.bin .mul (.list [(.c .none)]) (.bin .add (.attr (.attr (.var 7239026) 30787916450984560) 126926843769447) (.c (.int 1)))),
  .asg (.attr (.var 7239026) 2129618691208608441714) (.bin .mul (.list [(.neg (.c (.int 1)))]) (.attr (.attr (.var 7239026) 30787916450984560) 2129618691208608441714)),
  .aug (.attr (.var 7239026) 495806936179) .add (.bin .fdiv (.bin .add (.attr (.attr (.var 7239026) 30787916450984560) 126926843769447) (.attr (.attr (.var 7239026) 30787916450984560) 2129618691208608441714)) (.c (.int 20))),
  .whl (.c (.bool true)) [.aug (.attr (.var 7239026) 495806936179) .add (.c (.int 1)), .ite (.cmp (.attr (.var 7239026) 495806936179) [.gt] [(.attr (.var 7239026) 1953722221)]) [.bad] [], .asg (.var 7827314) (.sub (.attr (.attr (.var 7239026) 30787916450984560) 1937207154) (.attr (.var 7239026) 7827314)), .ite (.cmp (.sub (.var 7827314) (.c (.int 0))) [.eq] [(.c (.str [101, 110, 100]))]) [.asg (.var 8388068008565633897) (.cmp (.attr (.var 7239026) 29793) [.ge] [(.attr (.var 7239026) 1852629276641531618668)]), .ite (.var 8388068008565633897) [.asg (.sub (.attr (.var 7239026) 126926843769447) (.c (.int 0))) (.tup [(.var 500135195763), (.attr (.var 7239026) 29793)]), .ret (.c (.bool true))] []] [.asg (.var 8388068008565633897) (.call (.sub (.var 495606460279) (.sub (.var 7827314) (.c (.int 0)))) [(.var 7239026), (.var 7827314)])], .ite (.bop true [(.not (.var 8388068008565633897)), (.not (.call (.c (.ref 389)) [(.var 7239026)]))]) [.ret (.c (.bool false))] []]]⟩
noncomputable def f404 : MF := ⟨[30787916450984560, 1954047348, 29793, 126943822178668, 1852629276641531618668, 474214786402, 500068348019], [.none, .none], [
  .asg (.var 7239026) (.call (.c (.ref 212)) [(.var 30787916450984560), (.var 1954047348), (.ite (.cmp (.var 474214786402) [.is] [(.c .none)]) (.var 29793) (.var 474214786402)), (.var 1852629276641531618668), (.attr (.var 126943822178668) 495806936179)]),
  .asg (.attr (.var 7239026) 495806936179) (.ite (.cmp (.var 500068348019) [.is] [(.c .none)]) (.c (.int 0)) (.sub (.var 500068348019) (.c (.int 0)))),
  .asg (.var 495606460279) (.call (.c (.ref 375)) []),
  .asg (.var 500135195763) (.var 29793),
  .whl (.bop true [(.cmp (.var 500135195763) [.le] [(.call (.c (.bi .len)) [(.var 1954047348)])]), (.not (.call (.c (.ref 396)) [(.var 7239026), (.var 495606460279), (.var 500135195763)]))]) [.aug (.var 500135195763) .add (.c (.int 1))],
  .ite (.cmp (.var 500068348019) [.isnot] [(.c .none)]) [.asg (.sub (.var 500068348019) (.c (.int 0))) (.attr (.var 7239026) 495806936179)] [],
  .ret (.ite (.cmp (.var 500135195763) [.le] [(.call (.c (.bi .len)) [(.var 1954047348)])]) (.attr (.var 7239026) 126926843769447) (.c .none))]⟩
noncomputable def f412 : MF := ⟨[30787916450984560, 1954047348, 29793, 2240446359306807501175, 126943822178668, 474214786402, 500068348019], [.none, .none], [
  .ite (.cmp (.var 29793) [.gt] [(.call (.c (.bi .len)) [(.var 1954047348)])]) [.ret (.c .none)] [],
  .ret (.call (.c (.ref 404)) [(.var 30787916450984560), (.var 1954047348), (.var 29793), (.var 126943822178668), (.ite (.var 2240446359306807501175) (.bin .add (.var 29793) (.c (.int 1))) (.c (.int 0))), (.var 474214786402), (.var 500068348019)])]⟩
noncomputable def f417 : MF := ⟨[500069396323, 32495402090325357, 126943822178668], [], [
  .aug (.var 500069396323) .add (.bin .add (.call (.c (.bi .len)) [(.var 32495402090325357)]) (.call (.c (.bi .sum)) [(.comp (.call (.c (.bi .len)) [(.var 125779768599917)]) [125779768599917] true (.var 32495402090325357) [(.cmp (.var 125779768599917) [.isnot] [(.c .none)])])])),
  .ite (.cmp (.var 500069396323) [.gt] [(.bin .mul (.c (.int 100)) (.attr (.var 126943822178668) 1954047348))]) [.bad] [],
  .ret (.var 500069396323)]⟩
noncomputable def f425 : MF := ⟨[30787916450984560, 1954047348, 29793, 126943822178668, 2240446359306807501175], [(.bool false)], [
  .asg (.var 431349919590) (.list []),
  .asg (.var 500068348019) (.list [(.c (.int 0))]),
  .asg (.var 126926843769447) (.call (.c (.ref 412)) [(.var 30787916450984560), (.var 1954047348), (.var 29793), (.var 2240446359306807501175), (.var 126943822178668), (.c .none), (.var 500068348019)]),
  .whl (.cmp (.var 126926843769447) [.isnot] [(.c .none)]) [.expr (.meth (.var 431349919590) 110425311047777 [(.var 126926843769447)]), .asg (.vars [474214786402, 6581861]) (.sub (.var 126926843769447) (.c (.int 0))), .asg (.var 126926843769447) (.call (.c (.ref 412)) [(.var 30787916450984560), (.var 1954047348), (.var 6581861), (.cmp (.var 474214786402) [.eq] [(.var 6581861)]), (.var 126943822178668), (.c .none), (.var 500068348019)])],
  .ret (.var 431349919590)]⟩
noncomputable def f432 : MF := ⟨[1954047348, 1919508848], [], [
  .ret (.ite (.cmp (.var 1919508848) [.is] [(.c .none)]) (.c .none) (.slice (.var 1954047348) (.sub (.var 1919508848) (.c (.int 0))) (.sub (.var 1919508848) (.c (.int 1))) (.c .none)))]⟩
noncomputable def f439 : MF := ⟨[126875152509286], [], [
  .asg (.var 500069396323) (.call (.c (.bi .len)) [(.var 126875152509286)]),
  .whl (.bop true [(.cmp (.var 500069396323) [.gt] [(.c (.int 0))]), (.bop false [(.cmp (.sub (.var 126875152509286) (.bin .sub (.var 500069396323) (.c (.int 1)))) [.is] [(.c .none)]), (.cmp (.sub (.var 126875152509286) (.bin .sub (.var 500069396323) (.c (.int 1)))) [.eq] [(.c (.str []))])])]) [.aug (.var 500069396323) .sub (.c (.int 1))],
  .ret (.slice (.var 126875152509286) (.c .none) (.var 500069396323) (.c .none))]⟩
noncomputable def f446 : MF := ⟨[126875152509286, 1953719666, 128047527195497, 499984984428], [], [
  .ite (.bop false [(.cmp (.var 1953719666) [.ne] [(.c (.str []))]), (.bop true [(.var 128047527195497), (.cmp (.var 499984984428) [.ne] [(.c (.int 0))])])]) [.ret (.bin .add (.var 126875152509286) (.list [(.var 1953719666)]))] [],
  .ret (.ite (.cmp (.var 499984984428) [.eq] [(.c (.int 0))]) (.call (.c (.ref 439)) [(.var 126875152509286)]) (.var 126875152509286))]⟩
noncomputable def f451 : MF := ⟨[30787916450984560, 1954047348, 499984984428, 126943822178668], [], [
  .asg (.var 126875152509286) (.list []),
  .asg (.var 29793) (.c (.int 0)),
  .asg (.var 1937012067) (.c (.int 0)),
  .asg (.var 1953523051) (.c (.int 0)),
  .asg (.var 500068348019) (.list [(.c (.int 0))]),
  .whl (.bop true [(.cmp (.var 29793) [.lt] [(.call (.c (.bi .len)) [(.var 1954047348)])]), (.bop false [(.cmp (.var 499984984428) [.le] [(.c (.int 0))]), (.cmp (.var 1937012067) [.lt] [(.bin .sub (.var 499984984428) (.c (.int 1)))])])]) [.asg (.var 126926843769447) (.call (.c (.ref 404)) [(.var 30787916450984560), (.var 1954047348), (.var 29793), (.var 126943822178668), (.bin .add (.var 29793) (.c (.int 1))), (.c .none), (.var 500068348019)]), .ite (.cmp (.var 126926843769447) [.is] [(.c .none)]) [.brk] [], .aug (.var 1937012067) .add (.c (.int 1)), .expr (.meth (.var 126875152509286) 110425311047777 [(.slice (.var 1954047348) (.var 29793) (.sub (.sub (.var 126926843769447) (.c (.int 0))) (.c (.int 0))) (.c .none))]), .asg (.var 31073733908391266) (.comp (.call (.c (.ref 432)) [(.var 1954047348), (.var 1919508848)]) [1919508848] true (.slice (.var 126926843769447) (.c (.int 1)) (.c .none) (.c .none)) []), .asg (.var 1953523051) (.call (.c (.ref 417)) [(.var 1953523051), (.var 31073733908391266), (.var 126943822178668)]), .expr (.meth (.var 126875152509286) 110425311311973 [(.var 31073733908391266)]), .asg (.var 29793) (.sub (.sub (.var 126926843769447) (.c (.int 0))) (.c (.int 1)))],
  .ret (.call (.c (.ref 446)) [(.var 126875152509286), (.slice (.var 1954047348) (.var 29793) (.c .none) (.c .none)), (.cmp (.var 1937012067) [.gt] [(.c (.int 0))]), (.var 499984984428)])]⟩
noncomputable def f459 : MF := ⟨[30787916450984560, 1954047348, 28538242730059122, 1999265653641409688425, 126943822178668, 474214786402], [.none], [
  .asg (.var 495874892144) (.list []),
  .asg (.var 1701736292) (.c (.int 0)),
  .asg (.var 500069396323) (.c (.int 0)),
  .asg (.var 500068348019) (.list [(.c (.int 0))]),
  .asg (.var 126926843769447) (.call (.c (.ref 412)) [(.var 30787916450984560), (.var 1954047348), (.c (.int 0)), (.c (.bool false)), (.var 126943822178668), (.var 474214786402), (.var 500068348019)]),
  .whl (.cmp (.var 126926843769447) [.isnot] [(.c .none)]) [.asg (.vars [500153084262, 6581861]) (.sub (.var 126926843769447) (.c (.int 0))), .aug (.var 500069396323) .add (.c (.int 1)), .expr (.meth (.var 495874892144) 110425311047777 [(.slice (.var 1954047348) (.var 1701736292) (.var 500153084262) (.c .none))]), .expr (.meth (.var 495874892144) 110425311047777 [(.call (.var 28538242730059122) [(.var 126926843769447)])]), .asg (.var 1701736292) (.var 6581861), .ite (.not (.var 1999265653641409688425)) [.brk] [], .asg (.var 126926843769447) (.call (.c (.ref 412)) [(.var 30787916450984560), (.var 1954047348), (.var 6581861), (.cmp (.var 500153084262) [.eq] [(.var 6581861)]), (.var 126943822178668), (.c .none), (.var 500068348019)])],
  .ret (.tup [(.bin .add (.meth (.c (.str [])) 1852403562 [(.var 495874892144)]) (.slice (.var 1954047348) (.var 1701736292) (.c .none) (.c .none))), (.var 500069396323)])]⟩
noncomputable def f474 : MF := ⟨[1718379891, 448629336439, 448630121828, 495806936179, 1954047348, 495756604521], [(.int 64), (.int 50), (.int 1000000), (.int 100000), (.int 10000)], [
  .asg (.attr (.var 1718379891) 448629336439) (.var 448629336439),
  .asg (.attr (.var 1718379891) 448630121828) (.var 448630121828),
  .asg (.attr (.var 1718379891) 495806936179) (.var 495806936179),
  .asg (.attr (.var 1718379891) 1954047348) (.var 1954047348),
  .asg (.attr (.var 1718379891) 495756604521) (.var 495756604521)]⟩
noncomputable def f496 : MF := ⟨[1718379891, 1937207154, 126926843769447, 2129618691208608441714, 495622906222], [], [
  .asg (.attr (.var 1718379891) 1937207154) (.var 1937207154),
  .asg (.attr (.var 1718379891) 126926843769447) (.var 126926843769447),
  .asg (.attr (.var 1718379891) 2129618691208608441714) (.var 2129618691208608441714),
  .asg (.attr (.var 1718379891) 495622906222) (.var 495622906222)]⟩
noncomputable def f517 : MF := ⟨[1718379891], [], [
  .asg (.attr (.var 1718379891) 1937207154) (.list []),
  .asg (.attr (.var 1718379891) 2129618691208608441714) (.c (.int 0))]⟩
noncomputable def f524 : MF := ⟨[1718379891, 7827314], [], [
  .expr (.meth (.attr (.var 1718379891) 1937207154) 110425311047777 [(.var 7827314)]),
  .ret (.bin .sub (.call (.c (.bi .len)) [(.attr (.var 1718379891) 1937207154)]) (.c (.int 1)))]⟩
noncomputable def f531 : MF := ⟨[1718379891], [], [
  .aug (.attr (.var 1718379891) 2129618691208608441714) .add (.c (.int 1)),
  .ret (.bin .sub (.attr (.var 1718379891) 2129618691208608441714) (.c (.int 1)))]⟩
noncomputable def f545 : MF := ⟨[491327807853, 1701080942], [], [
  .asg (.var 1685221239) (.sub (.var 1701080942) (.c (.int 0))),
  .ite (.cmp (.var 1685221239) [.in_] [(.tup [(.c (.str [115, 105, 103, 110])), (.c (.str [97, 110, 121])), (.c (.str [115, 101, 116])), (.c (.str [97, 116])), (.c (.str [98, 97, 99, 107]))])]) [.expr (.meth (.var 491327807853) 6579297 [(.var 1701080942)])] [.ite (.cmp (.var 1685221239) [.eq] [(.c (.str [115, 101, 113]))]) [.for_ (.var 6647407) (.sub (.var 1701080942) (.c (.int 1))) [.expr (.call (.c (.ref 545)) [(.var 491327807853), (.var 6647407)])]] [.ite (.cmp (.var 1685221239) [.eq] [(.c (.str [97, 108, 116]))]) [.expr (.call (.c (.ref 552)) [(.var 491327807853), (.sub (.var 1701080942) (.c (.int 1)))])] [.ite (.cmp (.var 1685221239) [.eq] [(.c (.str [103, 114, 111, 117, 112]))]) [.asg (.var 8243122732010005874) (.meth (.var 491327807853) 448612627046 []), .expr (.meth (.var 491327807853) 6579297 [(.tup [(.c (.str [111, 112, 101, 110])), (.var 8243122732010005874)])]), .expr (.call (.c (.ref 545)) [(.var 491327807853), (.sub (.var 1701080942) (.c (.int 2)))]), .expr (.meth (.var 491327807853) 6579297 [(.tup [(.c (.str [99, 108, 111, 115, 101])), (.sub (.var 1701080942) (.c (.int 1))), (.var 8243122732010005874)])])] [.ite (.cmp (.var 1685221239) [.eq] [(.c (.str [114, 101, 112]))]) [.expr (.call (.c (.ref 566)) [(.var 491327807853), (.var 1701080942)])] [.ite (.cmp (.var 1685221239) [.eq] [(.c (.str [97, 116, 111, 109, 105, 99]))]) [.expr (.call (.c (.ref 559)) [(.var 491327807853), (.sub (.var 1701080942) (.c (.int 1)))])] [.expr (.call (.c (.ref 580)) [(.var 491327807853), (.var 1701080942)])]]]]]]]⟩
noncomputable def f552 : MF := ⟨[491327807853, 8315167063272419938], [], [
  .asg (.var 495807460714) (.list []),
  .for_ (.var 6647407) (.slice (.var 8315167063272419938) (.c .none) (.bin .sub (.call (.c (.bi .len)) [(.var 8315167063272419938)]) (.c (.int 1))) (.c .none)) [.asg (.var 499984920691) (.meth (.var 491327807853) 6579297 [(.tup [(.c (.str [115, 112, 108, 105, 116])), (.c (.int 0)), (.c (.int 0))])]), .expr (.call (.c (.ref 545)) [(.var 491327807853), (.var 6647407)]), .expr (.meth (.var 495807460714) 110425311047777 [(.meth (.var 491327807853) 6579297 [(.tup [(.c (.str [106, 117, 109, 112])), (.c (.int 0))])])]), .asg (.sub (.attr (.var 491327807853) 1937207154) (.var 499984920691)) (.tup [(.c (.str [115, 112, 108, 105, 116])), (.bin .add (.var 499984920691) (.c (.int 1))), (.call (.c (.bi .len)) [(.attr (.var 491327807853) 1937207154)])])],
  .expr (.call (.c (.ref 545)) [(.var 491327807853), (.sub (.var 8315167063272419938) (.bin .sub (.call (.c (.bi .len)) [(.var 8315167063272419938)]) (.c (.int 1))))]),
  .for_ (.var 29793) (.var 495807460714) [.asg (.sub (.attr (.var 491327807853) 1937207154) (.var 29793)) (.tup [(.c (.str [106, 117, 109, 112])), (.call (.c (.bi .len)) [(.attr (.var 491327807853) 1937207154)])])]]⟩
noncomputable def f566 : MF := ⟨[491327807853, 1701080942], [], [
  .asg (.vars [1685221239, 491328007785, 500151969132, 1953722221, 1701080941]) (.var 1701080942),
  .ite (.cmp (.var 1701080941) [.eq] [(.c (.str [111, 119, 110]))]) [.expr (.call (.c (.ref 559)) [(.var 491327807853), (.tup [(.var 1685221239), (.var 491328007785), (.var 500151969132), (.var 1953722221), (.c (.str [103, 114, 101, 101, 100, 121]))])])] [.ite (.cmp (.sub (.var 491328007785) (.c (.int 0))) [.in_] [(.c (.tup [(.str [115, 105, 103, 110]), (.str [97, 110, 121]), (.str [115, 101, 116])]))]) [.expr (.meth (.var 491327807853) 6579297 [(.tup [(.c (.str [114, 117, 110])), (.var 491328007785), (.var 500151969132), (.var 1953722221), (.cmp (.var 1701080941) [.eq] [(.c (.str [108, 97, 122, 121]))])])])] [.expr (.call (.c (.ref 573)) [(.var 491327807853), (.var 491328007785), (.var 500151969132), (.var 1953722221), (.cmp (.var 1701080941) [.eq] [(.c (.str [108, 97, 122, 121]))])])]]]⟩
noncomputable def f587 : MF := ⟨[1701080942, 126926843769447, 495622906222], [], [
  .asg (.var 491327807853) (.call (.c (.ref 534)) []),
  .expr (.call (.c (.ref 545)) [(.var 491327807853), (.var 1701080942)]),
  .expr (.meth (.var 491327807853) 6579297 [(.tup [(.c (.str [101, 110, 100]))])]),
  .ret (.call (.c (.ref 499)) [(.attr (.var 491327807853) 1937207154), (.var 126926843769447), (.attr (.var 491327807853) 2129618691208608441714), (.var 495622906222)])]⟩
noncomputable def f602 : MF := ⟨[1718379891, 1954047348, 465491488628], [], [
  .asg (.attr (.var 1718379891) 1954047348) (.var 1954047348),
  .asg (.attr (.var 1718379891) 465491488628) (.var 465491488628),
  .asg (.attr (.var 1718379891) 29793) (.c (.int 0)),
  .asg (.attr (.var 1718379891) 126926843769447) (.c (.int 0)),
  .asg (.attr (.var 1718379891) 448630121828) (.c (.int 0)),
  .asg (.attr (.var 1718379891) 495622906222) .edict,
  .asg (.attr (.var 1718379891) 121381873217651) (.list [])]⟩
noncomputable def f609 : MF := ⟨[1718379891], [], [
  .ret (.slice (.attr (.var 1718379891) 1954047348) (.attr (.var 1718379891) 29793) (.bin .add (.attr (.var 1718379891) 29793) (.c (.int 1))) (.c .none))]⟩
noncomputable def f616 : MF := ⟨[1718379891, 1685221239], [], [
  .ite (.cmp (.slice (.attr (.var 1718379891) 1954047348) (.attr (.var 1718379891) 29793) (.bin .add (.attr (.var 1718379891) 29793) (.call (.c (.bi .len)) [(.var 1685221239)])) (.c .none)) [.ne] [(.var 1685221239)]) [.ret (.c (.bool false))] [],
  .aug (.attr (.var 1718379891) 29793) .add (.call (.c (.bi .len)) [(.var 1685221239)]),
  .ret (.c (.bool true))]⟩
noncomputable def f630 : MF := ⟨[435744240755, 495773510003, 1953722221], [], [
  .asg (.var 474416112994) (.attr (.var 435744240755) 29793),
  .whl (.bop true [(.cmp (.attr (.var 435744240755) 29793) [.lt] [(.call (.c (.bi .len)) [(.attr (.var 435744240755) 1954047348)])]), (.cmp (.sub (.attr (.var 435744240755) 1954047348) (.attr (.var 435744240755) 29793)) [.in_] [(.var 495773510003)]), (.cmp (.bin .sub (.attr (.var 435744240755) 29793) (.var 474416112994)) [.ne] [(.var 1953722221)])]) [.aug (.attr (.var 435744240755) 29793) .add (.c (.int 1))],
  .ret (.slice (.attr (.var 435744240755) 1954047348) (.var 474416112994) (.attr (.var 435744240755) 29793) (.c .none))]⟩
noncomputable def f673 : MF := ⟨[435744240755], [], [
  .asg (.var 1852270963) (.meth (.var 435744240755) 1801807216 []),
  .ite (.cmp (.var 1852270963) [.eq] [(.c (.str []))]) [.bad] [],
  .ite (.cmp (.var 1852270963) [.in_] [(.c (.str [48, 49, 50, 51, 52, 53, 54, 55]))]) [.ret (.call .bad [(.call (.c (.ref 637)) [(.call (.c (.ref 630)) [(.var 435744240755), (.c (.str [48, 49, 50, 51, 52, 53, 54, 55])), (.c (.int 3))]), (.c (.int 8))])])] [],
  .aug (.attr (.var 435744240755) 29793) .add (.c (.int 1)),
  .ite (.cmp (.var 1852270963) [.eq] [(.c (.str [120]))]) [.ret (.call (.c (.ref 656)) [(.var 435744240755)])] [],
  .ite (.cmp (.var 1852270963) [.eq] [(.c (.str [99]))]) [.ret (.call (.c (.ref 680)) [(.var 435744240755)])] [],
  .ite (.cmp (.var 1852270963) [.eq] [(.c (.str [111]))]) [.ret (.call (.c (.ref 661)) [(.var 435744240755)])] [],
  .ite (.cmp (.var 1852270963) [.eq] [(.c (.str [78]))]) [.ret (.call (.c (.ref 666)) [(.var 435744240755)])] [],
  .ret (.meth (.c (.ref 588)) 7628135 [(.var 1852270963), (.var 1852270963)])]⟩
noncomputable def f694 : MF := ⟨[1954047348, 29793], [], [
  .ite (.cmp (.slice (.var 1954047348) (.var 29793) (.bin .add (.var 29793) (.c (.int 2))) (.c .none)) [.ne] [(.c (.str [91, 58]))]) [.ret (.neg (.c (.int 1)))] [],
  .asg (.var 435728378979) (.call (.c (.ref 687)) [(.var 1954047348), (.bin .add (.var 29793) (.c (.int 2))), (.c (.str [97, 98, 99, 100, 101, 102, 103, 104, 105, 106, 107, 108, 109, 110, 111, 112, 113, 114, 115, 116, 117, 118, 119, 120, 121, 122, 94]))]),
  .ret (.ite (.cmp (.slice (.var 1954047348) (.var 435728378979) (.bin .add (.var 435728378979) (.c (.int 2))) (.c .none)) [.eq] [(.c (.str [58, 93]))]) (.var 435728378979) (.neg (.c (.int 1))))]⟩
noncomputable def f701 : MF := ⟨[435744240755, 1851980491092171649897], [], [
  .asg (.var 435728378979) (.call (.c (.ref 694)) [(.attr (.var 435744240755) 1954047348), (.attr (.var 435744240755) 29793)]),
  .ite (.cmp (.var 435728378979) [.lt] [(.c (.int 0))]) [.ret (.c .none)] [],
  .asg (.var 1701667182) (.slice (.attr (.var 435744240755) 1954047348) (.bin .add (.attr (.var 435744240755) 29793) (.c (.int 2))) (.var 435728378979) (.c .none)),
  .asg (.var 1701994850) (.ite (.cmp (.slice (.var 1701667182) (.c .none) (.c (.int 1)) (.c .none)) [.eq] [(.c (.str [94]))]) (.slice (.var 1701667182) (.c (.int 1)) (.c .none) (.c .none)) (.var 1701667182)),
  .asg (.var 495756604521) (.call (.c (.ref 167)) [(.ite (.bop true [(.var 1851980491092171649897), (.cmp (.var 1701994850) [.in_] [(.tup [(.c (.str [108, 111, 119, 101, 114])), (.c (.str [117, 112, 112, 101, 114]))])])]) (.c (.str [97, 108, 112, 104, 97])) (.var 1701994850))]),
  .ite (.cmp (.var 495756604521) [.eq] [(.list [])]) [.bad] [],
  .asg (.attr (.var 435744240755) 29793) (.bin .add (.var 435728378979) (.c (.int 2))),
  .ret (.ite (.cmp (.slice (.var 1701667182) (.c .none) (.c (.int 1)) (.c .none)) [.eq] [(.c (.str [94]))]) (.list [(.tup [(.c (.str [110, 111, 110, 101])), (.var 495756604521)])]) (.var 495756604521))]⟩
noncomputable def f708 : MF := ⟨[435744240755, 1851980491092171649897], [], [
  .asg (.var 431349919590) (.call (.c (.ref 701)) [(.var 435744240755), (.var 1851980491092171649897)]),
  .ite (.cmp (.var 431349919590) [.isnot] [(.c .none)]) [.ret (.var 431349919590)] [],
  .asg (.var 1852270963) (.meth (.var 435744240755) 1801807216 []),
  .aug (.attr (.var 435744240755) 29793) .add (.c (.int 1)),
  .ite (.cmp (.var 1852270963) [.eq] [(.c (.str [92]))]) [.asg (.var 125780071048556) (.meth (.var 435744240755) 1801807216 []), .ite (.bop true [(.cmp (.var 125780071048556) [.ne] [(.c (.str []))]), (.cmp (.var 125780071048556) [.in_] [(.c (.str [100, 68, 119, 87, 115, 83, 104, 72, 118, 86]))])]) [.aug (.attr (.var 435744240755) 29793) .add (.c (.int 1)), .ret (.list [(.tup [(.c (.str [99, 108, 97, 115, 115])), (.var 125780071048556)])])] [], .ite (.bop false [(.cmp (.var 125780071048556) [.eq] [(.c (.str [112]))]), (.cmp (.var 125780071048556) [.eq] [(.c (.str [80]))])]) [.bad] [], .asg (.var 1852270963) (.call (.c (.ref 673)) [(.var 435744240755)]), .ite (.cmp (.var 125780071048556) [.eq] [(.c (.str [98]))]) [.asg (.var 1852270963) (.c (.str [8]))] []] [],
  .ret (.list [(.tup [(.c (.str [114, 97, 110, 103, 101])), (.call (.c (.bi .ord)) [(.var 1852270963)]), (.call (.c (.bi .ord)) [(.var 1852270963)])])])]⟩
noncomputable def f715 : MF := ⟨[495756604521], [], [
  .ret (.bop true [(.cmp (.call (.c (.bi .len)) [(.var 495756604521)]) [.eq] [(.c (.int 1))]), (.cmp (.sub (.sub (.var 495756604521) (.c (.int 0))) (.c (.int 0))) [.eq] [(.c (.str [114, 97, 110, 103, 101]))]), (.cmp (.sub (.sub (.var 495756604521) (.c (.int 0))) (.c (.int 1))) [.eq] [(.sub (.sub (.var 495756604521) (.c (.int 0))) (.c (.int 2)))])])]⟩
noncomputable def f729 : MF := ⟨[435744240755, 1851980491092171649897], [], [
  .asg (.var 474416112994) (.attr (.var 435744240755) 29793),
  .aug (.attr (.var 435744240755) 29793) .add (.c (.int 1)),
  .asg (.var 474108155536075667764073) (.meth (.var 435744240755) 495807196019 [(.c (.str [94]))]),
  .asg (.var 495756604521) (.list []),
  .asg (.var 8391176327736030057) (.c (.bool true)),
  .whl (.bop false [(.var 8391176327736030057), (.cmp (.meth (.var 435744240755) 1801807216 []) [.ne] [(.c (.str [93]))])]) [.ite (.cmp (.meth (.var 435744240755) 1801807216 []) [.eq] [(.c (.str []))]) [.bad] [], .asg (.var 8391176327736030057) (.c (.bool false)), .asg (.var 431349919590) (.call (.c (.ref 708)) [(.var 435744240755), (.var 1851980491092171649897)]), .asg (.var 110425377629538) (.slice (.attr (.var 435744240755) 1954047348) (.attr (.var 435744240755) 29793) (.bin .add (.attr (.var 435744240755) 29793) (.c (.int 2))) (.c .none)), .ite (.bop true [(.call (.c (.ref 715)) [(.var 431349919590)]), (.cmp (.slice (.var 110425377629538) (.c .none) (.c (.int 1)) (.c .none)) [.eq] [(.c (.str [45]))]), (.cmp (.var 110425377629538) [.ne] [(.c (.str [45, 93]))]), (.cmp (.call (.c (.bi .len)) [(.var 110425377629538)]) [.eq] [(.c (.int 2))])]) [.asg (.var 431349919590) (.call (.c (.ref 722)) [(.var 435744240755), (.var 431349919590), (.var 1851980491092171649897)])] [], .expr (.meth (.var 495756604521) 110425311311973 [(.var 431349919590)])],
  .aug (.attr (.var 435744240755) 29793) .add (.c (.int 1)),
  .ret (.tup [(.c (.str [115, 101, 116])), (.var 495756604521), (.var 474108155536075667764073), (.var 1851980491092171649897)])]⟩
noncomputable def f740 : MF := ⟨[1954047348], [], [
  .asg (.var 431349919590) (.c (.int 0)),
  .asg (.var 29793) (.c (.int 0)),
  .whl (.cmp (.var 29793) [.lt] [(.call (.c (.bi .len)) [(.var 1954047348)])]) [.ite (.cmp (.sub (.var 1954047348) (.var 29793)) [.eq] [(.c (.str [92]))]) [.aug (.var 29793) .add (.c (.int 1))] [.ite (.cmp (.sub (.var 1954047348) (.var 29793)) [.eq] [(.c (.str [91]))]) [.asg (.var 29793) (.call (.c (.ref 747)) [(.var 1954047348), (.var 29793)])] [.ite (.cmp (.slice (.var 1954047348) (.var 29793) (.bin .add (.var 29793) (.c (.int 3))) (.c .none)) [.eq] [(.c (.str [40, 63, 35]))]) [.asg (.var 435728378979) (.meth (.var 1954047348) 1684957542 [(.c (.str [41])), (.var 29793)]), .asg (.var 29793) (.ite (.cmp (.var 435728378979) [.lt] [(.c (.int 0))]) (.call (.c (.bi .len)) [(.var 1954047348)]) (.var 435728378979))] [.ite (.bop true [(.cmp (.sub (.var 1954047348) (.var 29793)) [.eq] [(.c (.str [40]))]), (.call (.c (.ref 761)) [(.slice (.var 1954047348) (.bin .add (.var 29793) (.c (.int 1))) (.bin .add (.var 29793) (.c (.int 4))) (.c .none))])]) [.aug (.var 431349919590) .add (.c (.int 1))] []]]], .aug (.var 29793) .add (.c (.int 1))],
  .ret (.var 431349919590)]⟩
noncomputable def f747 : MF := ⟨[1954047348, 29793], [], [
  .aug (.var 29793) .add (.c (.int 1)),
  .ite (.cmp (.slice (.var 1954047348) (.var 29793) (.bin .add (.var 29793) (.c (.int 1))) (.c .none)) [.eq] [(.c (.str [94]))]) [.aug (.var 29793) .add (.c (.int 1))] [],
  .ite (.cmp (.slice (.var 1954047348) (.var 29793) (.bin .add (.var 29793) (.c (.int 1))) (.c .none)) [.eq] [(.c (.str [93]))]) [.aug (.var 29793) .add (.c (.int 1))] [],
  .whl (.bop true [(.cmp (.var 29793) [.lt] [(.call (.c (.bi .len)) [(.var 1954047348)])]), (.cmp (.sub (.var 1954047348) (.var 29793)) [.ne] [(.c (.str [93]))])]) [.asg (.var 110425377629538) (.call (.c (.ref 754)) [(.var 1954047348), (.var 29793)]), .ite (.cmp (.var 110425377629538) [.gt] [(.var 29793)]) [.asg (.var 29793) (.var 110425377629538)] [.aug (.var 29793) .add (.ite (.cmp (.sub (.var 1954047348) (.var 29793)) [.eq] [(.c (.str [92]))]) (.c (.int 2)) (.c (.int 1)))]],
  .ret (.var 29793)]⟩
noncomputable def f754 : MF := ⟨[1954047348, 29793], [], [
  .asg (.var 435728378979) (.call (.c (.ref 694)) [(.var 1954047348), (.var 29793)]),
  .ret (.ite (.cmp (.var 435728378979) [.lt] [(.c (.int 0))]) (.var 29793) (.bin .add (.var 435728378979) (.c (.int 2))))]⟩
noncomputable def f761 : MF := ⟨[495773510003], [], [
  .ite (.cmp (.slice (.var 495773510003) (.c .none) (.c (.int 1)) (.c .none)) [.ne] [(.c (.str [63]))]) [.ret (.c (.bool true))] [],
  .ret (.bop false [(.cmp (.slice (.var 495773510003) (.c .none) (.c (.int 2)) (.c .none)) [.eq] [(.c (.str [63, 39]))]), (.cmp (.slice (.var 495773510003) (.c .none) (.c (.int 3)) (.c .none)) [.eq] [(.c (.str [63, 80, 60]))]), (.bop true [(.cmp (.slice (.var 495773510003) (.c .none) (.c (.int 2)) (.c .none)) [.eq] [(.c (.str [63, 60]))]), (.cmp (.slice (.var 495773510003) (.c (.int 2)) (.c (.int 3)) (.c .none)) [.ne] [(.c (.str [61]))]), (.cmp (.slice (.var 495773510003) (.c (.int 2)) (.c (.int 3)) (.c .none)) [.ne] [(.c (.str [33]))])])])]⟩
noncomputable def f780 : MF := ⟨[435744240755], [], [
  .asg (.var 1852270963) (.meth (.var 435744240755) 1801807216 []),
  .ite (.bop true [(.cmp (.var 1852270963) [.ne] [(.c (.str []))]), (.cmp (.var 1852270963) [.in_] [(.c (.ref 730))])]) [.aug (.attr (.var 435744240755) 29793) .add (.c (.int 1)), .ret (.sub (.c (.ref 730)) (.var 1852270963))] [],
  .asg (.var 431349919590) (.ite (.cmp (.var 1852270963) [.eq] [(.c (.str [123]))]) (.call (.c (.ref 773)) [(.attr (.var 435744240755) 1954047348), (.attr (.var 435744240755) 29793)]) (.c .none)),
  .ite (.cmp (.var 431349919590) [.is] [(.c .none)]) [.ret (.c .none)] [],
  .asg (.vars [500151969132, 1953722221, 110425377629538]) (.var 431349919590),
  .ite (.cmp (.call (.c (.bi .max)) [(.var 500151969132), (.var 1953722221)]) [.gt] [(.c (.int 32766))]) [.bad] [],
  .ite (.cmp (.c (.int 0)) [.le, .lt] [(.var 1953722221), (.var 500151969132)]) [.bad] [],
  .asg (.attr (.var 435744240755) 29793) (.var 110425377629538),
  .ret (.tup [(.var 500151969132), (.var 1953722221)])]⟩
noncomputable def f829 : MF := ⟨[435744240755, 495655677030], [], [
  .ite (.meth (.var 435744240755) 495807196019 [(.c (.str [40, 63, 35]))]) [.expr (.call (.c (.ref 644)) [(.var 435744240755), (.c (.str [41]))]), .ret (.c (.bool true))] [],
  .ite (.cmp (.c (.str [120])) [.notin] [(.var 495655677030)]) [.ret (.c (.bool false))] [],
  .ite (.cmp (.meth (.var 435744240755) 1801807216 []) [.eq] [(.c (.str [35]))]) [.asg (.var 435728378979) (.meth (.attr (.var 435744240755) 1954047348) 1684957542 [(.c (.str [10])), (.attr (.var 435744240755) 29793)]), .asg (.attr (.var 435744240755) 29793) (.ite (.cmp (.var 435728378979) [.lt] [(.c (.int 0))]) (.call (.c (.bi .len)) [(.attr (.var 435744240755) 1954047348)]) (.bin .add (.var 435728378979) (.c (.int 1)))), .ret (.c (.bool true))] [],
  .ret (.cmp (.call (.c (.ref 630)) [(.var 435744240755), (.c (.str [32, 9, 10, 13, 12, 11])), (.neg (.c (.int 1)))]) [.ne] [(.c (.str []))])]⟩
noncomputable def f834 : MF := ⟨[435744240755, 495655677030], [], [
  .asg (.var 121424621892976) (.call (.c (.ref 630)) [(.var 435744240755), (.c (.str [105, 109, 115, 120])), (.neg (.c (.int 1)))]),
  .asg (.var 474147938676) (.ite (.meth (.var 435744240755) 495807196019 [(.c (.str [45]))]) (.call (.c (.ref 630)) [(.var 435744240755), (.c (.str [105, 109, 115, 120])), (.neg (.c (.int 1)))]) (.c (.str []))),
  .ret (.meth (.c (.str [])) 1852403562 [(.comp (.var 125780071048556) [125780071048556] true (.c (.str [105, 109, 115, 120])) [(.bop true [(.bop false [(.cmp (.var 125780071048556) [.in_] [(.var 495655677030)]), (.cmp (.var 125780071048556) [.in_] [(.var 121424621892976)])]), (.cmp (.var 125780071048556) [.notin] [(.var 474147938676)])])])])]⟩
noncomputable def f841 : MF := ⟨[435744240755, 495655677030], [], [
  .asg (.var 474416112994) (.attr (.var 435744240755) 29793),
  .ite (.not (.meth (.var 435744240755) 495807196019 [(.c (.str [40, 63]))])) [.ret (.c .none)] [],
  .asg (.var 431349919590) (.call (.c (.ref 834)) [(.var 435744240755), (.var 495655677030)]),
  .ite (.bop true [(.cmp (.attr (.var 435744240755) 29793) [.gt] [(.bin .add (.var 474416112994) (.c (.int 2)))]), (.meth (.var 435744240755) 495807196019 [(.c (.str [41]))])]) [.ret (.var 431349919590)] [],
  .asg (.attr (.var 435744240755) 29793) (.var 474416112994),
  .ret (.c .none)]⟩
noncomputable def f848 : MF := ⟨[435744240755, 495655677030], [], [
  .asg (.var 8315167063272419938) (.list []),
  .whl (.c (.bool true)) [.asg (.vars [1701080942, 495655677030]) (.call (.c (.ref 855)) [(.var 435744240755), (.var 495655677030)]), .expr (.meth (.var 8315167063272419938) 110425311047777 [(.var 1701080942)]), .ite (.not (.meth (.var 435744240755) 495807196019 [(.c (.str [124]))])) [.ret (.ite (.cmp (.call (.c (.bi .len)) [(.var 8315167063272419938)]) [.eq] [(.c (.int 1))]) (.sub (.var 8315167063272419938) (.c (.int 0))) (.tup [(.c (.str [97, 108, 116])), (.var 8315167063272419938)]))] []]]⟩
noncomputable def f855 : MF := ⟨[435744240755, 495655677030], [], [
  .asg (.var 495874892144) (.list []),
  .whl (.cmp (.meth (.var 435744240755) 1801807216 []) [.notin] [(.tup [(.c (.str [])), (.c (.str [124])), (.c (.str [41]))])]) [.ite (.call (.c (.ref 829)) [(.var 435744240755), (.var 495655677030)]) [.bad] [], .asg (.var 28258992578979939) (.call (.c (.ref 841)) [(.var 435744240755), (.var 495655677030)]), .ite (.cmp (.var 28258992578979939) [.isnot] [(.c .none)]) [.asg (.var 495655677030) (.var 28258992578979939), .bad] [], .expr (.meth (.var 495874892144) 110425311047777 [(.call (.c (.ref 869)) [(.var 435744240755), (.var 495655677030), (.call (.c (.ref 862)) [(.var 435744240755), (.var 495655677030)])])])],
  .ret (.tup [(.tup [(.c (.str [115, 101, 113])), (.var 495874892144)]), (.var 495655677030)])]⟩
noncomputable def f862 : MF := ⟨[435744240755, 495655677030], [], [
  .asg (.var 1852270963) (.meth (.var 435744240755) 1801807216 []),
  .ite (.cmp (.var 1852270963) [.eq] [(.c (.str [40]))]) [.ret (.call (.c (.ref 897)) [(.var 435744240755), (.var 495655677030)])] [],
  .ite (.cmp (.var 1852270963) [.eq] [(.c (.str [91]))]) [.ret (.call (.c (.ref 729)) [(.var 435744240755), (.cmp (.c (.str [105])) [.in_] [(.var 495655677030)])])] [],
  .ite (.cmp (.var 1852270963) [.eq] [(.c (.str [92]))]) [.ret (.call (.c (.ref 911)) [(.var 435744240755), (.var 495655677030)])] [],
  .ite (.bop false [(.cmp (.var 1852270963) [.in_] [(.c (.ref 730))]), (.bop true [(.cmp (.var 1852270963) [.eq] [(.c (.str [123]))]), (.cmp (.call (.c (.ref 773)) [(.attr (.var 435744240755) 1954047348), (.attr (.var 435744240755) 29793)]) [.isnot] [(.c .none)])])]) [.bad] [],
  .aug (.attr (.var 435744240755) 29793) .add (.c (.int 1)),
  .ite (.cmp (.var 1852270963) [.eq] [(.c (.str [46]))]) [.ret (.tup [(.c (.str [97, 110, 121])), (.cmp (.c (.str [115])) [.in_] [(.var 495655677030)])])] [],
  .ite (.cmp (.var 1852270963) [.eq] [(.c (.str [94]))]) [.ret (.tup [(.c (.str [97, 116])), (.ite (.cmp (.c (.str [109])) [.in_] [(.var 495655677030)]) (.c (.str [94, 109])) (.c (.str [65])))])] [],
  .ite (.cmp (.var 1852270963) [.eq] [(.c (.str [36]))]) [.ret (.tup [(.c (.str [97, 116])), (.ite (.cmp (.c (.str [109])) [.in_] [(.var 495655677030)]) (.c (.str [36, 109])) (.c (.str [90])))])] [],
  .ret (.tup [(.c (.str [115, 105, 103, 110])), (.var 1852270963), (.cmp (.c (.str [105])) [.in_] [(.var 495655677030)])])]⟩
noncomputable def f869 : MF := ⟨[435744240755, 495655677030, 1701080942], [], [
  .whl (.call (.c (.ref 829)) [(.var 435744240755), (.var 495655677030)]) [.bad],
  .asg (.var 500069396323) (.call (.c (.ref 780)) [(.var 435744240755)]),
  .ite (.cmp (.var 500069396323) [.is] [(.c .none)]) [.ret (.var 1701080942)] [],
  .whl (.call (.c (.ref 829)) [(.var 435744240755), (.var 495655677030)]) [.bad],
  .asg (.var 1701080941) (.c (.str [103, 114, 101, 101, 100, 121])),
  .ite (.meth (.var 435744240755) 495807196019 [(.c (.str [63]))]) [.asg (.var 1701080941) (.c (.str [108, 97, 122, 121]))] [.ite (.meth (.var 435744240755) 495807196019 [(.c (.str [43]))]) [.asg (.var 1701080941) (.c (.str [111, 119, 110]))] []],
  .whl (.call (.c (.ref 829)) [(.var 435744240755), (.var 495655677030)]) [.bad],
  .asg (.var 474416112994) (.attr (.var 435744240755) 29793),
  .ite (.cmp (.call (.c (.ref 780)) [(.var 435744240755)]) [.isnot] [(.c .none)]) [.bad] [],
  .ret (.tup [(.c (.str [114, 101, 112])), (.var 1701080942), (.sub (.var 500069396323) (.c (.int 0))), (.sub (.var 500069396323) (.c (.int 1))), (.var 1701080941)])]⟩
noncomputable def f876 : MF := ⟨[435744240755, 495655677030, 474416112994], [], [
  .ite (.cmp (.attr (.var 435744240755) 448630121828) [.eq] [(.c (.int 40))]) [.bad] [],
  .aug (.attr (.var 435744240755) 448630121828) .add (.c (.int 1)),
  .asg (.var 1701080942) (.call (.c (.ref 848)) [(.var 435744240755), (.var 495655677030)]),
  .aug (.attr (.var 435744240755) 448630121828) .sub (.c (.int 1)),
  .ite (.not (.meth (.var 435744240755) 495807196019 [(.c (.str [41]))])) [.bad] [],
  .ret (.var 1701080942)]⟩
noncomputable def f883 : MF := ⟨[435744240755, 495655677030, 474416112994, 1701667182], [], [
  .aug (.attr (.var 435744240755) 126926843769447) .add (.c (.int 1)),
  .asg (.var 125779768604014) (.attr (.var 435744240755) 126926843769447),
  .ite (.cmp (.var 1701667182) [.ne] [(.c (.str []))]) [.expr (.meth (.meth (.attr (.var 435744240755) 495622906222) 549795218527000317945203 [(.var 1701667182), (.list [])]) 110425311047777 [(.var 125779768604014)])] [],
  .ret (.tup [(.c (.str [103, 114, 111, 117, 112])), (.var 125779768604014), (.call (.c (.ref 876)) [(.var 435744240755), (.var 495655677030), (.var 474416112994)])])]⟩
noncomputable def f897 : MF := ⟨[435744240755, 495655677030], [], [
  .asg (.var 474416112994) (.attr (.var 435744240755) 29793),
  .for_ (.vars [29113321703960687, 1852630412372333261673, 474108155536075667764073]) (.c (.ref 818)) [.ite (.meth (.var 435744240755) 495807196019 [(.var 29113321703960687)]) [.ret (.call (.c (.ref 890)) [(.var 435744240755), (.var 495655677030), (.var 474416112994), (.var 1852630412372333261673), (.var 474108155536075667764073)])] []],
  .ite (.meth (.var 435744240755) 495807196019 [(.c (.str [40, 63, 62]))]) [.ret (.tup [(.c (.str [97, 116, 111, 109, 105, 99])), (.call (.c (.ref 876)) [(.var 435744240755), (.var 495655677030), (.var 474416112994)])])] [],
  .for_ (.vars [29113321703960687, 435728378979]) (.c (.ref 822)) [.ite (.meth (.var 435744240755) 495807196019 [(.var 29113321703960687)]) [.ret (.call (.c (.ref 883)) [(.var 435744240755), (.var 495655677030), (.var 474416112994), (.call (.c (.ref 787)) [(.var 435744240755), (.var 435728378979), (.var 474416112994)])])] []],
  .ite (.meth (.var 435744240755) 495807196019 [(.c (.str [40, 63, 80, 61]))]) [.ret (.tup [(.c (.str [98, 97, 99, 107])), (.call (.c (.ref 794)) [(.var 435744240755), (.meth (.attr (.var 435744240755) 495622906222) 549795218527000317945203 [(.call (.c (.ref 787)) [(.var 435744240755), (.c (.str [41])), (.var 474416112994)]), (.list [])]), (.var 474416112994)]), (.cmp (.c (.str [105])) [.in_] [(.var 495655677030)])])] [],
  .ite (.not (.meth (.var 435744240755) 495807196019 [(.c (.str [40, 63]))])) [.aug (.attr (.var 435744240755) 29793) .add (.c (.int 1)), .ret (.call (.c (.ref 883)) [(.var 435744240755), (.var 495655677030), (.var 474416112994), (.c (.str []))])] [],
  .asg (.var 28258992578979939) (.call (.c (.ref 834)) [(.var 435744240755), (.var 495655677030)]),
  .ite (.not (.meth (.var 435744240755) 495807196019 [(.c (.str [58]))])) [.bad] [],
  .ret (.call (.c (.ref 876)) [(.var 435744240755), (.var 28258992578979939), (.var 474416112994)])]⟩
noncomputable def f911 : MF := ⟨[435744240755, 495655677030], [], [
  .asg (.var 29793) (.attr (.var 435744240755) 29793),
  .asg (.var 1851980491092171649897) (.cmp (.c (.str [105])) [.in_] [(.var 495655677030)]),
  .aug (.attr (.var 435744240755) 29793) .add (.c (.int 1)),
  .asg (.var 125780071048556) (.meth (.var 435744240755) 1801807216 []),
  .ite (.bop false [(.bop true [(.cmp (.var 125780071048556) [.ne] [(.c (.str []))]), (.cmp (.var 125780071048556) [.in_] [(.c (.str [100, 68, 119, 87, 115, 83, 104, 72, 118, 86]))])]), (.bop true [(.cmp (.var 125780071048556) [.eq] [(.c (.str [78]))]), (.not (.call (.c (.ref 904)) [(.var 435744240755)]))])]) [.aug (.attr (.var 435744240755) 29793) .add (.c (.int 1)), .ret (.tup [(.c (.str [115, 101, 116])), (.list [(.tup [(.c (.str [99, 108, 97, 115, 115])), (.var 125780071048556)])]), (.c (.bool false)), (.c (.bool false))])] [],
  .ite (.bop true [(.cmp (.var 125780071048556) [.ne] [(.c (.str []))]), (.cmp (.var 125780071048556) [.in_] [(.c (.str [65, 122, 90, 98, 66, 71]))])]) [.aug (.attr (.var 435744240755) 29793) .add (.c (.int 1)), .ret (.tup [(.c (.str [97, 116])), (.var 125780071048556)])] [],
  .ite (.meth (.var 435744240755) 495807196019 [(.c (.str [103]))]) [.ret (.tup [(.c (.str [98, 97, 99, 107])), (.call (.c (.ref 808)) [(.var 435744240755), (.var 29793)]), (.var 1851980491092171649897)])] [],
  .ite (.meth (.var 435744240755) 495807196019 [(.c (.str [107]))]) [.ret (.tup [(.c (.str [98, 97, 99, 107])), (.call (.c (.ref 801)) [(.var 435744240755), (.var 29793)]), (.var 1851980491092171649897)])] [],
  .ite (.bop true [(.cmp (.var 125780071048556) [.ne] [(.c (.str []))]), (.cmp (.var 125780071048556) [.in_] [(.c (.str [49, 50, 51, 52, 53, 54, 55, 56, 57]))])]) [.asg (.var 474416112994) (.attr (.var 435744240755) 29793), .asg (.var 125779768604014) (.call (.c (.ref 637)) [(.call (.c (.ref 630)) [(.var 435744240755), (.c (.str [48, 49, 50, 51, 52, 53, 54, 55, 56, 57])), (.neg (.c (.int 1)))]), (.c (.int 10))]), .ite (.bop false [(.cmp (.var 125779768604014) [.lt] [(.c (.int 10))]), (.cmp (.var 125780071048556) [.in_] [(.c (.str [56, 57]))]), (.cmp (.var 125779768604014) [.le] [(.attr (.var 435744240755) 126926843769447)])]) [.ret (.tup [(.c (.str [98, 97, 99, 107])), (.call (.c (.ref 794)) [(.var 435744240755), (.list [(.var 125779768604014)]), (.var 29793)]), (.var 1851980491092171649897)])] [], .asg (.attr (.var 435744240755) 29793) (.var 474416112994)] [],
  .ite (.bop true [(.cmp (.var 125780071048556) [.ne] [(.c (.str []))]), (.cmp (.var 125780071048556) [.in_] [(.c (.str [112, 80, 75, 82, 88]))])]) [.bad] [],
  .ret (.tup [(.c (.str [115, 105, 103, 110])), (.call (.c (.ref 673)) [(.var 435744240755)]), (.var 1851980491092171649897)])]⟩
noncomputable def f916 : MF := ⟨[1954047348, 495655677030], [], [
  .asg (.var 435744240755) (.call (.c (.ref 619)) [(.var 1954047348), (.call (.c (.ref 740)) [(.var 1954047348)])]),
  .asg (.var 1701080942) (.call (.c (.ref 848)) [(.var 435744240755), (.meth (.c (.str [])) 1852403562 [(.comp (.var 125780071048556) [125780071048556] true (.c (.str [105, 109, 115, 120])) [(.cmp (.var 125780071048556) [.in_] [(.var 495655677030)])])])]),
  .ite (.cmp (.attr (.var 435744240755) 29793) [.lt] [(.call (.c (.bi .len)) [(.var 1954047348)])]) [.bad] [],
  .for_ (.vars [32495402090329454, 29793]) (.attr (.var 435744240755) 121381873217651) [.ite (.bop false [(.cmp (.var 32495402090329454) [.eq] [(.list [])]), (.cmp (.call (.c (.bi .min)) [(.var 32495402090329454)]) [.lt] [(.c (.int 1))]), (.cmp (.call (.c (.bi .max)) [(.var 32495402090329454)]) [.gt] [(.attr (.var 435744240755) 126926843769447)])]) [.bad] []],
  .ret (.tup [(.var 1701080942), (.attr (.var 435744240755) 126926843769447), (.attr (.var 435744240755) 495622906222)])]⟩
noncomputable def f923 : MF := ⟨[1954047348, 495655677030], [], [
  .asg (.vars [1701080942, 126926843769447, 495622906222]) (.call (.c (.ref 916)) [(.var 1954047348), (.var 495655677030)]),
  .ret (.call (.c (.ref 587)) [(.var 1701080942), (.var 126926843769447), (.var 495622906222)])]⟩
noncomputable def f930 : MF := ⟨[31073733908391266, 495875286388, 126943822178668], [], [
  .asg (.var 1702521203) (.bin .mul (.call (.c (.bi .len)) [(.var 31073733908391266)]) (.call (.c (.bi .max)) [(.bin .sub (.call (.c (.bi .len)) [(.var 495875286388)]) (.c (.int 1))), (.c (.int 0))])),
  .for_ (.var 1954047348) (.var 495875286388) [.aug (.var 1702521203) .add (.call (.c (.bi .len)) [(.var 1954047348)])],
  .ite (.cmp (.var 1702521203) [.gt] [(.attr (.var 126943822178668) 1954047348)]) [.bad] [],
  .ret (.meth (.var 31073733908391266) 1852403562 [(.var 495875286388)])]⟩
noncomputable def f937 : MF := ⟨[1954047348], [], [
  .asg (.var 7632239) (.c (.str [])),
  .for_ (.var 1852270963) (.var 1954047348) [.ite (.bop true [(.cmp (.var 1852270963) [.notin] [(.c (.str [65, 66, 67, 68, 69, 70, 71, 72, 73, 74, 75, 76, 77, 78, 79, 80, 81, 82, 83, 84, 85, 86, 87, 88, 89, 90, 97, 98, 99, 100, 101, 102, 103, 104, 105, 106, 107, 108, 109, 110, 111, 112, 113, 114, 115, 116, 117, 118, 119, 120, 121, 122, 48, 49, 50, 51, 52, 53, 54, 55, 56, 57, 95]))]), (.cmp (.call (.c (.bi .ord)) [(.var 1852270963)]) [.lt] [(.c (.int 128))])]) [.aug (.var 7632239) .add (.c (.str [92]))] [], .aug (.var 7632239) .add (.var 1852270963)],
  .ret (.var 7632239)]⟩
noncomputable def f947 : MF := ⟨[7628142, 2037277037], [], [
  .aug (.sub (.var 7628142) (.c (.int 1))) .add (.c (.int 1)),
  .asg (.var 1953460339) (.sub (.var 7628142) (.c (.int 1))),
  .ret (.bin .mod (.ite (.cmp (.var 1953460339) [.le] [(.call (.c (.bi .len)) [(.sub (.var 7628142) (.c (.int 0)))])]) (.sub (.sub (.var 7628142) (.c (.int 0))) (.bin .sub (.var 1953460339) (.c (.int 1)))) (.sub (.c (.tup [(.int 2), (.int 6), (.int 0), (.int 2), (.int 3), (.int 1), (.int 0), (.int 2), (.int 1), (.int 2), (.int 2), (.int 0), (.int 1), (.int 0), (.int 1), (.int 1), (.int 1)])) (.bin .mod (.bin .sub (.var 1953460339) (.c (.int 1))) (.call (.c (.bi .len)) [(.c (.tup [(.int 2), (.int 6), (.int 0), (.int 2), (.int 3), (.int 1), (.int 0), (.int 2), (.int 1), (.int 2), (.int 2), (.int 0), (.int 1), (.int 0), (.int 1), (.int 1), (.int 1)]))])))) (.var 2037277037))]⟩
noncomputable def f954 : MF := ⟨[126926843769447], [], [
  .ret (.c (.str [35]))]⟩
noncomputable def f961 : MF := ⟨[1954047348, 495773118579], [], [
  .asg (.vars [431349919590, 29793]) (.tup [(.list []), (.c (.int 0))]),
  .for_ (.vars [474214786402, 6581861]) (.var 495773118579) [.ite (.bop false [(.cmp (.var 474214786402) [.lt] [(.var 29793)]), (.cmp (.var 6581861) [.le] [(.var 474214786402)]), (.cmp (.var 6581861) [.gt] [(.call (.c (.bi .len)) [(.var 1954047348)])])]) [.ret (.c .none)] [], .expr (.meth (.var 431349919590) 110425311047777 [(.slice (.var 1954047348) (.var 29793) (.var 474214786402) (.c .none))]), .asg (.var 29793) (.var 6581861)],
  .ret (.bin .add (.var 431349919590) (.list [(.slice (.var 1954047348) (.var 29793) (.c .none) (.c .none))]))]⟩
noncomputable def f966 : MF := ⟨[1954047348, 30787916450984560, 28259031352046183, 495773118579, 1953722221], [], [
  .asg (.var 126875152509286) (.ite (.cmp (.var 1954047348) [.ne] [(.c (.str []))]) (.call (.c (.ref 961)) [(.var 1954047348), (.var 495773118579)]) (.list [])),
  .ite (.bop false [(.cmp (.call (.c (.ref 451)) [(.var 30787916450984560), (.var 1954047348), (.neg (.c (.int 1))), (.call (.c (.ref 477)) [])]) [.ne] [(.var 126875152509286)]), (.cmp (.meth (.c (.str [])) 1852403562 [(.call (.c (.ref 451)) [(.var 28259031352046183), (.var 1954047348), (.neg (.c (.int 1))), (.call (.c (.ref 477)) [])])]) [.ne] [(.var 1954047348)])]) [.ret (.c (.bool false))] [],
  .ite (.cmp (.slice (.call (.c (.ref 451)) [(.var 28259031352046183), (.var 1954047348), (.neg (.c (.int 1))), (.call (.c (.ref 477)) [])]) (.c (.int 1)) (.c .none) (.c (.int 2))) [.ne] [(.comp (.slice (.var 1954047348) (.var 474214786402) (.var 6581861) (.c .none)) [474214786402, 6581861] false (.var 495773118579) [])]) [.ret (.c (.bool false))] [],
  .asg (.var 7824742) (.call (.c (.ref 451)) [(.var 30787916450984560), (.var 1954047348), (.var 1953722221), (.call (.c (.ref 477)) [])]),
  .asg (.var 1953523051) (.call (.c (.bi .min)) [(.var 1953722221), (.call (.c (.bi .len)) [(.var 126875152509286)])]),
  .ite (.bop false [(.cmp (.call (.c (.bi .len)) [(.var 7824742)]) [.ne] [(.var 1953523051)]), (.cmp (.slice (.var 7824742) (.c .none) (.neg (.c (.int 1))) (.c .none)) [.ne] [(.slice (.var 126875152509286) (.c .none) (.call (.c (.bi .max)) [(.bin .sub (.var 1953523051) (.c (.int 1))), (.c (.int 0))]) (.c .none))]), (.bop true [(.cmp (.var 1953523051) [.gt] [(.c (.int 0))]), (.cmp (.slice (.var 1954047348) (.bin .sub (.call (.c (.bi .len)) [(.var 1954047348)]) (.call (.c (.bi .len)) [(.sub (.var 7824742) (.neg (.c (.int 1))))])) (.c .none) (.c .none)) [.ne] [(.sub (.var 7824742) (.neg (.c (.int 1))))])])]) [.ret (.c (.bool false))] [],
  .ite (.bop true [(.cmp (.c (.int 0)) [.lt, .lt] [(.var 1953523051), (.call (.c (.bi .len)) [(.var 126875152509286)])]), (.cmp (.call (.c (.bi .len)) [(.sub (.var 7824742) (.neg (.c (.int 1))))]) [.ne] [(.bin .sub (.call (.c (.bi .len)) [(.var 1954047348)]) (.bin .mul (.sub (.sub (.var 495773118579) (.bin .sub (.var 1953523051) (.c (.int 2)))) (.c (.int 1))) (.call (.c (.bi .int)) [(.cmp (.var 1953523051) [.gt] [(.c (.int 1))])])))])]) [.ret (.c (.bool false))] [],
  .whl (.bop true [(.cmp (.var 126875152509286) [.ne] [(.list [])]), (.cmp (.sub (.var 126875152509286) (.neg (.c (.int 1)))) [.eq] [(.c (.str []))])]) [.asg (.var 126875152509286) (.slice (.var 126875152509286) (.c .none) (.neg (.c (.int 1))) (.c .none))],
  .ret (.cmp (.call (.c (.ref 451)) [(.var 30787916450984560), (.var 1954047348), (.c (.int 0)), (.call (.c (.ref 477)) [])]) [.eq] [(.var 126875152509286)])]⟩
noncomputable def f978 : MF := ⟨[1954047348], [], [
  .asg (.var 30787916450984560) (.call (.c (.ref 923)) [(.c (.str [40, 63, 58, 41])), (.c (.str []))]),
  .ite (.cmp (.call (.c (.ref 459)) [(.var 30787916450984560), (.var 1954047348), (.c (.ref 954)), (.c (.bool true)), (.call (.c (.ref 477)) [])]) [.ne] [(.tup [(.bin .add (.c (.str [35])) (.meth (.c (.str [])) 1852403562 [(.comp (.bin .add (.var 1852270963) (.c (.str [35]))) [1852270963] true (.var 1954047348) [])])), (.bin .add (.call (.c (.bi .len)) [(.var 1954047348)]) (.c (.int 1)))])]) [.ret (.c (.bool false))] [],
  .ret (.cmp (.call (.c (.ref 451)) [(.var 30787916450984560), (.var 1954047348), (.c (.int 0)), (.call (.c (.ref 477)) [])]) [.eq] [(.comp (.var 1852270963) [1852270963] true (.var 1954047348) [])])]⟩
noncomputable def f973 : MF := ⟨[1954047348, 30787916450984560, 495773118579], [], [
  .bad,
  .asg (.vars [126875152509286, 2037277037]) (.tup [(.call (.c (.ref 961)) [(.var 1954047348), (.var 495773118579)]), (.call (.c (.bi .len)) [(.var 495773118579)])]),
  .ite (.cmp (.call (.c (.ref 459)) [(.var 30787916450984560), (.var 1954047348), (.c (.ref 954)), (.c (.bool true)), (.call (.c (.ref 477)) [])]) [.ne] [(.tup [(.meth (.c (.str [35])) 1852403562 [(.var 126875152509286)]), (.var 2037277037)])]) [.ret (.c (.bool false))] [],
  .ite (.cmp (.call (.c (.ref 459)) [(.var 30787916450984560), (.var 1954047348), (.var 1701667187), (.c (.bool true)), (.call (.c (.ref 477)) [])]) [.ne] [(.tup [(.var 1954047348), (.var 2037277037)])]) [.ret (.c (.bool false))] [],
  .asg (.var 6647407) (.ite (.cmp (.var 2037277037) [.eq] [(.c (.int 0))]) (.var 1954047348) (.bin .add (.bin .add (.sub (.var 126875152509286) (.c (.int 0))) (.c (.str [35]))) (.slice (.var 1954047348) (.sub (.sub (.var 495773118579) (.c (.int 0))) (.c (.int 1))) (.c .none) (.c .none)))),
  .ret (.cmp (.call (.c (.ref 459)) [(.var 30787916450984560), (.var 1954047348), (.c (.ref 954)), (.c (.bool false)), (.call (.c (.ref 477)) [])]) [.eq] [(.tup [(.var 6647407), (.call (.c (.bi .min)) [(.var 2037277037), (.c (.int 1))])])])]⟩
noncomputable def f983 : MF := ⟨[128026154263411], [], [
  .asg (.var 7628142) (.list [(.slice (.var 128026154263411) (.c .none) (.c (.int 30)) (.c .none)), (.c (.int 0))]),
  .asg (.var 31088027509219696) (.sub (.c (.tup [(.str [45]), (.str [97, 98]), (.str [91, 45, 44, 93]), (.str [45, 43]), (.str [97, 124, 97, 98]), (.str [45, 63, 98])])) (.call (.c (.ref 947)) [(.var 7628142), (.c (.int 6))])),
  .asg (.var 1954047348) (.meth (.c (.str [])) 1852403562 [(.comp (.sub (.c (.str [97, 98, 45, 44])) (.call (.c (.ref 947)) [(.var 7628142), (.c (.int 4))])) [1852994932] true (.call (.c (.bi .range)) [(.call (.c (.ref 947)) [(.var 7628142), (.c (.int 7))])]) [])]),
  .asg (.var 1953722221) (.bin .add (.c (.int 1)) (.call (.c (.ref 947)) [(.var 7628142), (.c (.int 4))])),
  .asg (.vars [30787916450984560, 28259031352046183]) (.tup [(.call (.c (.ref 923)) [(.var 31088027509219696), (.c (.str []))]), (.call (.c (.ref 923)) [(.bin .add (.bin .add (.c (.str [40])) (.var 31088027509219696)) (.c (.str [41]))), (.c (.str []))])]),
  .asg (.var 495773118579) (.comp (.sub (.var 126926843769447) (.c (.int 0))) [126926843769447] true (.call (.c (.ref 425)) [(.var 30787916450984560), (.var 1954047348), (.c (.int 0)), (.call (.c (.ref 477)) [])]) []),
  .ite (.bop false [(.cmp (.call (.c (.ref 961)) [(.var 1954047348), (.var 495773118579)]) [.is] [(.c .none)]), (.not (.call (.c (.ref 966)) [(.var 1954047348), (.var 30787916450984560), (.var 28259031352046183), (.var 495773118579), (.var 1953722221)]))]) [.ret (.c (.bool false))] [],
  .ite (.bop false [(.not (.call (.c (.ref 973)) [(.var 1954047348), (.var 30787916450984560), (.var 495773118579)])), (.not (.call (.c (.ref 978)) [(.var 1954047348)]))]) [.ret (.c (.bool false))] [],
  .asg (.var 495874892144) (.comp (.meth (.c (.str [])) 1852403562 [(.comp (.sub (.c (.str [97, 98])) (.call (.c (.ref 947)) [(.var 7628142), (.c (.int 2))])) [1852994932] true (.call (.c (.bi .range)) [(.call (.c (.ref 947)) [(.var 7628142), (.c (.int 3))])]) [])]) [1953653104] true (.call (.c (.bi .range)) [(.bin .add (.c (.int 1)) (.call (.c (.ref 947)) [(.var 7628142), (.c (.int 3))]))]) []),
  .asg (.var 31073733908391266) (.sub (.c (.tup [(.str [45]), (.str [45, 45]), (.str [43]), (.str [46, 42])])) (.call (.c (.ref 947)) [(.var 7628142), (.c (.int 4))])),
  .asg (.vars [110386806878058, 7632227]) (.tup [(.call (.c (.ref 930)) [(.var 31073733908391266), (.var 495874892144), (.call (.c (.ref 477)) [])]), (.call (.c (.ref 923)) [(.call (.c (.ref 937)) [(.var 31073733908391266)]), (.c (.str []))])]),
  .ite (.cmp (.call (.c (.ref 451)) [(.var 7632227), (.var 110386806878058), (.neg (.c (.int 1))), (.call (.c (.ref 477)) [])]) [.ne] [(.ite (.cmp (.var 495874892144) [.ne] [(.list [(.c (.str []))])]) (.var 495874892144) (.list []))]) [.ret (.c (.bool false))] [],
  .ret (.cmp (.call (.c (.ref 459)) [(.var 7632227), (.var 110386806878058), (.c (.ref 954)), (.c (.bool true)), (.call (.c (.ref 477)) [])]) [.eq] [(.tup [(.call (.c (.ref 930)) [(.c (.str [35])), (.var 495874892144), (.call (.c (.ref 477)) [])]), (.bin .sub (.call (.c (.bi .len)) [(.var 495874892144)]) (.c (.int 1)))])])]⟩
noncomputable def look {α : Type} : List (Nat × α) → Nat → Option α
  | [], _ => none
  | p :: r, k => if p.1 = k then some p.2 else look r k
noncomputable def fnTab : List (Nat × MF) := [(162, f162), (174, f174), (181, f181), (188, f188), (195, f195), (209, f209), (223, f223), (230, f230), (237, f237), (244, f244), (251, f251), (279, f279), (286, f286), (293, f293), (300, f300), (340, f340), (389, f389), (396, f396), (404, f404), (412, f412), (417, f417), (425, f425), (432, f432), (439, f439), (446, f446), (451, f451), (459, f459), (474, f474), (496, f496), (517, f517), (524, f524), (531, f531), (545, f545), (552, f552), (566, f566), (587, f587), (602, f602), (609, f609), (616, f616), (630, f630), (673, f673), (694, f694), (701, f701), (708, f708), (715, f715), (729, f729), (740, f740), (747, f747), (754, f754), (761, f761), (780, f780), (829, f829), (834, f834), (841, f841), (848, f848), (855, f855), (862, f862), (869, f869), (876, f876), (883, f883), (897, f897), (911, f911), (916, f916), (923, f923), (930, f930), (937, f937), (947, f947), (954, f954), (961, f961), (966, f966), (978, f978)]
noncomputable def clsTab : List (Nat × Nat) := [(212, 209), (477, 474), (499, 496), (534, 517), (619, 602)]
noncomputable def methTab : List ((Nat × Nat) × Nat) := [((534, 6579297), 524), ((534, 448612627046), 531), ((619, 1801807216), 609), ((619, 495807196019), 616)]
noncomputable def attrTab : List (Nat × List Nat) := [(212, [30787916450984560, 1954047348, 474214786402, 1852629276641531618668, 1953722221, 495806936179, 29793, 7827314, 126926843769447, 2129618691208608441714, 1701603696]), (477, [448629336439, 448630121828, 495806936179, 1954047348, 495756604521]), (499, [1937207154, 126926843769447, 2129618691208608441714, 495622906222]), (534, [1937207154, 2129618691208608441714]), (619, [1954047348, 465491488628, 29793, 126926843769447, 448630121828, 495622906222, 121381873217651])]
noncomputable def rowTab : List (List Nat × V) := [([115, 105, 103, 110], .ref 237), ([97, 110, 121], .ref 237), ([115, 101, 116], .ref 237), ([114, 117, 110], .ref 251), ([97, 116], .ref 265), ([98, 97, 99, 107], .ref 272), ([111, 112, 101, 110], .ref 279), ([99, 108, 111, 115, 101], .ref 286), ([106, 117, 109, 112], .ref 293), ([115, 112, 108, 105, 116], .ref 300), ([122, 101, 114, 111], .ref 307), ([108, 111, 111, 112], .ref 314), ([97, 103, 97, 105, 110], .ref 321), ([109, 97, 114, 107], .ref 328), ([99, 117, 116], .ref 333), ([114, 101, 102, 117, 115, 101], .ref 347), ([112, 108, 97, 99, 101], .ref 354), ([114, 101, 116, 117, 114, 110], .ref 361), ([98, 101, 104, 105, 110, 100], .ref 368)]
noncomputable def listTab : List (Nat × List V) := [(818, [.tup [.str [40, 63, 61], .bool false, .bool false], .tup [.str [40, 63, 33], .bool false, .bool true], .tup [.str [40, 63, 60, 61], .bool true, .bool false], .tup [.str [40, 63, 60, 33], .bool true, .bool true]]), (822, [.tup [.str [40, 63, 60], .str [62]], .tup [.str [40, 63, 80, 60], .str [62]], .tup [.str [40, 63, 39], .str [39]]])]
noncomputable def dictTab : List (Nat × List (List Nat × V)) := [(588, [([110], .str [10]), ([116], .str [9]), ([114], .str [13]), ([102], .str [12]), ([101], .str [27]), ([97], .str [7])]), (730, [([42], .tup [.int 0, .int (-1)]), ([43], .tup [.int 1, .int (-1)]), ([63], .tup [.int 0, .int (1)])])]
noncomputable def look2 : List ((Nat × Nat) × Nat) → Nat → Nat → Option Nat
  | [], _, _ => none
  | p :: r, a, b => if p.1.1 = a then (if p.1.2 = b then some p.2 else look2 r a b) else look2 r a b
noncomputable def prg (L : Nat) (script : List V) (ora : Nat → Nat → List V → MH → R V) : Prg where
  fns := look fnTab
  cls := look clsTab
  nat := fun a => if a = 375 then some (.dict rowTab) else none
  fr := fun a => decide (a = 923)
  clist := fun a => match look listTab a with
    | some l => some l
    | none => if a = L then some script else none
  cdict := look dictTab
  meth := look2 methTab
  attrOk := fun c a => match look attrTab c with
    | some l => l.contains a
    | none => false
  ora := ora
end Mine
set_option maxRecDepth 100000
set_option autoImplicit false
namespace Mine
open PySem PySem.W PyProof.Rows PySem.Calls
noncomputable def sA (i : Nat) : Stmt := (PySem.Challenge.pw_sa0541_01.main.body[i]?).getD default
noncomputable def mA (i j : Nat) : Stmt := match sA i with
  | .ClassDef _ _ _ body _ _ _ _ _ _ _ => (body[j]?).getD default
  | _ => default
noncomputable def fO (st : Stmt) (q m : Str) (t : Tok) (dV : Value) (c : Addr) : Obj := match st with
  | .FunctionDef name params body _ _ _ scope _ _ _ => { cls := .type "function", data := .func (fnOf name q params body scope dV .none .none (.str m t) none (.ref c) .none) }
  | _ => default
noncomputable abbrev xS (x : Str) (t : Tok) : Value := .str x t
noncomputable abbrev xI (x : Int) (t : Tok) : Value := .int x t
noncomputable abbrev xR (a : Addr) : Value := .ref a
noncomputable abbrev xN : Value := .none
noncomputable def cO (n : Str) (nt : Tok) (q : Str) (qt ft : Tok) (l a : Int) (r8 r11 v12 v13 v14 v15 : Value) (i j : Int) (gt : Tok) : Obj :=
  { cls := .type "code", data := .fields #[.str n nt, .str q qt, .str "/claim/cut.py" ft, .int l 0, .int a 0, .int 0 0, .int 0 0, .int 3 0, r8, .bool true, .int 181 0, r11, v12, v13, v14, v15, .int i 0, .int j 0, .str "/claim/cut.py" gt] }
noncomputable def tO (l : List Value) : Obj := { cls := .type "tuple", data := .seq l.toArray 0 }
noncomputable def lO (l : List Value) (n : Nat) : Obj := { cls := .type "list", data := .seq l.toArray n }
noncomputable def dO (l : List DictEntry) (n : Nat) : Obj := { cls := .type "dict", data := .dict l.toArray n }
noncomputable def xE (P : Params) (x : Str) (t : Tok) (v : Value) : DictEntry := ⟨PyData.keyHash P x, .str x t, v⟩
noncomputable def Kf (P : Params) : Frag := [
  (1, dO [xE P "builtins" 162 (xR 4), xE P "__main__" 163 (xR 5)] 2),
  (3, dO [xE P "__name__" 165 (xS "law_sa0541_01" 1634), xE P "__doc__" 166 xN, xE P "__package__" 167 xN, xE P "__loader__" 168 (.builtin "__main__.__loader__#opaque"), xE P "__spec__" 169 xN, xE P "__annotations__" 170 (xR 6), xE P "__builtins__" 171 (xR 4), xE P "__file__" 173 (xS "/claim/cut.py" 172), xE P "__cached__" 174 xN, xE P "PerlError" 217 (xR 31), xE P "Die" 242 (xR 51), xE P "BadPattern" 268 (xR 70), xE P "TooLong" 293 (xR 89), xE P "BLANKS" 297 (xS " \t\n\x0d\x0c\x0b" 296), xE P "POSIX_RANGES" 382 (xR 92), xE P "is_word_sign" 389 (xR 141), xE P "in_class" 398 (xR 148), xE P "other_case" 405 (xR 155), xE P "same_sign" 414 (xR 162), xE P "posix_items" 420 (xR 167), xE P "item_holds" 428 (xR 174), xE P "items_hold" 437 (xR 181), xE P "set_holds" 448 (xR 188), xE P "sign_fits" 456 (xR 195), xE P "STEP_SIGNS" 460 (xI 100 459), xE P "STEP_GROUPS" 462 (xI 20 461), xE P "MatchRun" 505 (xR 212), xE P "set_register" 514 (xR 223), xE P "go_on" 521 (xR 230), xE P "row_test" 529 (xR 237), xE P "run_end" 540 (xR 244), xE P "row_run" 555 (xR 251), xE P "place_holds" 567 (xR 258), xE P "row_at" 575 (xR 265), xE P "row_back" 587 (xR 272), xE P "row_open" 595 (xR 279), xE P "row_close" 603 (xR 286), xE P "row_jump" 611 (xR 293), xE P "row_split" 619 (xR 300), xE P "row_zero" 627 (xR 307), xE P "row_loop" 644 (xR 314), xE P "row_again" 652 (xR 321), xE P "row_mark" 660 (xR 328), xE P "row_cut" 666 (xR 333), xE P "undo_entry" 674 (xR 340), xE P "row_refuse" 683 (xR 347), xE P "row_place" 691 (xR 354), xE P "row_return" 699 (xR 361), xE P "row_behind" 707 (xR 368), xE P "row_words" 713 (xR 375), xE P "take_more" 726 (xR 382), xE P "back_up" 734 (xR 389), xE P "match_from" 745 (xR 396), xE P "search_pattern" 761 (xR 404), xE P "MOST_KEPT" 765 (xI 100 764), xE P "next_match" 778 (xR 412), xE P "count_kept" 784 (xR 417), xE P "all_matches" 800 (xR 425), xE P "group_text" 808 (xR 432), xE P "drop_empty_ends" 816 (xR 439), xE P "end_fields" 826 (xR 446), xE P "split_fields" 832 (xR 451), xE P "substitute" 851 (xR 459), xE P "Limits" 901 (xR 477), xE P "ONE_SIGN" 907 (xR 482), xE P "Program" 942 (xR 499), xE P "RowMaker" 986 (xR 534), xE P "add_node" 997 (xR 545), xE P "add_branches" 1009 (xR 552), xE P "add_atomic" 1018 (xR 559), xE P "add_repeats" 1031 (xR 566), xE P "add_loop" 1046 (xR 573), xE P "add_look" 1062 (xR 580), xE P "compile_tree" 1072 (xR 587), xE P "PLAIN_ESCAPES" 1093 (xR 588), xE P "OCTAL_FIGURES" 1095 (xS "01234567" 1094), xE P "HEX_FIGURES" 1097 (xS "0123456789abcdef" 1096), xE P "CLASS_LETTERS" 1099 (xS "dDwWsShHvV" 1098), xE P "POSIX_SIGNS" 1101 (xS "abcdefghijklmnopqrstuvwxyz^" 1100), xE P "MOST_CODE" 1103 (xI 1114111 1102), xE P "PatternText" 1154 (xR 619), xE P "run_of" 1164 (xR 630), xE P "number_of_run" 1174 (xR 637), xE P "until_sign" 1184 (xR 644), xE P "sign_of_code" 1192 (xR 651), xE P "read_hex_sign" 1198 (xR 656), xE P "read_octal_sign" 1204 (xR 661), xE P "read_named_sign" 1210 (xR 666), xE P "read_plain_escape" 1218 (xR 673), xE P "read_control" 1226 (xR 680), xE P "signs_end" 1235 (xR 687), xE P "posix_end" 1244 (xR 694), xE P "read_posix" 1256 (xR 701), xE P "read_member" 1267 (xR 708), xE P "is_one_sign" 1274 (xR 715), xE P "read_range_end" 1285 (xR 722), xE P "read_set" 1299 (xR 729), xE P "FIGURES" 1303 (xS "0123456789" 1302), xE P "MOST_COUNT" 1305 (xI 32766 1304), xE P "COUNT_SIGNS" 1320 (xR 730), xE P "count_groups" 1330 (xR 740), xE P "behind_set" 1339 (xR 747), xE P "behind_posix" 1348 (xR 754), xE P "opens_capture" 1355 (xR 761), xE P "is_name_text" 1361 (xR 766), xE P "braces_count" 1372 (xR 773), xE P "take_count" 1384 (xR 780), xE P "read_name" 1394 (xR 787), xE P "speak_of" 1403 (xR 794), xE P "read_named_back" 1413 (xR 801), xE P "read_numbered_back" 1426 (xR 808), xE P "width_of" 1432 (xR 813), xE P "FLAG_LETTERS" 1436 (xS "imsx" 1435), xE P "MOST_NESTED" 1438 (xI 40 1437), xE P "LOOKS" 1443 (xR 818), xE P "NAME_SIGNS_repattern" 1450 (xR 822), xE P "skip_unseen" 1459 (xR 829), xE P "read_flags" 1465 (xR 834), xE P "read_inline" 1475 (xR 841), xE P "read_alternation" 1485 (xR 848), xE P "read_branch" 1495 (xR 855), xE P "read_atom" 1504 (xR 862), xE P "read_counted" 1516 (xR 869), xE P "read_inner" 1526 (xR 876), xE P "read_capture" 1537 (xR 883), xE P "read_look" 1550 (xR 890), xE P "read_group" 1564 (xR 897), xE P "is_sign_told" 1571 (xR 904), xE P "read_escape" 1584 (xR 911), xE P "parse_pattern" 1590 (xR 916), xE P "compile_pattern" 1603 (xR 923), xE P "GREAT_LETTERS" 1607 (xS "ABCDEFGHIJKLMNOPQRSTUVWXYZ" 1606), xE P "SMALL_LETTERS" 1609 (xS "abcdefghijklmnopqrstuvwxyz" 1608), xE P "NAME_SIGNS_textops" 1613 (xS "ABCDEFGHIJKLMNOPQRSTUVWXYZabcdefghijklmnopqrstuvwxyz0123456789_" 1612), xE P "join_texts" 1624 (xR 930), xE P "quotemeta_text" 1633 (xR 937), xE P "_law_patterns" 1642 (xR 938), xE P "_law_separators" 1647 (xR 939), xE P "_law_rest" 1665 (xR 940), xE P "_law_catch" 1674 (xR 947), xE P "_law_mark" 1681 (xR 954), xE P "_law_between" 1693 (xR 961), xE P "_law_fields_right" 1699 (xR 966), xE P "_law_replaced_right" 1713 (xR 973), xE P "_law_empty_right" 1719 (xR 978), xE P "law" 1725 (xR 983)] 146),
  (161, cO "same_sign" 406 "same_sign" 407 408 47 3 (xR 156) (xR 157) xN (xR 158) (xR 159) (xR 160) 412 47 413),
  (162, fO (sA 11) "same_sign" "perlcore.signclass" 294 xN 161),
  (173, cO "item_holds" 421 "item_holds" 422 423 51 2 (xR 168) (xR 169) xN (xR 170) (xR 171) (xR 172) 426 51 427),
  (174, fO (sA 13) "item_holds" "perlcore.signclass" 294 xN 173),
  (180, cO "items_hold" 429 "items_hold" 430 431 57 2 (xR 175) (xR 176) xN (xR 177) (xR 178) (xR 179) 435 57 436),
  (181, fO (sA 14) "items_hold" "perlcore.signclass" 294 xN 180),
  (187, cO "set_holds" 438 "set_holds" 439 440 62 4 (xR 182) (xR 183) xN (xR 184) (xR 185) (xR 186) 446 62 447),
  (188, fO (sA 15) "set_holds" "perlcore.signclass" 294 xN 187),
  (194, cO "sign_fits" 449 "sign_fits" 450 451 67 2 (xR 189) (xR 190) xN (xR 191) (xR 192) (xR 193) 454 67 455),
  (195, fO (sA 16) "sign_fits" "perlcore.signclass" 294 xN 194),
  (208, cO "__init__" 475 "MatchRun.__init__" 476 477 78 6 (xR 203) (xR 204) xN (xR 205) (xR 206) (xR 207) 484 78 485),
  (209, fO (mA 20 0) "MatchRun.__init__" "perlcore.rematch" 457 xN 208),
  (211, dO [xE P "__module__" 470 (xS "perlcore.rematch" 457), xE P "__firstlineno__" 474 (xI 76 473), xE P "__init__" 486 (xR 209), xE P "__static_attributes__" 498 (xR 210), xE P "__dict__" 500 (xR 213), xE P "__weakref__" 502 (xR 214), xE P "__doc__" 503 xN] 4),
  (212, ⟨(.type "type"), none, .cls ⟨"MatchRun", [(.type "object")], [(xR 212), (.type "object")], 211, "MatchRun", true, [], [], false, none, false⟩, #[none, none, some (xS "MatchRun" 463), some (xS "MatchRun" 471), some (.builtin "object.__new__"), some (.bool true)]⟩),
  (222, cO "set_register" 506 "set_register" 507 508 90 3 (xR 217) (xR 218) xN (xR 219) (xR 220) (xR 221) 512 90 513),
  (223, fO (sA 21) "set_register" "perlcore.rematch" 457 xN 222),
  (229, cO "go_on" 515 "go_on" 516 517 93 1 (xR 224) (xR 225) xN (xR 226) (xR 227) (xR 228) 519 93 520),
  (230, fO (sA 22) "go_on" "perlcore.rematch" 457 xN 229),
  (236, cO "row_test" 522 "row_test" 523 524 96 2 (xR 231) (xR 232) xN (xR 233) (xR 234) (xR 235) 527 96 528),
  (237, fO (sA 23) "row_test" "perlcore.rematch" 457 xN 236),
  (243, cO "run_end" 530 "run_end" 531 532 101 4 (xR 238) (xR 239) xN (xR 240) (xR 241) (xR 242) 538 101 539),
  (244, fO (sA 24) "run_end" "perlcore.rematch" 457 xN 243),
  (250, cO "row_run" 541 "row_run" 542 543 106 2 (xR 245) (xR 246) xN (xR 247) (xR 248) (xR 249) 553 106 554),
  (251, fO (sA 25) "row_run" "perlcore.rematch" 457 xN 250),
  (278, cO "row_open" 588 "row_open" 589 590 153 2 (xR 273) (xR 274) xN (xR 275) (xR 276) (xR 277) 593 153 594),
  (279, fO (sA 29) "row_open" "perlcore.rematch" 457 xN 278),
  (285, cO "row_close" 596 "row_close" 597 598 156 2 (xR 280) (xR 281) xN (xR 282) (xR 283) (xR 284) 601 156 602),
  (286, fO (sA 30) "row_close" "perlcore.rematch" 457 xN 285),
  (292, cO "row_jump" 604 "row_jump" 605 606 160 2 (xR 287) (xR 288) xN (xR 289) (xR 290) (xR 291) 609 160 610),
  (293, fO (sA 31) "row_jump" "perlcore.rematch" 457 xN 292),
  (299, cO "row_split" 612 "row_split" 613 614 163 2 (xR 294) (xR 295) xN (xR 296) (xR 297) (xR 298) 617 163 618),
  (300, fO (sA 32) "row_split" "perlcore.rematch" 457 xN 299),
  (339, cO "undo_entry" 667 "undo_entry" 668 669 198 2 (xR 334) (xR 335) xN (xR 336) (xR 337) (xR 338) 672 198 673),
  (340, fO (sA 38) "undo_entry" "perlcore.rematch" 457 xN 339),
  (374, cO "row_words" 708 "row_words" 709 710 219 0 (xR 369) (xR 370) xN (xR 371) (xR 372) (xR 373) 711 219 712),
  (375, fO (sA 43) "row_words" "perlcore.rematch" 457 xN 374),
  (388, cO "back_up" 727 "back_up" 728 729 230 1 (xR 383) (xR 384) xN (xR 385) (xR 386) (xR 387) 732 230 733),
  (389, fO (sA 45) "back_up" "perlcore.rematch" 457 xN 388),
  (395, cO "match_from" 735 "match_from" 736 737 249 3 (xR 390) (xR 391) xN (xR 392) (xR 393) (xR 394) 743 249 744),
  (396, fO (sA 46) "match_from" "perlcore.rematch" 457 xN 395),
  (397, tO [xN, xN]),
  (403, cO "search_pattern" 746 "search_pattern" 747 748 270 7 (xR 398) (xR 399) xN (xR 400) (xR 401) (xR 402) 759 270 760),
  (404, fO (sA 47) "search_pattern" "perlcore.rematch" 457 (xR 397) 403),
  (405, tO [xN, xN]),
  (411, cO "next_match" 766 "next_match" 767 768 282 7 (xR 406) (xR 407) xN (xR 408) (xR 409) (xR 410) 776 282 777),
  (412, fO (sA 50) "next_match" "perlcore.reglobal" 762 (xR 405) 411),
  (416, cO "count_kept" 779 "count_kept" 780 781 286 3 (xR 413) (xR 414) xN xN xN (xR 415) 782 286 783),
  (417, fO (sA 51) "count_kept" "perlcore.reglobal" 762 xN 416),
  (418, tO [(.bool false)]),
  (424, cO "all_matches" 785 "all_matches" 786 787 291 5 (xR 419) (xR 420) xN (xR 421) (xR 422) (xR 423) 798 291 799),
  (425, fO (sA 52) "all_matches" "perlcore.reglobal" 762 (xR 418) 424),
  (431, cO "group_text" 801 "group_text" 802 803 300 2 (xR 426) (xR 427) xN (xR 428) (xR 429) (xR 430) 806 300 807),
  (432, fO (sA 53) "group_text" "perlcore.reglobal" 762 xN 431),
  (438, cO "drop_empty_ends" 809 "drop_empty_ends" 810 811 302 1 (xR 433) (xR 434) xN (xR 435) (xR 436) (xR 437) 814 302 815),
  (439, fO (sA 54) "drop_empty_ends" "perlcore.reglobal" 762 xN 438),
  (445, cO "end_fields" 817 "end_fields" 818 819 307 4 (xR 440) (xR 441) xN (xR 442) (xR 443) (xR 444) 824 307 825),
  (446, fO (sA 55) "end_fields" "perlcore.reglobal" 762 xN 445),
  (450, cO "split_fields" 827 "split_fields" 828 829 311 4 (xR 447) (xR 448) xN xN xN (xR 449) 830 311 831),
  (451, fO (sA 56) "split_fields" "perlcore.reglobal" 762 xN 450),
  (452, tO [xN]),
  (458, cO "substitute" 833 "substitute" 834 835 328 6 (xR 453) (xR 454) xN (xR 455) (xR 456) (xR 457) 849 328 850),
  (459, fO (sA 57) "substitute" "perlcore.reglobal" 762 (xR 452) 458),
  (467, tO [(xI 64 866), (xI 50 867), (xI 1000000 870), (xI 100000 873), (xI 10000 876)]),
  (473, cO "__init__" 877 "Limits.__init__" 878 879 347 6 (xR 468) (xR 469) xN (xR 470) (xR 471) (xR 472) 886 347 887),
  (474, fO (mA 59 0) "Limits.__init__" "perlcore.limits" 852 (xR 467) 473),
  (476, dO [xE P "__module__" 861 (xS "perlcore.limits" 852), xE P "__firstlineno__" 865 (xI 345 864), xE P "__init__" 888 (xR 474), xE P "__static_attributes__" 894 (xR 475), xE P "__dict__" 896 (xR 478), xE P "__weakref__" 898 (xR 479), xE P "__doc__" 899 xN] 4),
  (477, ⟨(.type "type"), none, .cls ⟨"Limits", [(.type "object")], [(xR 477), (.type "object")], 476, "Limits", true, [], [], false, none, false⟩, #[none, none, some (xS "Limits" 854), some (xS "Limits" 862), some (.builtin "object.__new__"), some (.bool true)]⟩),
  (482, tO [(xS "sign" 904), (xS "any" 905), (xS "set" 906)]),
  (495, cO "__init__" 920 "Program.__init__" 921 922 357 5 (xR 490) (xR 491) xN (xR 492) (xR 493) (xR 494) 928 357 929),
  (496, fO (mA 62 0) "Program.__init__" "perlcore.recompile" 902 xN 495),
  (498, dO [xE P "__module__" 915 (xS "perlcore.recompile" 902), xE P "__firstlineno__" 919 (xI 355 918), xE P "__init__" 930 (xR 496), xE P "__static_attributes__" 935 (xR 497), xE P "__dict__" 937 (xR 500), xE P "__weakref__" 939 (xR 501), xE P "__doc__" 940 xN] 4),
  (499, ⟨(.type "type"), none, .cls ⟨"Program", [(.type "object")], [(xR 499), (.type "object")], 498, "Program", true, [], [], false, none, false⟩, #[none, none, some (xS "Program" 908), some (xS "Program" 916), some (.builtin "object.__new__"), some (.bool true)]⟩),
  (516, cO "__init__" 955 "RowMaker.__init__" 956 957 364 1 (xR 511) (xR 512) xN (xR 513) (xR 514) (xR 515) 959 364 960),
  (517, fO (mA 63 0) "RowMaker.__init__" "perlcore.recompile" 902 xN 516),
  (523, cO "add" 962 "RowMaker.add" 963 964 368 2 (xR 518) (xR 519) xN (xR 520) (xR 521) (xR 522) 967 368 968),
  (524, fO (mA 63 1) "RowMaker.add" "perlcore.recompile" 902 xN 523),
  (530, cO "fresh" 970 "RowMaker.fresh" 971 972 372 1 (xR 525) (xR 526) xN (xR 527) (xR 528) (xR 529) 974 372 975),
  (531, fO (mA 63 2) "RowMaker.fresh" "perlcore.recompile" 902 xN 530),
  (533, dO [xE P "__module__" 950 (xS "perlcore.recompile" 902), xE P "__firstlineno__" 954 (xI 362 953), xE P "__init__" 961 (xR 517), xE P "add" 969 (xR 524), xE P "fresh" 976 (xR 531), xE P "__static_attributes__" 979 (xR 532), xE P "__dict__" 981 (xR 535), xE P "__weakref__" 983 (xR 536), xE P "__doc__" 984 xN] 4),
  (534, ⟨(.type "type"), none, .cls ⟨"RowMaker", [(.type "object")], [(xR 534), (.type "object")], 533, "RowMaker", true, [], [], false, none, false⟩, #[none, none, some (xS "RowMaker" 943), some (xS "RowMaker" 951), some (.builtin "object.__new__"), some (.bool true)]⟩),
  (544, cO "add_node" 987 "add_node" 988 989 375 2 (xR 539) (xR 540) xN (xR 541) (xR 542) (xR 543) 995 375 996),
  (545, fO (sA 64) "add_node" "perlcore.recompile" 902 xN 544),
  (551, cO "add_branches" 998 "add_branches" 999 1000 395 2 (xR 546) (xR 547) xN (xR 548) (xR 549) (xR 550) 1007 395 1008),
  (552, fO (sA 65) "add_branches" "perlcore.recompile" 902 xN 551),
  (565, cO "add_repeats" 1019 "add_repeats" 1020 1021 410 2 (xR 560) (xR 561) xN (xR 562) (xR 563) (xR 564) 1029 410 1030),
  (566, fO (sA 67) "add_repeats" "perlcore.recompile" 902 xN 565),
  (586, cO "compile_tree" 1063 "compile_tree" 1064 1065 445 3 (xR 581) (xR 582) xN (xR 583) (xR 584) (xR 585) 1070 445 1071),
  (587, fO (sA 70) "compile_tree" "perlcore.recompile" 902 xN 586),
  (588, dO [xE P "n" 1075 (xS "\n" 1076), xE P "t" 1077 (xS "\t" 1078), xE P "r" 1079 (xS "\x0d" 1080), xE P "f" 1081 (xS "\x0c" 1082), xE P "e" 1083 (xS "\x1b" 1084), xE P "a" 1085 (xS "\x07" 1086)] 6),
  (601, cO "__init__" 1116 "PatternText.__init__" 1117 1118 459 3 (xR 596) (xR 597) xN (xR 598) (xR 599) (xR 600) 1122 459 1123),
  (602, fO (mA 78 0) "PatternText.__init__" "perlcore.reescape" 1073 xN 601),
  (608, cO "peek" 1125 "PatternText.peek" 1126 1127 468 1 (xR 603) (xR 604) xN (xR 605) (xR 606) (xR 607) 1129 468 1130),
  (609, fO (mA 78 1) "PatternText.peek" "perlcore.reescape" 1073 xN 608),
  (615, cO "skips" 1132 "PatternText.skips" 1133 1134 471 2 (xR 610) (xR 611) xN (xR 612) (xR 613) (xR 614) 1137 471 1138),
  (616, fO (mA 78 2) "PatternText.skips" "perlcore.reescape" 1073 xN 615),
  (618, dO [xE P "__module__" 1111 (xS "perlcore.reescape" 1073), xE P "__firstlineno__" 1115 (xI 457 1114), xE P "__init__" 1124 (xR 602), xE P "peek" 1131 (xR 609), xE P "skips" 1139 (xR 616), xE P "__static_attributes__" 1147 (xR 617), xE P "__dict__" 1149 (xR 620), xE P "__weakref__" 1151 (xR 621), xE P "__doc__" 1152 xN] 4),
  (619, ⟨(.type "type"), none, .cls ⟨"PatternText", [(.type "object")], [(xR 619), (.type "object")], 618, "PatternText", true, [], [], false, none, false⟩, #[none, none, some (xS "PatternText" 1104), some (xS "PatternText" 1112), some (.builtin "object.__new__"), some (.bool true)]⟩),
  (629, cO "run_of" 1155 "run_of" 1156 1157 476 3 (xR 624) (xR 625) xN (xR 626) (xR 627) (xR 628) 1162 476 1163),
  (630, fO (sA 79) "run_of" "perlcore.reescape" 1073 xN 629),
  (672, cO "read_plain_escape" 1211 "read_plain_escape" 1212 1213 521 1 (xR 667) (xR 668) xN (xR 669) (xR 670) (xR 671) 1216 521 1217),
  (673, fO (sA 86) "read_plain_escape" "perlcore.reescape" 1073 xN 672),
  (693, cO "posix_end" 1236 "posix_end" 1237 1238 547 2 (xR 688) (xR 689) xN (xR 690) (xR 691) (xR 692) 1242 547 1243),
  (694, fO (sA 89) "posix_end" "perlcore.reescape" 1073 xN 693),
  (700, cO "read_posix" 1245 "read_posix" 1246 1247 552 2 (xR 695) (xR 696) xN (xR 697) (xR 698) (xR 699) 1254 552 1255),
  (701, fO (sA 90) "read_posix" "perlcore.reescape" 1073 xN 700),
  (707, cO "read_member" 1257 "read_member" 1258 1259 563 2 (xR 702) (xR 703) xN (xR 704) (xR 705) (xR 706) 1265 563 1266),
  (708, fO (sA 91) "read_member" "perlcore.reescape" 1073 xN 707),
  (714, cO "is_one_sign" 1268 "is_one_sign" 1269 1270 580 1 (xR 709) (xR 710) xN (xR 711) (xR 712) (xR 713) 1272 580 1273),
  (715, fO (sA 92) "is_one_sign" "perlcore.reescape" 1073 xN 714),
  (728, cO "read_set" 1286 "read_set" 1287 1288 591 2 (xR 723) (xR 724) xN (xR 725) (xR 726) (xR 727) 1297 591 1298),
  (729, fO (sA 94) "read_set" "perlcore.reescape" 1073 xN 728),
  (730, dO [xE P "*" 1306 (xR 731), xE P "+" 1310 (xR 732), xE P "?" 1314 (xR 733)] 3),
  (731, tO [(xI 0 1307), (xI (-1) 1309)]),
  (732, tO [(xI 1 1311), (xI (-1) 1313)]),
  (733, tO [(xI 0 1315), (xI 1 1316)]),
  (739, cO "count_groups" 1321 "count_groups" 1322 1323 612 1 (xR 734) (xR 735) xN (xR 736) (xR 737) (xR 738) 1328 612 1329),
  (740, fO (sA 99) "count_groups" "perlcore.repieces" 1300 xN 739),
  (746, cO "behind_set" 1331 "behind_set" 1332 1333 627 2 (xR 741) (xR 742) xN (xR 743) (xR 744) (xR 745) 1337 627 1338),
  (747, fO (sA 100) "behind_set" "perlcore.repieces" 1300 xN 746),
  (753, cO "behind_posix" 1340 "behind_posix" 1341 1342 640 2 (xR 748) (xR 749) xN (xR 750) (xR 751) (xR 752) 1346 640 1347),
  (754, fO (sA 101) "behind_posix" "perlcore.repieces" 1300 xN 753),
  (760, cO "opens_capture" 1349 "opens_capture" 1350 1351 643 1 (xR 755) (xR 756) xN (xR 757) (xR 758) (xR 759) 1353 643 1354),
  (761, fO (sA 102) "opens_capture" "perlcore.repieces" 1300 xN 760),
  (779, cO "take_count" 1373 "take_count" 1374 1375 660 1 (xR 774) (xR 775) xN (xR 776) (xR 777) (xR 778) 1382 660 1383),
  (780, fO (sA 105) "take_count" "perlcore.repieces" 1300 xN 779),
  (814, tO [(xS "(?=" 1439), (.bool false), (.bool false)]),
  (815, tO [(xS "(?!" 1440), (.bool false), (.bool true)]),
  (816, tO [(xS "(?<=" 1441), (.bool true), (.bool false)]),
  (817, tO [(xS "(?<!" 1442), (.bool true), (.bool true)]),
  (818, lO [(xR 814), (xR 815), (xR 816), (xR 817)] 0),
  (819, tO [(xS "(?<" 1444), (xS ">" 1445)]),
  (820, tO [(xS "(?P<" 1446), (xS ">" 1447)]),
  (821, tO [(xS "(?'" 1448), (xS "'" 1449)]),
  (822, lO [(xR 819), (xR 820), (xR 821)] 0),
  (828, cO "skip_unseen" 1451 "skip_unseen" 1452 1453 720 2 (xR 823) (xR 824) xN (xR 825) (xR 826) (xR 827) 1457 720 1458),
  (829, fO (sA 116) "skip_unseen" "perlcore.repattern" 1433 xN 828),
  (833, cO "read_flags" 1460 "read_flags" 1461 1462 731 2 (xR 830) (xR 831) xN xN xN (xR 832) 1463 731 1464),
  (834, fO (sA 117) "read_flags" "perlcore.repattern" 1433 xN 833),
  (840, cO "read_inline" 1466 "read_inline" 1467 1468 735 2 (xR 835) (xR 836) xN (xR 837) (xR 838) (xR 839) 1473 735 1474),
  (841, fO (sA 118) "read_inline" "perlcore.repattern" 1433 xN 840),
  (847, cO "read_alternation" 1476 "read_alternation" 1477 1478 744 2 (xR 842) (xR 843) xN (xR 844) (xR 845) (xR 846) 1483 744 1484),
  (848, fO (sA 119) "read_alternation" "perlcore.repattern" 1433 xN 847),
  (854, cO "read_branch" 1486 "read_branch" 1487 1488 751 2 (xR 849) (xR 850) xN (xR 851) (xR 852) (xR 853) 1493 751 1494),
  (855, fO (sA 120) "read_branch" "perlcore.repattern" 1433 xN 854),
  (861, cO "read_atom" 1496 "read_atom" 1497 1498 762 2 (xR 856) (xR 857) xN (xR 858) (xR 859) (xR 860) 1502 762 1503),
  (862, fO (sA 121) "read_atom" "perlcore.repattern" 1433 xN 861),
  (868, cO "read_counted" 1505 "read_counted" 1506 1507 780 3 (xR 863) (xR 864) xN (xR 865) (xR 866) (xR 867) 1514 780 1515),
  (869, fO (sA 122) "read_counted" "perlcore.repattern" 1433 xN 868),
  (875, cO "read_inner" 1517 "read_inner" 1518 1519 799 3 (xR 870) (xR 871) xN (xR 872) (xR 873) (xR 874) 1524 799 1525),
  (876, fO (sA 123) "read_inner" "perlcore.repattern" 1433 xN 875),
  (882, cO "read_capture" 1527 "read_capture" 1528 1529 808 4 (xR 877) (xR 878) xN (xR 879) (xR 880) (xR 881) 1535 808 1536),
  (883, fO (sA 124) "read_capture" "perlcore.repattern" 1433 xN 882),
  (896, cO "read_group" 1551 "read_group" 1552 1553 820 2 (xR 891) (xR 892) xN (xR 893) (xR 894) (xR 895) 1562 820 1563),
  (897, fO (sA 126) "read_group" "perlcore.repattern" 1433 xN 896),
  (910, cO "read_escape" 1572 "read_escape" 1573 1574 841 2 (xR 905) (xR 906) xN (xR 907) (xR 908) (xR 909) 1582 841 1583),
  (911, fO (sA 128) "read_escape" "perlcore.repattern" 1433 xN 910),
  (915, cO "parse_pattern" 1585 "parse_pattern" 1586 1587 865 2 (xR 912) (xR 913) xN xN xN (xR 914) 1588 865 1589),
  (916, fO (sA 129) "parse_pattern" "perlcore.repattern" 1433 xN 915),
  (922, cO "compile_pattern" 1593 "compile_pattern" 1594 1595 875 2 (xR 917) (xR 918) xN (xR 919) (xR 920) (xR 921) 1601 875 1602),
  (923, fO (sA 131) "compile_pattern" "perlcore.patterns" 1591 xN 922),
  (929, cO "join_texts" 1614 "join_texts" 1615 1616 882 3 (xR 924) (xR 925) xN (xR 926) (xR 927) (xR 928) 1622 882 1623),
  (930, fO (sA 136) "join_texts" "perlcore.textops" 1604 xN 929),
  (936, cO "quotemeta_text" 1625 "quotemeta_text" 1626 1627 889 1 (xR 931) (xR 932) xN (xR 933) (xR 934) (xR 935) 1631 889 1632),
  (937, fO (sA 137) "quotemeta_text" "perlcore.textops" 1604 xN 936),
  (938, tO [(xS "-" 1636), (xS "ab" 1637), (xS "[-,]" 1638), (xS "-+" 1639), (xS "a|ab" 1640), (xS "-?b" 1641)]),
  (939, tO [(xS "-" 1643), (xS "--" 1644), (xS "+" 1645), (xS ".*" 1646)]),
  (940, tO [(xI 2 1648), (xI 6 1649), (xI 0 1650), (xI 2 1651), (xI 3 1652), (xI 1 1653), (xI 0 1654), (xI 2 1655), (xI 1 1656), (xI 2 1657), (xI 2 1658), (xI 0 1659), (xI 1 1660), (xI 0 1661), (xI 1 1662), (xI 1 1663), (xI 1 1664)]),
  (946, cO "_law_catch" 1666 "_law_catch" 1667 1668 900 2 (xR 941) (xR 942) xN (xR 943) (xR 944) (xR 945) 1672 900 1673),
  (947, fO (sA 142) "_law_catch" "law_sa0541_01" 1634 xN 946),
  (953, cO "_law_mark" 1675 "_law_mark" 1676 1677 904 1 (xR 948) (xR 949) xN (xR 950) (xR 951) (xR 952) 1679 904 1680),
  (954, fO (sA 143) "_law_mark" "law_sa0541_01" 1634 xN 953),
  (960, cO "_law_between" 1682 "_law_between" 1683 1684 906 2 (xR 955) (xR 956) xN (xR 957) (xR 958) (xR 959) 1691 906 1692),
  (961, fO (sA 144) "_law_between" "law_sa0541_01" 1634 xN 960),
  (965, cO "_law_fields_right" 1694 "_law_fields_right" 1695 1696 914 5 (xR 962) (xR 963) xN xN xN (xR 964) 1697 914 1698),
  (966, fO (sA 145) "_law_fields_right" "law_sa0541_01" 1634 xN 965),
  (972, cO "_law_replaced_right" 1700 "_law_replaced_right" 1701 1702 929 3 (xR 967) (xR 968) xN (xR 969) (xR 970) (xR 971) 1711 929 1712),
  (973, fO (sA 146) "_law_replaced_right" "law_sa0541_01" 1634 xN 972),
  (977, cO "_law_empty_right" 1714 "_law_empty_right" 1715 1716 940 1 (xR 974) (xR 975) xN xN xN (xR 976) 1717 940 1718),
  (978, fO (sA 147) "_law_empty_right" "law_sa0541_01" 1634 xN 977),
  (982, cO "law" 1720 "law" 1721 1722 945 1 (xR 979) (xR 980) xN xN xN (xR 981) 1723 945 1724),
  (983, fO (sA 148) "law" "law_sa0541_01" 1634 xN 982)
]
noncomputable def Kt (P : Params) : Frag := (968, ⟨.none, none, .fields #[], #[]⟩) :: Kf P
noncomputable def Ka : List Addr := [968, 1, 3, 161, 162, 173, 174, 180, 181, 187, 188, 194, 195, 208, 209, 211, 212, 222, 223, 229, 230, 236, 237, 243, 244, 250, 251, 278, 279, 285, 286, 292, 293, 299, 300, 339, 340, 374, 375, 388, 389, 395, 396, 397, 403, 404, 405, 411, 412, 416, 417, 418, 424, 425, 431, 432, 438, 439, 445, 446, 450, 451, 452, 458, 459, 467, 473, 474, 476, 477, 482, 495, 496, 498, 499, 516, 517, 523, 524, 530, 531, 533, 534, 544, 545, 551, 552, 565, 566, 586, 587, 588, 601, 602, 608, 609, 615, 616, 618, 619, 629, 630, 672, 673, 693, 694, 700, 701, 707, 708, 714, 715, 728, 729, 730, 731, 732, 733, 739, 740, 746, 747, 753, 754, 760, 761, 779, 780, 814, 815, 816, 817, 818, 819, 820, 821, 822, 828, 829, 833, 834, 840, 841, 847, 848, 854, 855, 861, 862, 868, 869, 875, 876, 882, 883, 896, 897, 910, 911, 915, 916, 922, 923, 929, 930, 936, 937, 938, 939, 940, 946, 947, 953, 954, 960, 961, 965, 966, 972, 973, 977, 978, 982, 983]
noncomputable def gTab : List (Nat × V) := [(521570552536120300953922, (.ref 70)), (6601399073604148259452765686851, (.str [100, 68, 119, 87, 115, 83, 104, 72, 118, 86])), (100710502616178890737274691, (.ref 730)), (6646084, (.ref 51)), (23438642987354438, (.str [48, 49, 50, 51, 52, 53, 54, 55, 56, 57])), (25786715131266204138284862534, (.str [105, 109, 115, 120])), (357745774412, (.ref 818)), (126943822178636, (.ref 477)), (398123777804892642692941, (.int 32766)), (1555310614360838328141, (.int 100)), (82534354547903230886760269, (.int 40)), (7959358524745867597, (.ref 212)), (630540107711584889291198644143656219335377895758, (.ref 822)), (10056172656303468400326177320177689797935438, (.str [65, 66, 67, 68, 69, 70, 71, 72, 73, 74, 75, 76, 77, 78, 79, 80, 81, 82, 83, 84, 85, 86, 87, 88, 89, 90, 97, 98, 99, 100, 101, 102, 103, 104, 105, 106, 107, 108, 109, 110, 111, 112, 113, 114, 115, 116, 117, 118, 119, 120, 121, 122, 48, 49, 50, 51, 52, 53, 54, 55, 56, 57, 95])), (6597391488994971115145961685839, (.str [48, 49, 50, 51, 52, 53, 54, 55])), (5640557680734326351, (.tup [(.str [115, 105, 103, 110]), (.str [97, 110, 121]), (.str [115, 101, 116])])), (6597388976622935546673995271248, (.ref 588)), (100710502616178907833126736, (.str [97, 98, 99, 100, 101, 102, 103, 104, 105, 106, 107, 108, 109, 110, 111, 112, 113, 114, 115, 116, 117, 118, 119, 120, 121, 122, 94])), (140803948258318713051439440, (.ref 619)), (30787916450984528, (.ref 499)), (8243112758627233618, (.ref 534)), (100720206035599410210362451, (.int 20)), (393400400844448724243539, (.int 100)), (29113346903994196, (.ref 89)), (34165931750693567755186170975, (.ref 961)), (492960727974983164324959, (.ref 947)), (154732543826880816076782614648765639775, (.ref 978)), (39611531219681481586469205632841267899487, (.ref 966)), (1982043604936778935391, (.ref 954)), (9145420336871406038464138931295, (.tup [(.str [45]), (.str [97, 98]), (.str [91, 45, 44, 93]), (.str [45, 43]), (.str [97, 124, 97, 98]), (.str [45, 63, 98])])), (2595981310013044389126993990430194862877928543, (.ref 973)), (2148137490591667809375, (.tup [(.int 2), (.int 6), (.int 0), (.int 2), (.int 3), (.int 1), (.int 0), (.int 2), (.int 1), (.int 2), (.int 2), (.int 0), (.int 1), (.int 0), (.int 1), (.int 1), (.int 1)])), (599435163770427642041685598045039711, (.tup [(.str [45]), (.str [45, 45]), (.str [43]), (.str [46, 42])])), (469459075581268489167969, (.ref 559)), (35713370597531406374088762465, (.ref 552)), (7741528795720737889, (.ref 580)), (8101816765910377569, (.ref 573)), (7306087015339287649, (.ref 545)), (139576060411324120885912673, (.ref 566)), (139505353898295884484734049, (.ref 425)), (31654250075611490, (.ref 389)), (37265683517452367581690750306, (.ref 754)), (549665946638186036356450, (.ref 747)), (36033797551061293923381113442, (.ref 773)), (573472887219017947074300704560344931, (.ref 923)), (31380627996212308784075075427, (.ref 587)), (35726730393962271897766162275, (.ref 740)), (549867855388908327366499, (.ref 417)), (599151126163154412487761348294308452, (.ref 439)), (544924630702397306728037, (.ref 446)), (474314927975, (.ref 230)), (550015431874755731354215, (.ref 432)), (8319100054834998889, (.ref 148)), (133470189126947484316169065, (.ref 715)), (31079591300031345287919268713, (.ref 904)), (544924633516017732383849, (.ref 174)), (474236924418210302096489, (.ref 181)), (545220643310769929809770, (.ref 930)), (516793778606042986602861, (.ref 396)), (492960727985978231776622, (.ref 412)), (8751445890776019603031986107758, (.ref 637)), (8037467699248791253124070600815, (.ref 761)), (479087407895900070638703, (.ref 155)), (8750501819137847092808661492080, (.ref 916)), (1852629276658544897904, (.ref 694)), (139543078711807342808362864, (.ref 167)), (2362298292197115058115961573832049, (.ref 937)), (146793563361266914980360803763823404402, (.ref 848)), (2018726255132183455090, (.ref 862)), (126197835685356567965820274, (.ref 855)), (31396358200190590832263390578, (.ref 883)), (33559112324241539278475191666, (.ref 680)), (31071152322031536892228494706, (.ref 869)), (122632209327516989192758642, (.ref 911)), (544979180268080339182962, (.ref 834)), (531071345732769240147314, (.ref 897)), (8747102314624996885459552527730, (.ref 656)), (122622912815619209083053426, (.ref 841)), (540220857612034256233842, (.ref 876)), (1981831371704508704114, (.ref 890)), (138296318114583762874492274, (.ref 708)), (1871002853623524844914, (.ref 787)), (557591437990604978271827553538893170, (.ref 801)), (573250097291169348916681748204578162, (.ref 666)), (9354831994918985697205055797154973841712498, (.ref 808)), (573250097291207054566535618258625906, (.ref 661)), (34517898264439136071850860588126802371954, (.ref 673)), (568629204062688713467250, (.ref 701)), (2036987431554547921945324958082418, (.ref 722)), (8387236734590608754, (.ref 729)), (2036735312222685196146, (.ref 321)), (127961562312562, (.ref 265)), (7738135659888996210, (.ref 272)), (474273385567317315252082, (.ref 368)), (1871439137655500533618, (.ref 286)), (32780166962311026, (.ref 333)), (8101260404438036338, (.ref 293)), (8101816765911625586, (.ref 314)), (7742357831784296306, (.ref 328)), (7954887940465192818, (.ref 279)), (1870282275557054312306, (.ref 354)), (479088849898802729414514, (.ref 347)), (521571705441205500735346, (.ref 361)), (31091381526556530, (.ref 251)), (2147418882862600384370, (.ref 300)), (8391162081213640562, (.ref 237)), (2128613538586229698418, (.ref 375)), (8030592661817094002, (.ref 307)), (28268879342892402, (.ref 244)), (112628528477554, (.ref 630)), (2036593462020072628595, (.ref 162)), (2240128465699288855762247157376371, (.ref 404)), (2128611849671944725875, (.ref 188)), (35403942550897147575199360371, (.ref 223)), (2129763916817612892531, (.ref 195)), (1852629276637153159539, (.ref 687)), (133460670611245102617160563, (.ref 829)), (7381223229083709555, (.ref 794)), (35712180597712309962364711027, (.ref 451)), (479107300587933083530611, (.ref 459)), (549832115952473122496884, (.ref 780)), (1871367081143894237556, (.ref 382)), (573517663006246362705525, (.ref 340)), (521367926277168591826549, (.ref 644)), (7630441, .bi .int), (7234924, .bi .len), (7889261, .bi .max), (7235949, .bi .min), (6582895, .bi .ord), (435526984050, .bi .range), (7173491, .bi .sum)]
end Mine
set_option maxRecDepth 100000
namespace Mine
open PySem PySem.W PyProof.Rows PySem.Calls
set_option genInjectivity false
noncomputable def dig : Nat → Nat → List Nat
  | 0, _ => []
  | f + 1, n => if n = 0 then [] else (n % 256) :: dig f (n / 256)
noncomputable def undig : List Nat → Nat
  | [] => 0
  | c :: r => c + 256 * undig r
theorem undig_dig : ∀ f n, n ≤ f → undig (dig f n) = n
  | 0, n, h => by simp [dig, undig]; exact Nat.min_eq_right h
  | f + 1, n, h => by
    unfold dig
    split
    · rename_i e; simp [undig, e]
    · simp only [undig]; rw [undig_dig f (n / 256) (by lia)]; lia
theorem dig_undig : ∀ (f : Nat) (l : List Nat), (l.all fun c => decide (0 < c) && decide (c < 256)) = true → undig l ≤ f → dig f (undig l) = l
  | 0, [], _, _ => rfl
  | 0, c :: r, h, hf => by simp [undig] at h hf; lia
  | f + 1, [], _, _ => rfl
  | f + 1, c :: r, h, hf => by
    simp only [List.all_cons, Bool.and_eq_true, decide_eq_true_eq] at h
    simp only [undig] at hf ⊢
    unfold dig
    rw [if_neg (by lia)]
    have e1 : (c + 256 * undig r) % 256 = c := by lia
    have e2 : (c + 256 * undig r) / 256 = undig r := by lia
    rw [e1, e2, dig_undig f r h.2 (by lia)]
noncomputable def nm (n : Nat) : Str := ⟨(dig n n).toArray⟩
noncomputable def codeOf (s : Str) : Nat := undig s.cps.toList
noncomputable def okName (s : Str) : Bool := s.cps.toList.all fun c => decide (0 < c) && decide (c < 256)
theorem nm_inj {x y : Nat} (h : nm x = nm y) : x = y := by
  have h1 : dig x x = dig y y := by
    have := congrArg (fun s : Str => s.cps.toList) h
    simpa [nm] using this
  rw [← undig_dig x x (Nat.le_refl _), h1, undig_dig y y (Nat.le_refl _)]
theorem nm_code {s : Str} (h : okName s = true) : nm (codeOf s) = s := by
  unfold nm codeOf
  rw [dig_undig _ _ h (Nat.le_refl _)]
noncomputable def biVal : BI → Value
  | .len => .builtin "len" | .min => .builtin "min" | .max => .builtin "max" | .sum => .builtin "sum" | .ord => .builtin "ord"
  | .range => .type "range" | .int => .type "int"
noncomputable abbrev Mu := List (List Addr)
mutual
noncomputable def VR (h : Heap) (μ : Mu) : V → Value → Prop
  | .none, x => x = .none
  | .bool b, x => x = .bool b
  | .int i, x => ∃ t, x = .int i t
  | .str s, x => s.length ≤ top ∧ ∃ t, x = .str ⟨s.toArray⟩ t
  | .tup vs, x => ∃ a xs, x = .ref a ∧ h.IsTuple a xs.toArray ∧ VRs h μ vs xs
  | .loc i, x => ∃ a r, μ[i]? = some (a :: r) ∧ x = .ref a
  | .ref a, x => x = .ref a
  | .bi b, x => x = biVal b
  | .rng n, x => ∃ a t u v, x = .ref a ∧ IsRange h a 0 n 1 t u v
noncomputable def VRs (h : Heap) (μ : Mu) : List V → List Value → Prop
  | [], xs => xs = []
  | v :: vs, xs => ∃ y ys, xs = y :: ys ∧ VR h μ v y ∧ VRs h μ vs ys
end
noncomputable def Keeps (W : List Addr) (h h' : Heap) : Prop := ∀ b o, h.get? b = some o → b ∉ W → h'.get? b = some o
noncomputable def Plainly (o : Obj) : Prop := ¬ (o.cls = .type "tuple" ∧ ∃ xs n, o.data = .seq xs n) ∧ ¬ (o.cls = .type "range" ∧ ∃ vs, o.data = .fields vs)
noncomputable def Bare (h : Heap) (W : List Addr) : Prop := ∀ a ∈ W, ∀ o, h.get? a = some o → Plainly o
theorem Keeps.refl (W : List Addr) (h : Heap) : Keeps W h h := fun _ _ e _ => e
theorem Keeps.mono {W W' : List Addr} {h h' : Heap} (k : Keeps W h h') (s : ∀ a ∈ W, a ∈ W') : Keeps W' h h' := fun b o e n => k b o e fun m => n (s b m)
theorem getElem?_append_some {α : Type} {l l' : List α} {i : Nat} {a : α} (h : l[i]? = some a) : (l ++ l')[i]? = some a := by
  rw [List.getElem?_append_left]
  · exact h
  · exact (List.getElem?_eq_some_iff.mp h).1
mutual
theorem VR.keeps {h h' : Heap} {W : List Addr} {μ ν : Mu} (k : Keeps W h h') (hb : Bare h W) : ∀ {v : V} {x : Value}, VR h μ v x → VR h' (μ ++ ν) v x
  | .none, _, e => e
  | .bool _, _, e => e
  | .int _, _, e => e
  | .str _, _, e => e
  | .ref _, _, e => e
  | .bi _, _, e => e
  | .loc i, _, e => by
    obtain ⟨a, r, e1, e2⟩ := e
    exact ⟨a, r, getElem?_append_some e1, e2⟩
  | .rng n, _, e => by
    obtain ⟨a, t, u, v, e1, e2⟩ := e
    refine ⟨a, t, u, v, e1, k _ _ e2 fun m => (hb a m _ e2).2 ⟨rfl, _, rfl⟩⟩
  | .tup vs, _, e => by
    obtain ⟨a, xs, e1, ⟨o, ho, hc, n, hd⟩, e3⟩ := e
    refine ⟨a, xs, e1, ⟨o, k _ _ ho fun m => (hb a m _ ho).1 ⟨hc, _, _, hd⟩, hc, n, hd⟩, VRs.keeps k hb e3⟩
theorem VRs.keeps {h h' : Heap} {W : List Addr} {μ ν : Mu} (k : Keeps W h h') (hb : Bare h W) : ∀ {v : List V} {x : List Value}, VRs h μ v x → VRs h' (μ ++ ν) v x
  | [], _, e => e
  | v :: vs, _, e => by
    obtain ⟨y, ys, e1, e2, e3⟩ := e
    exact ⟨y, ys, e1, VR.keeps k hb e2, VRs.keeps k hb e3⟩
end
theorem VRs.length {h : Heap} {μ : Mu} : ∀ {vs : List V} {xs : List Value}, VRs h μ vs xs → xs.length = vs.length
  | [], _, e => by cases e; rfl
  | _ :: _, _, e => by
    obtain ⟨y, ys, rfl, _, e3⟩ := e
    simp [VRs.length e3]
theorem VRs.get {h : Heap} {μ : Mu} : ∀ {vs : List V} {xs : List Value} {i : Nat} {v : V}, VRs h μ vs xs → vs[i]? = some v → ∃ x, xs[i]? = some x ∧ VR h μ v x
  | [], _, _, _, _, h => by simp at h
  | _ :: _, _, 0, _, e, h => by
    obtain ⟨y, ys, rfl, e2, _⟩ := e
    simp at h; subst h
    exact ⟨y, rfl, e2⟩
  | _ :: _, _, i + 1, _, e, h => by
    obtain ⟨y, ys, rfl, _, e3⟩ := e
    simp at h
    obtain ⟨x, hx, r⟩ := VRs.get e3 h
    exact ⟨x, by simpa using hx, r⟩
theorem VRs.append {h : Heap} {μ : Mu} : ∀ {vs ws : List V} {xs ys : List Value}, VRs h μ vs xs → VRs h μ ws ys → VRs h μ (vs ++ ws) (xs ++ ys)
  | [], _, _, _, e, f => by cases e; exact f
  | _ :: _, _, _, _, e, f => by
    obtain ⟨y, ys, rfl, e2, e3⟩ := e
    exact ⟨y, _, rfl, e2, VRs.append e3 f⟩
theorem VRs.set {h : Heap} {μ : Mu} : ∀ {vs : List V} {xs : List Value} {i : Nat} {v : V} {x : Value}, VRs h μ vs xs → VR h μ v x → VRs h μ (vs.set i v) (xs.set i x)
  | [], _, _, _, _, e, _ => by cases e; exact rfl
  | _ :: _, _, 0, _, _, e, f => by
    obtain ⟨y, ys, rfl, _, e3⟩ := e
    exact ⟨_, _, rfl, f, e3⟩
  | _ :: _, _, i + 1, _, _, e, f => by
    obtain ⟨y, ys, rfl, e2, e3⟩ := e
    exact ⟨_, _, rfl, e2, VRs.set e3 f⟩
theorem VRs.filterMap {h : Heap} {μ : Mu} {vs : List V} {xs : List Value} (e : VRs h μ vs xs) : ∀ (idx : List Nat), VRs h μ (idx.filterMap (vs[·]?)) (idx.filterMap (xs[·]?))
  | [] => rfl
  | i :: r => by
    have ih := VRs.filterMap e r
    cases hv : vs[i]? with
    | some v =>
      obtain ⟨x, hx, q⟩ := e.get hv
      simp only [List.filterMap_cons, hv, hx]
      exact ⟨x, _, rfl, q, ih⟩
    | none =>
      have : xs[i]? = none := by
        rw [List.getElem?_eq_none_iff] at hv ⊢
        rw [e.length]; exact hv
      simp only [List.filterMap_cons, hv, this]
      exact ih
theorem VRs.dropLast {h : Heap} {μ : Mu} : ∀ {vs : List V} {xs : List Value}, VRs h μ vs xs → VRs h μ vs.dropLast xs.dropLast
  | [], _, e => by cases e; exact rfl
  | [v], _, e => by
    obtain ⟨y, ys, rfl, _, e3⟩ := e
    cases e3; exact rfl
  | v :: w :: vs, _, e => by
    obtain ⟨y, ys, rfl, e2, e3⟩ := e
    obtain ⟨z, zs, rfl, e4, e5⟩ := e3
    exact ⟨y, _, rfl, e2, VRs.dropLast (vs := w :: vs) (xs := z :: zs) ⟨z, zs, rfl, e4, e5⟩⟩
theorem VRs.replicate {h : Heap} {μ : Mu} {v : V} {x : Value} (e : VR h μ v x) : ∀ n, VRs h μ (List.replicate n v) (List.replicate n x)
  | 0 => rfl
  | n + 1 => ⟨x, _, rfl, e, VRs.replicate e n⟩
noncomputable def ARs (h : Heap) (μ : Mu) : List (Nat × V) → List DictEntry → Prop
  | [], es => es = []
  | (x, v) :: r, es => ∃ e q, es = e :: q ∧ (∃ t, e.key = .str (nm x) t) ∧ VR h μ v e.val ∧ ARs h μ r q
theorem ARs.keeps {h h' : Heap} {W : List Addr} {μ ν : Mu} (k : Keeps W h h') (hb : Bare h W) : ∀ {as : List (Nat × V)} {es : List DictEntry}, ARs h μ as es → ARs h' (μ ++ ν) as es
  | [], _, e => e
  | (_, _) :: _, _, e => by
    obtain ⟨y, q, e1, e2, e3, e4⟩ := e
    exact ⟨y, q, e1, e2, VR.keeps k hb e3, ARs.keeps k hb e4⟩
theorem isStr_nm {x y : Nat} {t : Tok} : (Value.str (nm x) t).isStr (nm y) = decide (x = y) := by
  show (nm x == nm y) = _
  by_cases h : x = y
  · subst h; simp
  · have : nm x ≠ nm y := fun e => h (nm_inj e)
    simp [h, this]
theorem ARs.get {h : Heap} {μ : Mu} : ∀ {as : List (Nat × V)} {es : List DictEntry} {a : Nat} {v : V}, ARs h μ as es → Env.get as a = some v → ∃ x, getL (nm a) es = some (some x) ∧ VR h μ v x
  | [], _, _, _, _, h => by simp [Env.get] at h
  | (x, u) :: r, _, a, v, e, hg => by
    obtain ⟨y, q, rfl, ⟨t, e2⟩, e3, e4⟩ := e
    unfold Env.get at hg
    by_cases hx : x = a
    · subst hx
      simp at hg; subst hg
      refine ⟨y.val, ?_, e3⟩
      unfold getL
      simp only [List.find?_cons, e2, isStr_nm, decide_true]
    · rw [if_neg hx] at hg
      obtain ⟨z, hz, hv⟩ := ARs.get e4 hg
      refine ⟨z, ?_, hv⟩
      unfold getL at hz ⊢
      simp only [List.find?_cons, e2, isStr_nm, hx, decide_false]
      have : (q.find? fun x => x.key.isStr (nm a)).isSome = true := by
        cases hq : q.find? fun x => x.key.isStr (nm a) with
        | some _ => rfl
        | none => rw [hq] at hz; dsimp only at hz; split at hz <;> cases hz
      obtain ⟨en, hen⟩ := Option.isSome_iff_exists.mp this
      rw [hen] at hz ⊢
      exact hz
theorem ARs.keys {h : Heap} {μ : Mu} : ∀ {as : List (Nat × V)} {es : List DictEntry}, ARs h μ as es → ∀ e ∈ es, ∃ x t, e.key = .str (nm x) t
  | [], _, e => by cases e; intro e he; cases he
  | (x, _) :: _, _, e => by
    obtain ⟨y, q, rfl, ⟨t, e2⟩, _, e4⟩ := e
    intro z hz
    rcases List.mem_cons.mp hz with rfl | hz
    · exact ⟨x, t, e2⟩
    · exact ARs.keys e4 z hz
theorem ARs.noRef {h : Heap} {μ : Mu} {as : List (Nat × V)} {es : List DictEntry} (e : ARs h μ as es) : es.any (·.refKey) = false := by
  rw [List.any_eq_false]
  intro x hx
  obtain ⟨y, t, hk⟩ := e.keys x hx
  unfold DictEntry.refKey
  rw [hk]; simp
theorem ARs.looks {h : Heap} {μ : Mu} {as : List (Nat × V)} {es : List DictEntry} (e : ARs h μ as es) (a : Nat) : (getL (nm a) es).isSome = true := by
  unfold getL
  split
  · rfl
  · rw [if_neg (by rw [e.noRef]; simp)]; rfl
theorem ARs.none {h : Heap} {μ : Mu} : ∀ {as : List (Nat × V)} {es : List DictEntry} {a : Nat}, ARs h μ as es → Env.get as a = none → getL (nm a) es = some none
  | [], _, _, e, _ => by cases e; rfl
  | (x, u) :: r, _, a, e, hg => by
    have hn := ARs.noRef e
    obtain ⟨y, q, rfl, ⟨t, e2⟩, e3, e4⟩ := e
    unfold Env.get at hg
    by_cases hx : x = a
    · subst hx; simp at hg
    · rw [if_neg hx] at hg
      have ih := ARs.none e4 hg
      unfold getL at ih ⊢
      simp only [List.find?_cons, e2, isStr_nm, hx, decide_false]
      cases hq : q.find? fun x => x.key.isStr (nm a) with
      | some _ => rw [hq] at ih; simp at ih
      | none => simp only []; rw [if_neg (by rw [hn]; simp)]
theorem ARs.put {h : Heap} {μ : Mu} {hsh : Int} {t : Tok} {v : V} {x : Value} : ∀ {as : List (Nat × V)} {es : List DictEntry} {a : Nat}, ARs h μ as es → VR h μ v x → ARs h μ (Env.put as a v) (putL (nm a) hsh (.str (nm a) t) x es)
  | [], _, a, e, f => by cases e; exact ⟨_, _, rfl, ⟨t, rfl⟩, f, rfl⟩
  | (y, u) :: r, _, a, e, f => by
    obtain ⟨z, q, rfl, ⟨t', e2⟩, e3, e4⟩ := e
    unfold Env.put putL
    rw [e2, isStr_nm]
    by_cases hx : y = a
    · subst hx
      simp only [if_true, decide_true]
      exact ⟨_, _, rfl, ⟨t', rfl⟩, f, e4⟩
    · simp only [hx, if_false, decide_false, Bool.false_eq_true]
      exact ⟨_, _, rfl, ⟨t', e2⟩, e3, ARs.put e4 f⟩
theorem put_length : ∀ (as : List (Nat × V)) (a : Nat) (v : V), (Env.put as a v).length ≤ as.length + 1
  | [], _, _ => by simp [Env.put]
  | (x, u) :: r, a, v => by
    unfold Env.put
    split
    · simp
    · simp only [List.length_cons]; have := put_length r a v; lia
theorem ARs.length {h : Heap} {μ : Mu} : ∀ {as : List (Nat × V)} {es : List DictEntry}, ARs h μ as es → es.length = as.length
  | [], _, e => by cases e; rfl
  | (_, _) :: _, _, e => by
    obtain ⟨y, q, rfl, _, _, e4⟩ := e
    simp [ARs.length e4]
noncomputable def tabP : Addr := 968
structure Gam where
  prog : Program
  w : World
  h₀ : Heap
noncomputable abbrev Gam.M (Γ : Gam) : Model := model Γ.prog Γ.w
section
variable (Γ : Gam)
noncomputable def ORel (h : Heap) (μ : Mu) : O → List Addr → Prop
  | .list vs, l => ∃ a xs n, l = [a] ∧ IsL h a xs.toArray n ∧ VRs h μ vs xs ∧ vs.length ≤ top
  | .inst c as, l => ∃ a d es n, l = [a, d] ∧ h.get? a = some (instObj c d) ∧ h.get? d = some (dictOf es n) ∧ ARs h μ as es
  | .dict es, l => ∃ a f, l = [a] ∧ h.MapOf (PySem.strKind Γ.prog Γ.w) a f ∧ ∀ k : Str, match inDict k.cps.toList es with
      | some v => ∃ x, f k = some x ∧ VR h μ v x
      | none => f k = none
  | .tab b, l => ∃ ps : Array Value, l = [tabP] ∧ h.get? tabP = some { cls := .none, data := .fields ps } ∧ (b = false → ps = #[])
theorem ORel.keeps {h h' : Heap} {W : List Addr} {μ ν : Mu} (k : Keeps W h h') (hb : Bare h W) {o : O} {l : List Addr} (hl : ∀ a ∈ l, a ∉ W) (x : ORel Γ h μ o l) : ORel Γ h' (μ ++ ν) o l := by
  cases o with
  | list vs =>
    obtain ⟨a, xs, n, rfl, ho, e, hs⟩ := x
    exact ⟨a, xs, n, rfl, k _ _ ho (hl a (.head _)), e.keeps k hb, hs⟩
  | inst c as =>
    obtain ⟨a, d, es, n, rfl, h1, h2, e⟩ := x
    exact ⟨a, d, es, n, rfl, k _ _ h1 (hl a (.head _)), k _ _ h2 (hl d (.tail _ (.head _))), e.keeps k hb⟩
  | dict es =>
    obtain ⟨a, f, rfl, ⟨ob, es', ep, ho, r⟩, e⟩ := x
    refine ⟨a, f, rfl, ⟨ob, es', ep, k _ _ ho (hl a (.head _)), r⟩, fun key => ?_⟩
    have := e key
    split at this
    · obtain ⟨y, h1, h2⟩ := this; exact ⟨y, h1, h2.keeps k hb⟩
    · exact this
  | tab b =>
    obtain ⟨ps, rfl, ho, e⟩ := x
    exact ⟨ps, rfl, k _ _ ho (hl _ (.head _)), e⟩
theorem ORel.plain {h : Heap} {μ : Mu} {o : O} {l : List Addr} (x : ORel Γ h μ o l) : ∀ a ∈ l, ∃ ob, h.get? a = some ob ∧ Plainly ob := by
  cases o with
  | list vs =>
    obtain ⟨a, xs, n, rfl, ho, _⟩ := x
    intro b hb
    rw [List.mem_singleton.mp hb]
    exact ⟨_, ho, fun q => by simp at q, fun q => by simp at q⟩
  | inst c as =>
    obtain ⟨a, d, es, n, rfl, h1, h2, _⟩ := x
    intro b hb
    rcases List.mem_cons.mp hb with rfl | hb
    · exact ⟨_, h1, fun q => by simp at q, fun q => by simp at q⟩
    · rw [List.mem_singleton.mp hb]
      exact ⟨_, h2, fun q => by simp at q, fun q => by simp at q⟩
  | dict es =>
    obtain ⟨a, f, rfl, ⟨ob, es', ep, ho, he, hd, _⟩, _⟩ := x
    intro b hb
    rw [List.mem_singleton.mp hb]
    exact ⟨ob, ho, fun q => by rw [hd] at q; simp at q, fun q => by rw [hd] at q; simp at q⟩
  | tab b =>
    obtain ⟨ps, rfl, ho, e⟩ := x
    intro c hb
    rw [List.mem_singleton.mp hb]
    exact ⟨_, ho, fun q => by simp at q, fun q => by simp at q⟩
structure HR (μ : Mu) (H : MH) (h : Heap) : Prop where
  len : μ.length = H.length
  nodup : μ.flatten.Nodup
  fresh : ∀ a ∈ μ.flatten, Γ.h₀.get? a = none
  base : ∀ b o, Γ.h₀.get? b = some o → h.get? b = some o
  obj : ∀ (i : Nat) (o : O) (l : List Addr), H[i]? = some o → μ[i]? = some l → ORel Γ h μ o l
variable {Γ}
theorem HR.at {μ : Mu} {H : MH} {h : Heap} (x : HR Γ μ H h) {i : Nat} {o : O} (e : H[i]? = some o) : ∃ l, μ[i]? = some l ∧ ORel Γ h μ o l := by
  have hi : i < μ.length := by rw [x.len]; exact (List.getElem?_eq_some_iff.mp e).1
  exact ⟨μ[i], List.getElem?_eq_getElem hi, x.obj i o _ e (List.getElem?_eq_getElem hi)⟩
theorem HR.plain {μ : Mu} {H : MH} {h : Heap} (x : HR Γ μ H h) : ∀ a ∈ μ.flatten, ∃ ob, h.get? a = some ob ∧ Plainly ob := by
  intro a ha
  obtain ⟨l, hl, hal⟩ := List.mem_flatten.mp ha
  obtain ⟨i, hi, rfl⟩ := List.getElem_of_mem hl
  have hH : i < H.length := by rw [← x.len]; exact hi
  exact (x.obj i H[i] _ (List.getElem?_eq_getElem hH) (List.getElem?_eq_getElem hi)).plain Γ a hal
theorem HR.bare {μ : Mu} {H : MH} {h : Heap} (x : HR Γ μ H h) : Bare h μ.flatten := fun a ha o ho => by
  obtain ⟨ob, h1, h2⟩ := x.plain a ha
  rw [ho] at h1; cases h1; exact h2
theorem HR.ne {μ : Mu} {H : MH} {h : Heap} (x : HR Γ μ H h) {a : Addr} (ha : h.get? a = none) : a ∉ μ.flatten := fun m => by
  obtain ⟨ob, h1, _⟩ := x.plain a m
  rw [ha] at h1; cases h1
theorem HR.keeps {μ : Mu} {H : MH} {h h' : Heap} {W : List Addr} (x : HR Γ μ H h) (k : Keeps W h h') (hb : Bare h W) (hW : ∀ a ∈ W, a ∉ μ.flatten ∧ Γ.h₀.get? a = none) : HR Γ μ H h' where
  len := x.len
  nodup := x.nodup
  fresh := x.fresh
  base := fun b o e => k b o (x.base b o e) fun m => by have := (hW b m).2; rw [e] at this; cases this
  obj := fun i o l e1 e2 => by
    have := (x.obj i o l e1 e2).keeps Γ (ν := []) k hb fun a ha m => (hW a m).1 (List.mem_flatten.mpr ⟨l, List.mem_of_getElem? e2, ha⟩)
    rwa [List.append_nil] at this
theorem HR.push {μ : Mu} {H : MH} {h h' : Heap} {l : List Addr} {o : O} (x : HR Γ μ H h) (k : Keeps [] h h') (hn : l.Nodup) (hl : ∀ a ∈ l, h.get? a = none) (ho : ORel Γ h' (μ ++ [l]) o l) :
    HR Γ (μ ++ [l]) (H ++ [o]) h' where
  len := by simp [x.len]
  nodup := by
    rw [List.flatten_append, List.flatten_singleton, List.nodup_append]
    exact ⟨x.nodup, hn, fun a ha b hb e => x.ne (hl b hb) (e ▸ ha)⟩
  fresh := fun a ha => by
    rw [List.flatten_append, List.flatten_singleton, List.mem_append] at ha
    rcases ha with ha | ha
    · exact x.fresh a ha
    · cases q : Γ.h₀.get? a with
      | none => rfl
      | some ob => have := x.base a ob q; rw [hl a ha] at this; cases this
  base := fun b o e => k b o (x.base b o e) (by simp)
  obj := fun i o' l' e1 e2 => by
    rw [List.getElem?_append] at e1 e2
    by_cases hi : i < H.length
    · rw [if_pos hi] at e1
      rw [if_pos (by rw [x.len]; exact hi)] at e2
      exact (x.obj i o' l' e1 e2).keeps Γ k (fun _ m => by cases m) fun a _ m => by cases m
    · rw [if_neg hi] at e1
      rw [if_neg (by rw [x.len]; exact hi)] at e2
      rw [x.len] at e2
      have : i - H.length = 0 := by
        rw [List.getElem?_eq_some_iff] at e1
        have := e1.1
        simp at this; omega
      rw [this] at e1 e2
      simp at e1 e2
      subst e1 e2
      exact ho
theorem HR.set {μ : Mu} {H : MH} {h h' : Heap} {l : List Addr} {i : Nat} {o o' : O} (x : HR Γ μ H h) (hi : H[i]? = some o) (hl : μ[i]? = some l) (k : Keeps l h h') (ho : ORel Γ h' μ o' l) :
    HR Γ μ (H.set i o') h' where
  len := by simp [x.len]
  nodup := x.nodup
  fresh := x.fresh
  base := fun b o e => k b o (x.base b o e) fun m => by
    have := x.fresh b (List.mem_flatten.mpr ⟨l, List.mem_of_getElem? hl, m⟩)
    rw [e] at this; cases this
  obj := fun j p l' e1 e2 => by
    have hbl : Bare h l := fun a ha ob hob => x.bare a (List.mem_flatten.mpr ⟨l, List.mem_of_getElem? hl, ha⟩) ob hob
    by_cases hj : i = j
    · subst hj
      rw [hl] at e2; cases e2
      have hlt := (List.getElem?_eq_some_iff.mp hi).1
      rw [List.getElem?_set_self hlt] at e1
      cases e1
      exact ho
    · rw [List.getElem?_set_ne hj] at e1
      have := (x.obj j p l' e1 e2).keeps Γ (ν := []) k hbl fun a ha m => by
        have hnd := x.nodup
        have hpw := (List.pairwise_flatten.mp hnd).2
        obtain ⟨hi1, hi2⟩ := List.getElem?_eq_some_iff.mp hl
        obtain ⟨hj1, hj2⟩ := List.getElem?_eq_some_iff.mp e2
        rcases Nat.lt_or_gt_of_ne hj with q | q
        · have := List.pairwise_iff_getElem.mp hpw i j hi1 hj1 q
          rw [hi2, hj2] at this
          exact this a m a ha rfl
        · have := List.pairwise_iff_getElem.mp hpw j i hj1 hi1 q
          rw [hi2, hj2] at this
          exact this a ha a m rfl
      rwa [List.append_nil] at this
variable (Γ)
structure St (H : MH) where
  s : Shared
  μ : Mu
  hr : HR Γ μ H s.heap
variable {Γ}
noncomputable abbrev St.h {H : MH} (S : St Γ H) : Heap := S.s.heap
noncomputable abbrev St.rel {H : MH} (S : St Γ H) (v : V) (y : Value) : Prop := VR S.s.heap S.μ v y
noncomputable abbrev St.rels {H : MH} (S : St Γ H) (v : List V) (y : List Value) : Prop := VRs S.s.heap S.μ v y
structure Tk {H H' : MH} (X : List Addr) (S : St Γ H) (S' : St Γ H') : Prop where
  ext : ∃ ν, S'.μ = S.μ ++ ν ∧ ∀ a ∈ ν.flatten, S.s.heap.get? a = none
  keeps : Keeps (X ++ S.μ.flatten) S.s.heap S'.s.heap
structure To {H H' : MH} (X : List Addr) (S : St Γ H) (S' : St Γ H') : Prop extends Tk X S S' where
  live : ∀ b o, S.s.heap.get? b = some o → ∃ o', S'.s.heap.get? b = some o'
  gens : S'.s.gens = S.s.gens
  drawn : S'.s.drawn = S.s.drawn
  os : S'.s.os = S.s.os
theorem To.refl {X : List Addr} {H : MH} (S : St Γ H) : To X S S := ⟨⟨⟨[], (List.append_nil _).symm, fun _ m => nomatch m⟩, Keeps.refl _ _⟩, fun _ o e => ⟨o, e⟩, rfl, rfl, rfl⟩
theorem dead_of {S : Heap} {S' : Heap} (live : ∀ b o, S.get? b = some o → ∃ o', S'.get? b = some o') {a : Addr} (h : S'.get? a = none) : S.get? a = none := by
  cases q : S.get? a with
  | none => rfl
  | some o => exact (live a o q).elim fun o' h3 => nomatch h.symm.trans h3
theorem To.trans {X : List Addr} {H H1 H2 : MH} {S : St Γ H} {S1 : St Γ H1} {S2 : St Γ H2} (x : To X S S1) (y : To X S1 S2) : To X S S2 :=
  x.ext.elim fun ν e => y.ext.elim fun ν' e2 => ⟨⟨⟨ν ++ ν', by rw [e2.1, e.1, List.append_assoc], fun a ha => by
      rw [List.flatten_append] at ha
      exact (List.mem_append.mp ha).elim (e.2 a) fun ha => dead_of x.live (e2.2 a ha)⟩,
    fun b o q n => y.keeps b o (x.keeps b o q n) fun m => (List.mem_append.mp m).elim (fun m => n (List.mem_append_left _ m)) fun m => by
      rw [e.1, List.flatten_append] at m
      exact (List.mem_append.mp m).elim (fun m => n (List.mem_append_right _ m)) fun m => nomatch (e.2 b m).symm.trans q⟩,
    fun b o q => (x.live b o q).elim fun o' h => y.live b o' h, y.gens.trans x.gens, y.drawn.trans x.drawn, y.os.trans x.os⟩
theorem To.mono {X Y : List Addr} {H H' : MH} {S : St Γ H} {S' : St Γ H'} (p : To X S S') (h : ∀ a ∈ X, a ∈ Y) : To Y S S' :=
  ⟨⟨p.ext, p.keeps.mono fun a m => (List.mem_append.mp m).elim (fun m => List.mem_append_left _ (h a m)) fun m => List.mem_append_right _ m⟩, p.live, p.gens, p.drawn, p.os⟩
theorem Tk.bare {X : List Addr} {H H' : MH} {S : St Γ H} {S' : St Γ H'} (_ : Tk X S S') (hX : Bare S.s.heap X) : Bare S.s.heap (X ++ S.μ.flatten) := fun a m => (List.mem_append.mp m).elim (hX a) (S.hr.bare a)
theorem Tk.v {X : List Addr} {H H' : MH} {S : St Γ H} {S' : St Γ H'} (p : Tk X S S') (hX : Bare S.s.heap X) {v : V} {y : Value} (e : S.rel v y) : S'.rel v y := p.ext.elim fun ν q => by
  show VR _ S'.μ v y
  rw [q.1]
  exact e.keeps p.keeps (p.bare hX)
theorem Tk.vs {X : List Addr} {H H' : MH} {S : St Γ H} {S' : St Γ H'} (p : Tk X S S') (hX : Bare S.s.heap X) {v : List V} {y : List Value} (e : S.rels v y) : S'.rels v y := p.ext.elim fun ν q => by
  show VRs _ S'.μ v y
  rw [q.1]
  exact e.keeps p.keeps (p.bare hX)
end
end Mine
set_option maxRecDepth 100000
set_option autoImplicit false
namespace Mine
open PySem PySem.W PyProof.Rows PySem.Calls PySem.SeqAt
noncomputable def opOf : BOp → Operator
  | .add => .Add | .sub => .Sub | .mul => .Mult | .fdiv => .FloorDiv | .mod => .Mod
noncomputable def copOf : COp → CmpOp
  | .eq => .Eq | .ne => .NotEq | .lt => .Lt | .le => .LtE | .gt => .Gt | .ge => .GtE | .is => .Is | .isnot => .IsNot | .in_ => .In | .notin => .NotIn
theorem ff {C : Prop} (h : false = true) : C := (Bool.false_ne_true h).elim
theorem nsm {α : Type} {a : α} {C : Prop} (h : none = some a) : C := nomatch h
theorem bn_some {α β : Type} {o : Option α} {f : α → Option β} {r : β} (h : o.bind f = some r) : ∃ a, o = some a ∧ f a = some r := Option.bind_eq_some_iff.mp h
theorem str_append (a b : List Nat) : (⟨a.toArray⟩ : Str) ++ ⟨b.toArray⟩ = ⟨(a ++ b).toArray⟩ := Str.ext' ((Str.cps_append _ _).trans (by exact List.append_toArray _ _))
theorem str_len (a : List Nat) : (⟨a.toArray⟩ : Str).length = a.length := List.size_toArray
theorem top_is : top = sizeLine := sizeLine_eq.symm
theorem top_val : top = 16777216 := rfl
theorem size_none (h : Heap) : h.get? h.objs.size = none := by
  cases q : h.get? h.objs.size with
  | none => rfl
  | some _ => exact absurd (Heap.lt_size q) (Nat.lt_irrefl _)
theorem lst_some {h : MH} {i : Nat} {vs : List V} (e : lst h i = some vs) : h[i]? = some (.list vs) :=
  let ⟨_, h1, h2⟩ := bn_some e
  h1.trans (congrArg some (listO_some h2))
theorem bare_nil (h : Heap) : Bare h [] := fun _ m => nomatch m
noncomputable def Gam.K (Γ : Gam) : Frag := Kf Γ.w.params
section
variable {Γ : Gam} {H H' : MH}
noncomputable def St.grow (S : St Γ H) (s' : Shared) (k : ∀ b o, S.s.heap.get? b = some o → s'.heap.get? b = some o) : St Γ H :=
  ⟨s', S.μ, S.hr.keeps (W := []) (fun b o e _ => k b o e) (bare_nil _) (fun _ m => nomatch m)⟩
theorem St.to_grow (S : St Γ H) {s' : Shared} (k : ∀ b o, S.s.heap.get? b = some o → s'.heap.get? b = some o) (hg : s'.gens = S.s.gens := by rfl) (hd : s'.drawn = S.s.drawn := by rfl) (ho : s'.os = S.s.os := by rfl) {X : List Addr} : To X S (S.grow s' k) :=
  ⟨⟨⟨[], (List.append_nil _).symm, fun _ m => nomatch m⟩, fun b o e _ => k b o e⟩, fun b o e => ⟨o, k b o e⟩, hg, hd, ho⟩
noncomputable abbrev St.toks (S : St Γ H) (n : Nat) : St Γ H := S.grow { S.s with toks := n } fun _ _ e => e
theorem St.to_toks (S : St Γ H) {n : Nat} {X : List Addr} : To X S (S.toks n) := S.to_grow _
noncomputable abbrev St.more (S : St Γ H) (o : Obj) : St Γ H := S.grow { S.s with heap := S.s.heap.push o } fun _ _ e => Heap.get?_push_of_some _ e
theorem St.to_more (S : St Γ H) {o : Obj} {X : List Addr} : To X S (S.more o) := S.to_grow _
noncomputable def St.put (S : St Γ H) (s' : Shared) (l : List Addr) {o : O} (k : ∀ b ob, S.s.heap.get? b = some ob → s'.heap.get? b = some ob) (hn : l.Nodup) (hl : ∀ a ∈ l, S.s.heap.get? a = none) (ho : ORel Γ s'.heap (S.μ ++ [l]) o l) : St Γ (H ++ [o]) :=
  ⟨s', S.μ ++ [l], S.hr.push (fun b ob e _ => k b ob e) hn hl ho⟩
theorem St.to_put (S : St Γ H) {s' : Shared} {l : List Addr} {o : O} {k : ∀ b ob, S.s.heap.get? b = some ob → s'.heap.get? b = some ob} {hn : l.Nodup} {hl : ∀ a ∈ l, S.s.heap.get? a = none} {ho : ORel Γ s'.heap (S.μ ++ [l]) o l} (hg : s'.gens = S.s.gens := by rfl) (hd : s'.drawn = S.s.drawn := by rfl) (hos : s'.os = S.s.os := by rfl) {X : List Addr} : To X S (S.put s' l k hn hl ho) :=
  ⟨⟨⟨_, rfl, fun a ha => hl a (by rwa [List.flatten_singleton] at ha)⟩, fun b o e _ => k b o e⟩, fun b o e => ⟨o, k b o e⟩, hg, hd, hos⟩
theorem St.put_loc (S : St Γ H) {a : Addr} {r : List Addr} : (S.μ ++ [a :: r])[H.length]? = some (a :: r) := by rw [← S.hr.len]; exact List.getElem?_concat_length
noncomputable abbrev listObj (xs : List Value) : Obj := { cls := .type "list", data := .seq xs.toArray }
noncomputable def St.alloc (S : St Γ H) {vs : List V} {xs : List Value} (e : S.rels vs xs) (hl : vs.length ≤ top) : St Γ (H ++ [.list vs]) :=
  S.put { S.s with heap := S.s.heap.push (listObj xs) } [S.s.heap.objs.size] (fun _ _ e => Heap.get?_push_of_some _ e) (List.nodup_cons.mpr ⟨nofun, List.nodup_nil⟩) (fun a ha => by rw [List.mem_singleton.mp ha]; exact size_none _)
      ⟨_, xs, 0, rfl, Heap.get?_push_size _ rfl, VRs.keeps (W := []) (fun _ _ e _ => Heap.get?_push_of_some _ e) (bare_nil _) e, hl⟩
theorem St.to_alloc (S : St Γ H) {vs : List V} {xs : List Value} (e : S.rels vs xs) (hl : vs.length ≤ top) {X : List Addr} : To X S (S.alloc e hl) := S.to_put
theorem St.alloc_v (S : St Γ H) {vs : List V} {xs : List Value} (e : S.rels vs xs) (hl : vs.length ≤ top) : (S.alloc e hl).rel (.loc H.length) (.ref S.s.heap.objs.size) := ⟨_, [], S.put_loc, rfl⟩
theorem St.list (S : St Γ H) {i : Nat} {vs : List V} {a : Addr} {r : List Addr} (h : lst H i = some vs) (e1 : S.μ[i]? = some (a :: r)) : ∃ xs n, r = [] ∧ IsL S.s.heap a xs.toArray n ∧ S.rels vs xs ∧ vs.length ≤ top := by
  obtain ⟨l1, f1, _, xs, n, rfl, q⟩ := S.hr.at (lst_some h)
  rw [e1] at f1; cases f1
  exact ⟨xs, n, rfl, q⟩
noncomputable def Gp {α : Type} (o : Option α) (P : α → Prop) : Prop := match o with
  | none => False
  | some a => P a
theorem bindE {α β : Type} {o : Option α} {f : α → Option β} {P : β → Prop} {C : Prop} (h : Gp (o.bind f) P) (k : ∀ a, o = some a → Gp (f a) P → C) : C := by
  cases o with
  | none => exact h.elim
  | some a => exact k a rfl h
theorem mapE {α β : Type} {o : Option α} {f : α → β} {P : β → Prop} {C : Prop} (h : Gp (o.map f) P) (k : ∀ a, o = some a → P (f a) → C) : C := by
  cases o with
  | none => exact h.elim
  | some a => exact k a rfl h
theorem ifE {α : Type} {p : Prop} [Decidable p] {r : Option α} {P : α → Prop} {C : Prop} (h : Gp (if p then r else none) P) (k : p → Gp r P → C) : C := by
  by_cases hp : p
  · exact k hp (by rwa [if_pos hp] at h)
  · rw [if_neg hp] at h; exact h.elim
theorem gp_map {α β : Type} {o : Option α} {f : α → β} {P : β → Prop} (h : Gp (o.map f) P) : Gp o fun a => P (f a) := mapE h fun _ e h => e ▸ h
theorem gp_bind {α β : Type} {o : Option α} {f : α → Option β} {P : β → Prop} (h : Gp (o.bind f) P) : Gp o fun a => Gp (f a) P := bindE h fun _ e h => e ▸ h
theorem gp_then {α β : Type} {m : R α} {f : α → MH → R β} {P : β × MH → Prop} (h : Gp (andThen m f) P) : Gp m fun p => Gp (f p.1 p.2) P := by
  cases m with
  | none => exact h
  | some _ => exact h
theorem Gp.mono {α : Type} {o : Option α} {P P' : α → Prop} (h : Gp o P) (k : ∀ a, P a → P' a) : Gp o P' := by
  cases o with
  | none => exact h
  | some a => exact k a h
structure Kn (Γ : Gam) (α : Type) where
  P : {H : MH} → St Γ H → α → Prop
  up : ∀ {H H1 : MH} {S : St Γ H} {S1 : St Γ H1} {a : α}, To [] S S1 → P S a → P S1 a
noncomputable abbrev Gd {α : Type} (K : Kn Γ α) (S : St Γ H) (r : Option α) : Prop := Gp r (K.P S)
theorem Gd.up {α : Type} {K : Kn Γ α} {S : St Γ H} {H1 : MH} {S1 : St Γ H1} {r : Option α} (h : Gd K S r) (t : To [] S S1) : Gd K S1 r := h.mono fun _ => K.up t
noncomputable def kV (Q : Value → Shared → Prop) : Kn Γ (V × MH) := ⟨fun S p => ∀ (S' : St Γ p.2) (y : Value), To [] S S' → S'.rel p.1 y → Q y S'.s, fun t h S' y p r => h S' y (t.trans p) r⟩
noncomputable def kL (Q : List Value → Shared → Prop) : Kn Γ (List V × MH) := ⟨fun S p => ∀ (S' : St Γ p.2) (y : List Value), To [] S S' → S'.rels p.1 y → Q y S'.s, fun t h S' y p r => h S' y (t.trans p) r⟩
noncomputable def kB (Q : Bool → Shared → Prop) : Kn Γ (V × MH) := ⟨fun S p => ∃ b, asB p.1 = some b ∧ ∀ S' : St Γ p.2, To [] S S' → Q b S'.s, fun t h => let ⟨b, e, h⟩ := h; ⟨b, e, fun S' p => h S' (t.trans p)⟩⟩
noncomputable def kO (Q : Bool → Shared → Prop) : Kn Γ (Bool × MH) := ⟨fun S p => ∀ S' : St Γ p.2, To [] S S' → Q p.1 S'.s, fun t h S' p => h S' (t.trans p)⟩
variable {S : St Γ H} {Q : Value → Shared → Prop}
theorem kV_int {i : Int} {t : Tok} {n : Nat} (h : (kV Q).P S (.int i, H)) : Q (.int i t) { S.s with toks := n } := h (S.toks _) _ S.to_toks ⟨_, rfl⟩
theorem kV_str {s : List Nat} {tk t : Tok} (hl : s.length ≤ top) (h : (kV Q).P S (.str s, H)) : Q (.str ⟨s.toArray⟩ t) { S.s with toks := tk } := h (S.toks _) _ S.to_toks ⟨hl, t, rfl⟩
theorem kV_list {vs : List V} {xs : List Value} (e : S.rels vs xs) (hl : vs.length ≤ top) (h : Gd (kV Q) S (Mine.alloc (.list vs) H)) : Q (.ref S.s.heap.objs.size) { S.s with heap := S.s.heap.push (listObj xs) } :=
  h (S.alloc e hl) _ (S.to_alloc e hl) (S.alloc_v e hl)
theorem kV_here {v : V} {y : Value} (h : (kV Q).P S (v, H)) (r : S.rel v y) : Q y S.s := h S y (.refl S) r
section
variable {α β : Type} {P : β → Prop} {C : Value → Prop} {v : V} {x : Value}
@[elab_as_elim] theorem intE {f : Int → Option β} (r : S.rel v x) (h : Gp ((asI v).bind f) P) (k : ∀ i t, Gp (f i) P → C (.int i t)) : C x := bindE h fun i e h => by cases asI_some e; obtain ⟨t, rfl⟩ := r; exact k i t h
@[elab_as_elim] theorem intM {f : Int → β} (r : S.rel v x) (h : Gp ((asI v).map f) P) (k : ∀ i t, P (f i) → C (.int i t)) : C x := mapE h fun i e h => by cases asI_some e; obtain ⟨t, rfl⟩ := r; exact k i t h
@[elab_as_elim] theorem strE {f : List Nat → Option β} (r : S.rel v x) (h : Gp ((asS v).bind f) P) (k : ∀ i t, i.length ≤ top → Gp (f i) P → C (.str ⟨i.toArray⟩ t)) : C x := bindE h fun i e h => by cases asS_some e; obtain ⟨l, t, rfl⟩ := r; exact k i t l h
@[elab_as_elim] theorem strM {f : List Nat → β} (r : S.rel v x) (h : Gp ((asS v).map f) P) (k : ∀ i t, i.length ≤ top → P (f i) → C (.str ⟨i.toArray⟩ t)) : C x := mapE h fun i e h => by cases asS_some e; obtain ⟨l, t, rfl⟩ := r; exact k i t l h
@[elab_as_elim] theorem bolE {f : Bool → Option β} (r : S.rel v x) (h : Gp ((asB v).bind f) P) (k : ∀ b, Gp (f b) P → C (.bool b)) : C x := bindE h fun i e h => by cases asB_some e; cases r; exact k i h
@[elab_as_elim] theorem bolM {f : Bool → β} (r : S.rel v x) (h : Gp ((asB v).map f) P) (k : ∀ b, P (f b) → C (.bool b)) : C x := mapE h fun i e h => by cases asB_some e; cases r; exact k i h
@[elab_as_elim] theorem locE {f : Nat → Option β} (r : S.rel v x) (h : Gp ((asL v).bind f) P) (k : ∀ i a q, v = .loc i → S.μ[i]? = some (a :: q) → Gp (f i) P → C (.ref a)) : C x := bindE h fun i e h => by have e := asL_some e; rw [e] at r; obtain ⟨a, q, m, rfl⟩ := r; exact k i a q e m h
@[elab_as_elim] theorem tupE {f : List V → Option β} (r : S.rel v x) (h : Gp ((asT v).bind f) P) (k : ∀ vs a xs, v = .tup vs → S.s.heap.IsTuple a xs.toArray → S.rels vs xs → Gp (f vs) P → C (.ref a)) : C x := bindE h fun i e h => by have e := asT_some e; rw [e] at r; obtain ⟨a, xs, rfl, q⟩ := r; exact k i a xs e q.1 q.2 h
theorem listE {i : Nat} {a : Addr} {q : List Addr} {C : Prop} {f : List V → Option β} (m : S.μ[i]? = some (a :: q)) (h : Gp ((lst H i).bind f) P) (k : ∀ vs xs n, lst H i = some vs → q = [] → IsL S.s.heap a xs.toArray n → S.rels vs xs → xs.length = vs.length → vs.length ≤ top → Gp (f vs) P → C) : C :=
  bindE h fun vs e h => let ⟨xs, n, p1, p2, p3, p4⟩ := S.list e m; k vs xs n e p1 p2 p3 p3.length p4 h
theorem listM {i : Nat} {a : Addr} {q : List Addr} {C : Prop} {f : List V → β} (m : S.μ[i]? = some (a :: q)) (h : Gp ((lst H i).map f) P) (k : ∀ vs xs n, lst H i = some vs → q = [] → IsL S.s.heap a xs.toArray n → S.rels vs xs → xs.length = vs.length → vs.length ≤ top → P (f vs) → C) : C :=
  mapE h fun vs e h => let ⟨xs, n, p1, p2, p3, p4⟩ := S.list e m; k vs xs n e p1 p2 p3 p3.length p4 h
@[elab_as_elim] theorem oneE {C : List Value → Prop} {f : V → Option β} {args : List V} {xs : List Value} (r : S.rels args xs) (h : Gp ((one args).bind f) P) (k : ∀ v x, args = [v] → S.rel v x → Gp (f v) P → C [x]) : C xs := bindE h fun v e h => by
  have e := one_some e; rw [e] at r
  obtain ⟨x, ys, rfl, r1, r2⟩ := r
  cases r2; exact k v x e r1 h
@[elab_as_elim] theorem twoE {C : List Value → Prop} {f : V × V → Option β} {args : List V} {xs : List Value} (r : S.rels args xs) (h : Gp ((two args).bind f) P) (k : ∀ v w x y, S.rel v x → S.rel w y → Gp (f (v, w)) P → C [x, y]) : C xs := bindE h fun p e h => by
  cases args with
  | nil => cases e
  | cons v q =>
    obtain ⟨x, ys, rfl, r1, r2⟩ := r
    cases e1 : one q with
    | none => rw [two, e1] at e; cases e
    | some w =>
      rw [two, e1] at e; cases e
      rw [one_some e1] at r2
      obtain ⟨y, zs, rfl, r3, r4⟩ := r2
      cases r4; exact k v w x y r1 r3 h
end
end
structure Room (n : Nat) (A : Around) : Prop where
  handled : A.handled = none
  depth : A.depth + 3 * n + 4 < recursionLimit
  units : A.units + 10 * n + 110 < cLine
theorem Room.deeper {n : Nat} {A : Around} {env : PySem.Env} (x : Room (n + 1) A) : Room n (A.deeper env) := ⟨x.handled, by have := x.depth; show A.depth + 1 + _ + 4 < _; lia, by have := x.units; show A.units + 3 + _ + 110 < _; lia⟩
theorem Room.make {n : Nat} {A : Around} {C : Addr} {vals : List Value} {kw : List (Str × Value)} (x : Room (n + 1) A) : Room n (A.under (.builtin "type.__call__" ⟨.ref C :: vals, kw⟩)) :=
  ⟨x.handled, by have := x.depth; show A.depth + 1 + 3 * n + 4 < _; lia, by have := x.units; show A.units + 1 + 10 * n + 110 < _; lia⟩
section
variable (Γ : Gam)
noncomputable def CallOK (n : Nat) (f : Nat) (args : List V) (H : MH) (r : R V) : Prop :=
  ∀ (A : Around) (S : St Γ H) (xs : List Value) (R : Result → Shared → Prop), Room n A → S.rels args xs → Gd (kV fun y => R (.ok (.ret y))) S r → codeAny Γ.M A (.call (.ref f) ⟨xs, []⟩) R S.s
noncomputable def KeepOK (f : Nat) : Prop := ∀ h : Heap, (∀ b o, Γ.h₀.get? b = some o → h.get? b = some o) → ∃ k, (k = Keeper.frame ∨ k = Keeper.machine ∨ k = Keeper.boundFrame) ∧ Looks Γ.M h (keeperOf (.ref f)) k
noncomputable def CSound (n : Nat) (C : Ctx) : Prop := ∀ f args H, CallOK Γ n f args H (C.call f args H) ∧ ∀ p, C.call f args H = some p → KeepOK Γ f
noncomputable def DRel (h : Heap) (μ : Mu) (es : List (List Nat × V)) (f : Str → Option Value) : Prop := ∀ k : Str, match inDict k.cps.toList es with
  | some v => ∃ x, f k = some x ∧ VR h μ v x
  | none => f k = none
structure Tabs (C : Ctx) : Prop where
  X : Γ.K.In Γ.h₀
  sys : ∃ o, Γ.h₀.get? sysModules = some o
  clist : ∀ a vs, C.clist a = some vs → vs.length ≤ top ∧ ∃ xs, Γ.h₀.IsList a xs.toArray ∧ VRs Γ.h₀ [] vs xs
  cdict : ∀ d es, C.cdict d = some es → (d == sysModules) = false ∧ ∃ f, Γ.h₀.MapOf (PySem.strKind Γ.prog Γ.w) d f ∧ DRel Γ.h₀ [] es f
  attr : ∀ c a, C.attrOk c a = true → plainGet Γ.K c (nm a) = true ∧ hasDictIn Γ.K c = true ∧ (∃ at_, findIn Γ.K (.ref c) (nm a) = some at_ ∧ noGet Γ.K at_ = true) ∧
      findIn Γ.K (.ref c) "__setattr__" = some (some (.builtin "object.__setattr__")) ∧ plainOver Γ.K c = true ∧ takerIn Γ.K c (nm a) = some none
  meth : ∀ c m f, C.meth c m = some f → plainGet Γ.K c (nm m) = true ∧ findIn Γ.K (.ref c) (nm m) = some (some (.ref f)) ∧ isFn Γ.K (.ref f) = true
end
theorem look_mem {α : Type} : ∀ {l : List (Nat × α)} {k : Nat} {a : α}, look l k = some a → (k, a) ∈ l
  | [], _, _, h => by cases h
  | (p, b) :: r, k, a, h => by
    unfold look at h
    split at h
    · rename_i q; cases h; simp only [] at q; subst q; exact .head _
    · exact .tail _ (look_mem h)
noncomputable def gOf (x : Str) : Option V := if okName x then look gTab (codeOf x) else none
noncomputable def GlobOK (h₀ : Heap) : Prop := ∃ mg mb, h₀.Ns mainGlobals mg ∧ h₀.Ns builtinsNs mb ∧ ∀ x v, gOf x = some v → ∃ X, VR h₀ [] v X ∧ (mg x = some X ∨ (mg x = none ∧ mb x = some X))
structure Cx where
  Γ : Gam
  C : Ctx
  n : Nat
  A : Around
  room : Room n A
  tabs : Tabs Γ C
  glob : GlobOK Γ.h₀
  csound : CSound Γ n C
noncomputable abbrev wp {α : Type} (I : Cx) (t : Sem α) (Q : α → Shared → Prop) (E : Value → Shared → Prop) (s : Shared) : Prop := wpAny (model I.Γ.prog I.Γ.w) I.A t Q E s
section
variable {Γ : Gam} {H : MH} {C : Ctx} (S : St Γ H)
theorem St.v0 {v : V} {y : Value} (e : VR Γ.h₀ [] v y) : S.rel v y := VR.keeps (ν := S.μ) (fun b o e _ => S.hr.base b o e) (bare_nil _) e
theorem St.vs0 {v : List V} {y : List Value} (e : VRs Γ.h₀ [] v y) : S.rels v y := VRs.keeps (ν := S.μ) (fun b o e _ => S.hr.base b o e) (bare_nil _) e
theorem DRel.map {h h' : Heap} {μ μ' : Mu} {es : List (List Nat × V)} {f : Str → Option Value} (x : DRel h μ es f) (k : ∀ v y, VR h μ v y → VR h' μ' v y) : DRel h' μ' es f := fun key => by
  have := x key
  cases hi : inDict key.cps.toList es with
  | none => rw [hi] at this; exact this
  | some v => rw [hi] at this; exact let ⟨y, e1, e2⟩ := this; ⟨y, e1, k _ _ e2⟩
theorem St.clist (T : Tabs Γ C) {a : Addr} {vs : List V} (e : C.clist a = some vs) : vs.length ≤ top ∧ ∃ xs, S.s.heap.IsList a xs.toArray ∧ S.rels vs xs :=
  let ⟨h1, xs, ⟨o, ho, r⟩, h3⟩ := T.clist a vs e
  ⟨h1, xs, ⟨o, S.hr.base _ _ ho, r⟩, S.vs0 h3⟩
theorem St.cdict (T : Tabs Γ C) {d : Addr} {es : List (List Nat × V)} (e : C.cdict d = some es) : (d == sysModules) = false ∧ ∃ f, S.s.heap.MapOf (PySem.strKind Γ.prog Γ.w) d f ∧ DRel S.s.heap S.μ es f :=
  let ⟨h1, f, ⟨o, es', ep, ho, r⟩, h3⟩ := T.cdict d es e
  ⟨h1, f, ⟨o, es', ep, S.hr.base _ _ ho, r⟩, h3.map fun _ _ => S.v0⟩
variable {S}
theorem mem_mu {i : Nat} {a : Addr} {r : List Addr} (e : S.μ[i]? = some (a :: r)) : a ∈ S.μ.flatten := List.mem_flatten.mpr ⟨_, List.mem_of_getElem? e, .head _⟩
theorem not_sys (T : Tabs Γ C) {d : Addr} (hd : d ∈ S.μ.flatten) : (d == sysModules) = false := by
  obtain ⟨o, ho⟩ := T.sys
  cases q : d == sysModules with
  | false => rfl
  | true => have := S.hr.fresh d hd; rw [beq_iff_eq.mp q, ho] at this; cases this
theorem dct_is (T : Tabs Γ C) {v : V} {x : Value} {es : List (List Nat × V)} (r : S.rel v x) (e : dct C v H = some es) : ∃ d f, x = .ref d ∧ (d == sysModules) = false ∧ S.s.heap.MapOf (PySem.strKind Γ.prog Γ.w) d f ∧ DRel S.s.heap S.μ es f := by
  cases v with
  | ref d => cases r; obtain ⟨h1, f, h2⟩ := S.cdict T e; exact ⟨d, f, rfl, h1, h2⟩
  | loc i =>
    obtain ⟨a, q, m, rfl⟩ := r
    obtain ⟨o, h1, h2⟩ := bn_some e
    rw [dictO_some h2] at h1
    obtain ⟨l, f1, d', f, rfl, h3⟩ := S.hr.at h1
    rw [m] at f1; cases f1
    exact ⟨_, f, rfl, not_sys T (mem_mu m), h3⟩
  | _ => cases e
end
end Mine
set_option maxRecDepth 100000
set_option autoImplicit false
namespace Mine
open PySem PySem.W PyProof.Rows PySem.Calls PySem.SeqAt
section
variable {I : Cx} {E : Value → Shared → Prop} {H : MH} {S : St I.Γ H} {Q : Value → Shared → Prop} {a b : V} {xa xb : Value}
theorem small_bd {i : Int} (h : small i = true) : -1000000000 < i ∧ i < 1000000000 := let h := Bool.and_eq_true_iff.mp h; ⟨of_decide_eq_true h.1, of_decide_eq_true h.2⟩
theorem add_list {i : Nat} {a : Addr} {q : List Addr} (m : S.μ[i]? = some (a :: q)) (rb : S.rel b xb) (h : Gd (kV Q) S ((lst H i).bind fun xs => (asL b).bind fun j => (lst H j).bind fun ys => if xs.length + ys.length ≤ top then Mine.alloc (.list (xs ++ ys)) H else none)) : wp I (binaryOp .Add (.ref a) xb) Q E S.s :=
  listE m h fun xs vs n _ _ ho g1 l1 _ h => locE rb h fun _ d _ _ m2 h => listE m2 h fun ys ws k _ _ ho2 g2 l2 _ h => ifE h fun hl h => by
    refine concat_meets ⟨_, ho, rfl⟩ ⟨_, ho2, rfl⟩ noFill_list_add seq_list_add PySem.F.slot_list_add PySem.F.entry_list_add (PySem.F.args_list_add_2 _ _)
      (list_addW a d vs.toArray ws.toArray n k none none #[] #[] (by rw [← top_is, List.size_toArray, List.size_toArray, l1, l2]; exact hl)) ⟨ho, ho2, ?_⟩
    rw [show vs.toArray ++ ws.toArray = (vs ++ ws).toArray from List.append_toArray ..]
    exact kV_list (g1.append g2) (by rw [List.length_append]; exact hl) h
theorem add_snd (ra : S.rel a xa) (rb : S.rel b xb) (h : Gd (kV Q) S (binop .add a b H)) : wp I (binaryOp .Add xa xb) Q E S.s := by
  cases a with
  | int i => obtain ⟨t, rfl⟩ := ra; exact intM rb h fun j u h => add_int (kV_int h)
  | str x => obtain ⟨_, t, rfl⟩ := ra; exact strE rb h fun y u _ h => ifE h fun hl h => add_str (fun t' tk => by rw [str_append]; exact kV_str (by rw [List.length_append]; exact hl) h) (by rw [str_len, str_len, ← top_is]; exact hl)
  | loc i => obtain ⟨c, q, m, rfl⟩ := ra; exact add_list m rb h
  | _ => exact h.elim
theorem mul_list {i : Nat} {a : Addr} {q : List Addr} (m : S.μ[i]? = some (a :: q)) (rb : S.rel b xb) (h : Gd (kV Q) S ((lst H i).bind fun xs => (one xs).bind fun x => (asI b).bind fun k => if small k && decide (k ≤ 1000) then Mine.alloc (.list (List.replicate k.toNat x)) H else none)) : wp I (binaryOp .Mult (.ref a) xb) Q E S.s :=
  listE m h fun xs vs n _ _ ho g1 l1 _ h => oneE (C := fun vs => IsL S.s.heap a vs.toArray n → _) g1 h (fun x z _ hz h ho => intE rb h fun k u h => ifE h fun hs h => by
    have hs := Bool.and_eq_true_iff.mp hs
    have h1 := small_bd hs.1
    have h2 := of_decide_eq_true hs.2
    refine wpAny_binaryOp_repeat_ref (T := "list") (U := "int") (by decide) ⟨_, ho, rfl⟩ (fun s' => typeIs_int s' k u) noFill_list_mul PySem.F.fills_int_mul PySem.F.slot_int_rmul repeat_list PySem.F.slot_int_index.lookup
      (call_meets PySem.F.slot_int_rmul (typeIs_int S.s k u) PySem.F.entry_int_rmul (PySem.F.args_int_rmul_2 _ _) (lm_int_rmul_list_any k u a [z].toArray n none #[])
        ⟨ho, rfl, ⟨_, ho, rfl⟩, call_meets PySem.F.slot_list_mul ⟨_, ho, rfl⟩ PySem.F.entry_list_mul (PySem.F.args_list_mul_2 _ _)
          (lm_list_mul_any a [z].toArray n none #[] k u (by simp [Builtin.List.listFitsIndex]; lia) (by simp; lia) (by simp [Builtin.List.listTooLong, sizeLine]; lia)) ⟨ho, ?_⟩⟩)
    rw [listMul_foldl_if, show (List.replicate k.toNat (#[z] : Array Value).toList).flatten = List.replicate k.toNat z from List.flatten_replicate_singleton]
    exact kV_list (VRs.replicate hz k.toNat) (by rw [List.length_replicate, top_val]; lia) h) ho
theorem mul_snd (ra : S.rel a xa) (rb : S.rel b xb) (h : Gd (kV Q) S (binop .mul a b H)) : wp I (binaryOp .Mult xa xb) Q E S.s := by
  cases a with
  | int i => obtain ⟨t, rfl⟩ := ra; exact intE rb h fun j u h => ifE h fun hs h =>
      have h1 := small_bd (Bool.and_eq_true_iff.mp hs).1
      mul_int (kV_int h) (IntMulOk.of_left (intBits_le_64 (by lia) (by lia)))
  | loc i => obtain ⟨c, q, m, rfl⟩ := ra; exact mul_list m rb h
  | _ => exact h.elim
theorem binop_snd {op : BOp} (ra : S.rel a xa) (rb : S.rel b xb) (h : Gd (kV Q) S (binop op a b H)) : wp I (binaryOp (opOf op) xa xb) Q E S.s := by
  cases op with
  | add => exact add_snd ra rb h
  | sub => exact intE ra h fun i t h => intM rb h fun j u h => sub_int (kV_int h)
  | mul => exact mul_snd ra rb h
  | fdiv => exact intE ra h fun i t h => intE rb h fun j u h => ifE h fun hl h =>
      have h1 := Bool.and_eq_true_iff.mp hl
      have h2 := small_bd h1.2
      have h3 := of_decide_eq_true h1.1
      floordiv_int (by lia) (kV_int h) (.inl (PyProof.noPylong_small (by omega)))
  | mod => exact intE ra h fun i t h => intE rb h fun j u h => ifE h fun hl h => mod_int (by lia) (kV_int h)
theorem augop_snd {op : BOp} (ra : S.rel a xa) (rb : S.rel b xb) (h : Gd (kV Q) S (augop op a b H)) : wp I (inplaceOp (opOf op) xa xb) Q E S.s := by
  cases op with
  | add =>
    cases a with
    | int i => obtain ⟨t, rfl⟩ := ra; exact intM rb h fun j u h => wpAny_iadd_int (kV_int h)
    | str x => obtain ⟨_, t, rfl⟩ := ra; exact strE rb h fun y u _ h => ifE h fun hl h => PyProof.Rows.iadd_str (fun t' tk => by rw [str_append]; exact kV_str (by rw [List.length_append]; exact hl) h) (by rw [str_len, str_len, ← top_is]; exact hl)
    | _ => exact h.elim
  | sub => exact intE ra h fun i t h => intM rb h fun j u h => isub_int (kV_int h)
  | _ => exact h.elim
end
mutual
noncomputable def pd : V → PyData
  | .none => .none
  | .int i => .int i
  | .str s => .str ⟨s.toArray⟩
  | .tup vs => .tuple (pds vs)
  | .bool _ => .none
  | .loc _ => .none
  | .ref _ => .none
  | .bi _ => .none
  | .rng _ => .none
noncomputable def pds : List V → List PyData
  | [] => []
  | v :: r => pd v :: pds r
end
@[elab_as_elim] theorem scalE {C : V → Prop} {v : V} (h : scal v = true) (h1 : C .none) (h2 : ∀ i, C (.int i)) (h3 : ∀ s, s.all (· < 1114112) = true → C (.str s)) : C v := by
  cases v with
  | none => exact h1
  | int i => exact h2 i
  | str s => exact h3 s h
  | _ => cases h
@[elab_as_elim] theorem flatE {C : V → Prop} {v : V} (h : flat1 v = true) (h1 : scal v = true → C v) (h2 : ∀ vs, vs.all scal = true → C (.tup vs)) : C v := by
  cases v with
  | none => exact h1 h
  | int i => exact h1 h
  | str s => exact h1 h
  | tup vs => exact h2 vs h
  | _ => cases h
noncomputable def DatOK (k : Nat) (v : V) : Prop := ((pd v).canLay0 = true ∧ (pd v).depth ≤ k) ∧ ∀ h μ y, VR h μ v y → ∃ as, Reads h y (pd v) as
noncomputable def DatsOK (k : Nat) (vs : List V) : Prop := (PyData.canLayAll0 (pds vs) = true ∧ PyData.depthAll (pds vs) ≤ k) ∧ ∀ h μ y, VRs h μ vs y → ∃ as, ReadsAll h y (pds vs) as
theorem dats_ok {k : Nat} {p : V → Bool} (hp : ∀ v, p v = true → DatOK k v) : ∀ {vs : List V}, vs.all p = true → DatsOK k vs
  | [], _ => ⟨⟨rfl, Nat.zero_le _⟩, fun _ _ _ r => by cases r; exact ⟨_, ReadsAll.nil⟩⟩
  | v :: vs, f => by
    have f := Bool.and_eq_true_iff.mp f
    have h1 := hp v f.1
    have h2 := dats_ok hp f.2
    refine ⟨⟨Bool.and_eq_true_iff.mpr ⟨h1.1.1, h2.1.1⟩, Nat.max_le.mpr ⟨h1.1.2, h2.1.2⟩⟩, fun h μ ys r => ?_⟩
    obtain ⟨y, ys, rfl, r1, r2⟩ := r
    obtain ⟨as, q⟩ := h1.2 h μ y r1
    obtain ⟨bs, p⟩ := h2.2 h μ ys r2
    exact ⟨_, ReadsAll.cons q p⟩
theorem dat_scal (v : V) (f : scal v = true) : DatOK 0 v := scalE f ⟨⟨rfl, Nat.le_refl _⟩, fun _ _ _ r => by cases r; exact ⟨_, Reads.none⟩⟩
  (fun i => ⟨⟨rfl, Nat.le_refl _⟩, fun _ _ _ r => by obtain ⟨t, rfl⟩ := r; exact ⟨_, Reads.int i t⟩⟩)
  fun s hs => ⟨⟨by simpa only [pd, PyData.canLay0, PyData.strOk, List.all_toArray] using hs, Nat.le_refl _⟩, fun _ _ _ r => by obtain ⟨_, t, rfl⟩ := r; exact ⟨_, Reads.str _ t⟩⟩
theorem dat_tup {vs : List V} (f : vs.all scal = true) : DatOK 1 (.tup vs) := by
  have h := dats_ok dat_scal f
  refine ⟨⟨h.1.1, Nat.succ_le_succ h.1.2⟩, fun h' μ y r => ?_⟩
  obtain ⟨a, xs, rfl, ⟨o, ho, hc, n, hd⟩, r2⟩ := r
  obtain ⟨as, q⟩ := h.2 h' μ xs r2
  exact ⟨_, reads_tuple_at ho hc hd q⟩
theorem dat_flat (v : V) (f : flat1 v = true) : DatOK 1 v := flatE (C := DatOK 1) f (fun f => let h := dat_scal v f; ⟨⟨h.1.1, Nat.le_succ_of_le h.1.2⟩, h.2⟩) fun _ f => dat_tup f
theorem str_eq_iff (a b : List Nat) : ((⟨a.toArray⟩ : Str) = ⟨b.toArray⟩) ↔ a = b := ⟨fun h => congrArg (fun s : Str => s.cps.toList) h, fun h => h ▸ rfl⟩
noncomputable def SameOK (u v : V) : Prop := (PySem.Spec.same (pd u) (pd v) = true ↔ u = v) ∧ noMix (pd u) (pd v) = true
theorem sames_ok {p : V → Bool} (hp : ∀ u v, p u = true → p v = true → SameOK u v) : ∀ {us vs : List V}, us.all p = true → vs.all p = true → (PySem.Spec.sameAll (pds us) (pds vs) = true ↔ us = vs) ∧ noMixAll (pds us) (pds vs) = true
  | [], [], _, _ => ⟨⟨fun _ => rfl, fun _ => rfl⟩, rfl⟩
  | [], _ :: _, _, _ => ⟨⟨nofun, nofun⟩, rfl⟩
  | _ :: _, [], _, _ => ⟨⟨nofun, nofun⟩, rfl⟩
  | u :: us, v :: vs, f, g => by
    have f := Bool.and_eq_true_iff.mp f
    have g := Bool.and_eq_true_iff.mp g
    have h1 := hp u v f.1 g.1
    have h2 := sames_ok hp f.2 g.2
    exact ⟨Bool.and_eq_true_iff.trans ((and_congr h1.1 h2.1).trans (List.cons.injEq .. ▸ Iff.rfl)), Bool.and_eq_true_iff.mpr ⟨h1.2, h2.2⟩⟩
theorem same_scal (u v : V) (f : scal u = true) (g : scal v = true) : SameOK u v :=
  scalE f (scalE g ⟨⟨fun _ => rfl, fun _ => rfl⟩, rfl⟩ (fun _ => ⟨⟨nofun, nofun⟩, rfl⟩) fun _ _ => ⟨⟨nofun, nofun⟩, rfl⟩)
    (fun i => scalE g ⟨⟨nofun, nofun⟩, rfl⟩ (fun j => ⟨⟨fun e => congrArg V.int (eq_of_beq e), fun e => beq_iff_eq.mpr (V.int.inj e)⟩, rfl⟩) fun _ _ => ⟨⟨nofun, nofun⟩, rfl⟩)
    fun s _ => scalE g ⟨⟨nofun, nofun⟩, rfl⟩ (fun _ => ⟨⟨nofun, nofun⟩, rfl⟩) fun t _ => ⟨⟨fun e => congrArg V.str ((str_eq_iff _ _).mp (eq_of_beq e)), fun e => beq_iff_eq.mpr ((str_eq_iff _ _).mpr (V.str.inj e))⟩, rfl⟩
theorem same_tup {us vs : List V} (f : us.all scal = true) (g : vs.all scal = true) : SameOK (.tup us) (.tup vs) :=
  let h := sames_ok same_scal f g
  ⟨h.1.trans ⟨congrArg V.tup, V.tup.inj⟩, h.2⟩
theorem same_flat (u v : V) (f : flat1 u = true) (g : flat1 v = true) : SameOK u v :=
  flatE (C := fun u => SameOK u v) f (fun f => flatE (C := SameOK u) g (fun g => same_scal u v f g) fun vs _ => scalE f ⟨⟨nofun, nofun⟩, rfl⟩ (fun _ => ⟨⟨nofun, nofun⟩, rfl⟩) fun _ _ => ⟨⟨nofun, nofun⟩, rfl⟩)
    fun us h => flatE (C := SameOK (.tup us)) g (fun g => scalE g ⟨⟨nofun, nofun⟩, rfl⟩ (fun _ => ⟨⟨nofun, nofun⟩, rfl⟩) fun _ _ => ⟨⟨nofun, nofun⟩, rfl⟩) fun vs g => same_tup h g
theorem shaped_of {d : PyData} (a : d.canLay0 = true) {k : Nat} (b : d.depth ≤ k) (hk : k ≤ 64) : PySem.SeqAt.shaped d = true := Bool.and_eq_true_iff.mpr ⟨a, decide_eq_true (Nat.le_trans b hk)⟩
theorem dec_of {p : Prop} [Decidable p] {b : Bool} (h : b = true ↔ p) : b = decide p := by
  cases b with
  | true => exact (decide_eq_true (h.mp rfl)).symm
  | false => exact (decide_eq_false fun q => nomatch h.mpr q).symm
end Mine
set_option maxRecDepth 100000
set_option autoImplicit false
namespace Mine
open PySem PySem.W PyProof.Rows PySem.Calls PySem.SeqAt
section
variable {I : Cx} {E : Value → Shared → Prop} {H : MH} {S : St I.Γ H} {Q : Value → Shared → Prop} {a b : V} {xa xb : Value}
theorem eq_data {d1 d2 : PyData} {as bs : List Addr} {neg r : Bool} (p1 : Reads S.s.heap xa d1 as) (p2 : Reads S.s.heap xb d2 bs) (s1 : PySem.SeqAt.shaped d1 = true) (s2 : PySem.SeqAt.shaped d2 = true) (m : noMix d1 d2 = true) (e : PySem.Spec.same d1 d2 = r)
    (h : Q (.bool (bif neg then !r else r)) S.s) : wp I (compareOp (bif neg then .NotEq else .Eq) xa xb) Q E S.s := by
  have hu : I.A.units + 64 < cLine := by have := I.room.units; lia
  subst e
  cases neg with
  | false => exact eq_dataH_same p1 p2 s1 s2 hu m h
  | true => exact ne_dataH_same p1 p2 s1 s2 hu m h
theorem eqV_snd {neg : Bool} (ra : S.rel a xa) (rb : S.rel b xb) (h : Gp (eqV a b H) fun r => Q (.bool (bif neg then !r else r)) S.s) : wp I (compareOp (bif neg then .NotEq else .Eq) xa xb) Q E S.s := by
  cases a with
  | loc i =>
    obtain ⟨c, q, m, rfl⟩ := ra
    refine locE rb h fun _ d _ _ m2 h => listE m h fun xs vs n _ _ ho g1 _ _ h => listE m2 h fun ys ws k _ _ ho2 g2 _ _ h => ifE h fun hf h => ?_
    have hf := Bool.and_eq_true_iff.mp hf
    have d1 := dats_ok dat_flat hf.1
    have d2 := dats_ok dat_flat hf.2
    obtain ⟨as, p1⟩ := d1.2 _ _ _ g1
    obtain ⟨bs, p2⟩ := d2.2 _ _ _ g2
    have hm := sames_ok same_flat hf.1 hf.2
    exact eq_data (d1 := .list (pds xs)) (d2 := .list (pds ys)) (Reads.list ho rfl rfl p1) (Reads.list ho2 rfl rfl p2) (shaped_of d1.1.1 (Nat.succ_le_succ d1.1.2) (by decide)) (shaped_of d2.1.1 (Nat.succ_le_succ d2.1.2) (by decide)) hm.2 (dec_of hm.1) h
  | tup xs =>
    refine bindE h fun ys e h => ifE h fun hf h => ?_
    have hf := Bool.and_eq_true_iff.mp hf
    rw [asT_some e] at rb
    have d1 := dat_tup hf.1
    have d2 := dat_tup hf.2
    obtain ⟨as, p1⟩ := d1.2 _ _ _ ra
    obtain ⟨bs, p2⟩ := d2.2 _ _ _ rb
    have hm := same_tup hf.1 hf.2
    exact eq_data p1 p2 (shaped_of d1.1.1 d1.1.2 (by decide)) (shaped_of d2.1.1 d2.1.2 (by decide)) hm.2 (dec_of (hm.1.trans ⟨V.tup.inj, congrArg V.tup⟩)) h
  | int i =>
    obtain ⟨t, rfl⟩ := ra
    refine intM rb h fun j u h => ?_
    cases neg with
    | false => exact eq_int h
    | true => exact ne_int h
  | str x =>
    obtain ⟨_, t, rfl⟩ := ra
    refine strM rb h fun y u _ h => ?_
    have m : ((⟨x.toArray⟩ : Str) == ⟨y.toArray⟩) = decide (x = y) := dec_of (beq_iff_eq.trans (str_eq_iff _ _))
    cases neg with
    | false => exact PyProof.Rows.eq_str (m ▸ h)
    | true => exact PyProof.Rows.ne_str (show Q (.bool (!((⟨x.toArray⟩ : Str) == ⟨y.toArray⟩))) S.s from m ▸ h)
  | bool x =>
    cases ra
    refine bolM rb h fun y h => ?_
    have m : (x == y) = decide (x = y) := dec_of beq_iff_eq
    cases neg with
    | false => exact eq_bool (m ▸ h)
    | true => exact ne_bool (show Q (.bool (!(x == y))) S.s from m ▸ h)
  | _ => exact h.elim
theorem inStrs_any (s : List Nat) (hs : s.all (· < 1114112) = true) : ∀ {vs : List V} {r : Bool}, inStrs s vs = some r → vs.all scal = true → (pds vs).any (fun y => PyData.eqv y (pd (.str s))) = r
  | [], r, e, _ => Option.some.inj e
  | v :: vs, r, e, hv => by
    have hv := Bool.and_eq_true_iff.mp hv
    obtain ⟨t, et, e⟩ := bn_some e
    have m := same_scal v (.str s) hv.1 hs
    show (PyData.eqv (pd v) (pd (.str s)) || (pds vs).any _) = r
    rw [← same_eq_eqv _ _ m.2, dec_of m.1]
    by_cases h : s = t
    · rw [if_pos h] at e; rw [asS_some et, h]; cases e; rw [decide_eq_true rfl]; rfl
    · rw [if_neg h] at e
      rw [inStrs_any s hs e hv.2, decide_eq_false fun q => h (V.str.inj ((asS_some et).symm.trans q)).symm]; rfl
theorem key_is {Γ : Gam} (p : List Nat) (t : Tok) : (PySem.strKind Γ.prog Γ.w).is ⟨p.toArray⟩ (.str ⟨p.toArray⟩ t) = true := strKind_is Γ.prog Γ.w _ t
theorem member_snd {neg : Bool} (ra : S.rel a xa) (rb : S.rel b xb) (h : Gp (member I.C a b H) fun r => ∀ tk, Q (.bool (bif neg then !r else r)) { S.s with toks := tk }) : wp I (compareOp (bif neg then .NotIn else .In) xa xb) Q E S.s := by
  refine strE ra h fun p t _ h => ?_
  have inD : Gp ((dct I.C b H).map fun es => (inDict p es).isSome) (fun r => ∀ tk, Q (.bool (bif neg then !r else r)) { S.s with toks := tk }) → wp I (compareOp (bif neg then .NotIn else .In) (.str ⟨p.toArray⟩ t) xb) Q E S.s := fun h => by
    refine mapE h fun es e h => ?_
    obtain ⟨d, f, rfl, h2, h3, h4⟩ := dct_is I.tabs rb e
    have key : (f ⟨p.toArray⟩).isSome = (inDict p es).isSome := by
      have h5 := h4 ⟨p.toArray⟩
      cases hi : inDict p es with
      | some v => rw [hi] at h5; obtain ⟨y, e1, _⟩ := h5; rw [e1]; rfl
      | none => rw [hi] at h5; exact congrArg _ h5
    rw [← key] at h
    cases neg with
    | false => exact wpAny_in_of (key_is p t) h2 h3 (h _)
    | true => exact wpAny_notIn_of (key_is p t) h2 h3 (h _)
  cases b with
  | str q =>
    obtain ⟨_, u, rfl⟩ := rb
    refine mapE h fun x e h => ?_
    rw [one_some e]
    have key : (!(Builtin.Str.occurrences ⟨q.toArray⟩ ⟨[x].toArray⟩ 0 (⟨q.toArray⟩ : Str).length 1).isEmpty) = q.contains x := by
      have := StrLaws.found_one ⟨q.toArray⟩ x
      exact this.trans (by simp)
    cases neg with
    | false => exact in_str (key ▸ h S.s.toks)
    | true => exact notIn_str (key ▸ h S.s.toks)
  | tup vs =>
    refine ifE h fun hf h => ?_
    have hf := Bool.and_eq_true_iff.mp hf
    have d1 := dats_ok dat_scal hf.2
    have d2 := dat_scal (.str p) hf.1
    obtain ⟨as, p1⟩ := (dat_tup hf.2).2 _ _ _ rb
    obtain ⟨bs, p2⟩ := d2.2 S.s.heap S.μ (.str ⟨p.toArray⟩ t) ⟨by assumption, t, rfl⟩
    have hu : I.A.units + 1 + min (PyData.depthAll (pds vs)) (pd (.str p)).depth < cLine := by have := I.room.units; have := d1.1.2; lia
    cases e : inStrs p vs with
    | none => rw [e] at h; exact h.elim
    | some r =>
      rw [e] at h
      have key := inStrs_any p hf.1 e hf.2
      cases neg with
      | false => exact in_tuple_reads p1 p2 d1.1.1 d2.1.1 hu (key ▸ h S.s.toks)
      | true => exact notIn_tuple_reads p1 p2 d1.1.1 d2.1.1 hu (key ▸ h S.s.toks)
  | none => exact inD h
  | bool _ => exact inD h
  | int _ => exact inD h
  | loc _ => exact inD h
  | ref _ => exact inD h
  | bi _ => exact inD h
  | rng _ => exact inD h
theorem rel_none {v : V} {y : Value} (r : S.rel v y) : (y == .none) = isNo v := by
  cases v with
  | none => cases r; rfl
  | bool b => cases r; rfl
  | int i => obtain ⟨t, rfl⟩ := r; rfl
  | str q => obtain ⟨_, t, rfl⟩ := r; rfl
  | tup vs => obtain ⟨_, _, rfl, _⟩ := r; rfl
  | loc i => obtain ⟨_, _, _, rfl⟩ := r; rfl
  | ref a => cases r; rfl
  | bi b => cases r; cases b <;> rfl
  | rng n => obtain ⟨_, _, _, _, rfl, _⟩ := r; rfl
theorem is_snd {P : Bool → Prop} (ra : S.rel a xa) (rb : S.rel b xb) (h : Gp (isSame a b) P) : xb = .none ∧ P (xa == .none) := ifE h fun e h => by
  rw [isNo_eq e] at rb
  exact ⟨rb, rel_none ra ▸ h⟩
theorem compare_snd {op : COp} (ra : S.rel a xa) (rb : S.rel b xb) (h : Gp (compare I.C op a b H) fun r => ∀ tk, Q (.bool r) { S.s with toks := tk }) : wp I (compareOp (copOf op) xa xb) Q E S.s := by
  cases op with
  | eq => exact eqV_snd (neg := false) ra rb (h.mono fun _ h => h S.s.toks)
  | ne => exact eqV_snd (neg := true) ra rb ((gp_map h).mono fun _ h => h S.s.toks)
  | in_ => exact member_snd (neg := false) ra rb h
  | notin => exact member_snd (neg := true) ra rb (gp_map h)
  | is => obtain ⟨rfl, h⟩ := is_snd ra rb h; exact is_none (h S.s.toks)
  | isnot => obtain ⟨rfl, h⟩ := is_snd ra rb (gp_map h); exact isNot_none (h S.s.toks)
  | lt => exact intE ra h fun i t h => intM rb h fun j u h => lt_int (h _)
  | le => exact intE ra h fun i t h => intM rb h fun j u h => le_int (h _)
  | gt => exact intE ra h fun i t h => intM rb h fun j u h => gt_int (h _)
  | ge => exact intE ra h fun i t h => intM rb h fun j u h => ge_int (h _)
end
end Mine
set_option maxRecDepth 100000
set_option autoImplicit false
namespace Mine
open PySem PySem.W PyProof.Rows PySem.Calls PySem.SeqAt
theorem int_key {k : Int} {n j : Nat} (h : (if 0 ≤ k && k < (n : Int) then some k.toNat else none) = some j) : 0 ≤ k ∧ k < n ∧ k.toNat = j := by
  cases hc : (0 ≤ k && k < (n : Int) : Bool) with
  | false => rw [hc] at h; exact nsm h
  | true =>
    rw [hc] at h
    have c := Bool.and_eq_true_iff.mp hc
    exact ⟨of_decide_eq_true c.1, of_decide_eq_true c.2, Option.some.inj h⟩
theorem key_neg {i : Int} {n j : Nat} (hi : i < 0) (h1 : 0 ≤ i + n) (h3 : (i + n).toNat = j) (h2 : i + n < n) : j < n ∧ -(n : Int) ≤ i ∧ i < n ∧ (0 ≤ i → j = i.toNat) ∧ (i < 0 → j = (i + n).toNat) :=
  ⟨by lia, by lia, Int.lt_of_lt_of_le hi (Int.natCast_nonneg n), fun h => absurd hi (Int.not_lt.mpr h), fun _ => h3.symm⟩
theorem key_pos {i : Int} {n j : Nat} (hi : ¬i < 0) (h2 : i < n) (h3 : i.toNat = j) : j < n ∧ -(n : Int) ≤ i ∧ i < n ∧ (0 ≤ i → j = i.toNat) ∧ (i < 0 → j = (i + n).toNat) :=
  ⟨by lia, by lia, h2, fun _ => h3.symm, fun h => absurd h hi⟩
theorem seqIndex_lt {i : Int} {n j : Nat} (h : seqIndex? i n = some j) : j < n ∧ -(n : Int) ≤ i ∧ i < n ∧ (0 ≤ i → j = i.toNat) ∧ (i < 0 → j = (i + n).toNat) := by
  have := int_key h
  by_cases hi : i < 0
  · rw [if_pos hi] at this; exact key_neg hi this.1 this.2.2 this.2.1
  · rw [if_neg hi] at this; exact key_pos hi this.2.1 this.2.2
section
variable {I : Cx} {E : Value → Shared → Prop} {H : MH} {S : St I.Γ H} {Q : Value → Shared → Prop}
noncomputable def ItemIs (I : Cx) (E : Value → Shared → Prop) (o i : Value) (Q : Value → Shared → Prop) (s : Shared) : Prop :=
  ∃ T id, typeLookup (.type T) "__getitem__" = pure (some (.builtin id)) ∧ s.TypeIs o T ∧ wp I (getItem o i) Q E s
theorem item_list {a : Addr} {vs : List V} {xs : List Value} {k : Int} {t : Tok} (hL : S.s.heap.IsList a xs.toArray) (rs : S.rels vs xs) (hlen : vs.length ≤ top) (h : Gp ((seqIndex? k vs.length).bind fun j => vs[j]?) fun v => ∀ tk y, S.rel v y → Q y { S.s with toks := tk }) : ItemIs I E (.ref a) (.int k t) Q S.s :=
  bindE h fun j hj h => by
    cases e : vs[j]? with
    | none => rw [e] at h; exact h.elim
    | some v =>
      rw [e] at h
      obtain ⟨y, hy, ry⟩ := rs.get e
      obtain ⟨q1, q2, q3, q4, q5⟩ := seqIndex_lt hj
      have hl : xs.toArray.size = vs.length := List.size_toArray.trans rs.length
      have hy' : xs.toArray[j]? = some y := List.getElem?_toArray.trans hy
      rw [top_val] at hlen
      refine ⟨"list", _, PySem.F.slot_list_getitem.lookup, hL.typeIs, ?_⟩
      by_cases hk : 0 ≤ k
      · exact wpAny_getItem_list (x := y) hL hk (by lia) (q4 hk ▸ hy') (h _ _ ry)
      · exact wpAny_getItem_list_neg (x := y) hL (by lia) (by lia) (by lia) (by rw [hl, ← q5 (by lia)]; exact hy') (h _ _ ry)
theorem subscript_snd {o i : V} {xo xi : Value} (ro : S.rel o xo) (ri : S.rel i xi) (h : Gp (subscript I.C o i H) fun v => ∀ tk y, S.rel v y → Q y { S.s with toks := tk }) : ItemIs I E xo xi Q S.s := by
  cases i with
  | int k =>
    obtain ⟨u, rfl⟩ := ri
    cases o with
    | tup vs =>
      obtain ⟨a, xs, rfl, ht, rs⟩ := ro
      refine ifE h fun hlen h => bindE h fun j hj h => ?_
      cases e : vs[j]? with
      | none => rw [e] at h; exact h.elim
      | some v =>
        rw [e] at h
        obtain ⟨y, hy, ry⟩ := rs.get e
        obtain ⟨q1, q2, q3, _⟩ := seqIndex_lt hj
        have hl : xs.toArray.size = vs.length := List.size_toArray.trans rs.length
        rw [top_val] at hlen
        exact ⟨"tuple", _, PySem.F.slot_tuple_getitem.lookup, let ⟨ob, h1, h2, _⟩ := ht; ⟨ob, h1, h2⟩, getItem_tuple (x := y) ht (by lia) (by lia) (hl ▸ hj) (List.getElem?_toArray.trans hy) (h _ _ ry)⟩
    | str p =>
      obtain ⟨hp, t, rfl⟩ := ro
      refine bindE h fun j hj h => mapE h fun c hc h => ?_
      obtain ⟨q1, q2, q3, _⟩ := seqIndex_lt hj
      rw [top_val] at hp
      refine ⟨"str", _, PySem.F.slot_str_getitem.lookup, typeIs_str S.s _ t, getItem_str (c := c) ?_ ?_ (h _ _ ⟨(by decide : 1 ≤ top), _, rfl⟩)⟩
      · rw [decide_eq_false (by lia), decide_eq_false (by lia)]; rfl
      · rw [str_len, hj]; exact List.getElem?_toArray.trans hc
    | loc l =>
      obtain ⟨a, q, m, rfl⟩ := ro
      exact listE m h fun vs xs n _ _ ho rs _ hl h => item_list ho.isList rs hl h
    | ref d =>
      cases ro
      exact bindE h fun vs e h => by
        obtain ⟨hl, xs, hL, rs⟩ := S.clist I.tabs e
        exact item_list hL rs hl h
    | _ => exact h.elim
  | str p =>
    obtain ⟨_, t, rfl⟩ := ri
    refine bindE h fun es e h => ?_
    obtain ⟨d, f, rfl, h2, h3, h4⟩ := dct_is I.tabs ro e
    have h5 := h4 ⟨p.toArray⟩
    cases hi : inDict p es with
    | none => rw [hi] at h; exact h.elim
    | some v =>
      rw [hi] at h h5
      obtain ⟨y, e2, ry⟩ := h5
      exact ⟨"dict", _, PySem.F.slot_dict_getitem.lookup, h3.typeIs, wpAny_getItem_of (key_is p t) h3 e2 (h _ _ ry)⟩
  | _ => exact h.elim
@[elab_as_elim] theorem partE {β : Type} {f : Option Int → Option β} {P : β → Prop} {C : Value → Prop} {v : V} {x : Value} (r : S.rel v x) (h : Gp ((asPart v).bind f) P) (k : ∀ q : Option (Int × Tok), Gp (f (q.map (·.1))) P → C (partValue q)) : C x := by
  unfold asPart at h
  cases hn : isNo v with
  | true => rw [hn] at h; rw [isNo_eq hn] at r; cases r; exact k none h
  | false =>
    rw [hn] at h
    refine bindE h fun p e h => ?_
    · cases hi : asI v with
      | none => rw [hi] at e; cases e
      | some i => rw [hi] at e; cases e; rw [asI_some hi] at r; obtain ⟨t, rfl⟩ := r; exact k (some (i, t)) h
theorem isPart_of : ∀ q : Option (Int × Tok), IsPart (partValue q) (q.map (·.1))
  | none => .none
  | some (i, t) => .int i t
theorem pick_is (xs : List Value) (lo hi st : Option Int) : slicePick xs.toArray lo hi st = (cut xs lo hi st).toArray := by
  unfold slicePick cut
  rw [List.size_toArray]
  exact congrArg (fun g => (List.filterMap g _).toArray) (funext fun i => List.getElem?_toArray)
theorem cut_le (vs : List Value) (lo hi st : Option Int) : (cut vs lo hi st).length ≤ vs.length := by
  have := slicePick_size_le vs.toArray lo hi st
  rwa [pick_is] at this
theorem cut_rel {vs : List V} {xs : List Value} (r : S.rels vs xs) (lo hi st : Option Int) : S.rels (cut vs lo hi st) (cut xs lo hi st) := by unfold cut; rw [r.length]; exact r.filterMap _
theorem slice_list {a sl : Addr} {vs : List V} {xs : List Value} {l u k : Option (Int × Tok)} (hL : S.s.heap.IsList a xs.toArray) (rs : S.rels vs xs) (hlen : vs.length ≤ top) (hs : S.s.heap.IsSlice sl l u k) (h0 : k.map (·.1) ≠ some 0) (h : Gd (kV Q) S (Mine.alloc (.list (cut vs (l.map (·.1)) (u.map (·.1)) (k.map (·.1)))) H)) : ItemIs I E (.ref a) (.ref sl) Q S.s := by
  have hc := cut_rel rs (l.map (·.1)) (u.map (·.1)) (k.map (·.1))
  exact ⟨"list", _, PySem.F.slot_list_getitem.lookup, hL.typeIs, wpAny_getItem_list_slice hL hs (isPart_of l) (isPart_of u) (isPart_of k) h0 (by rw [pick_is]; exact kV_list hc (by rw [← hc.length]; exact Nat.le_trans (cut_le ..) (rs.length ▸ hlen)) h) (by rw [← top_is, List.size_toArray, rs.length]; exact hlen)⟩
theorem strIdx (lo hi : Option Int) (n : Nat) : Builtin.Str.strSliceIndices lo hi 1 n = sliceRange (loOf n lo) (hiOf n hi) 1 := by
  cases lo <;> cases hi <;> rfl
theorem slice_str {sl : Addr} {p : List Nat} {t : Tok} {l u : Option (Int × Tok)} (hp : p.length ≤ top) (hs : S.s.heap.IsSlice sl l u none) (h : (kV Q).P S (.str (cut p (l.map (·.1)) (u.map (·.1)) none), H)) : ItemIs I E (.str ⟨p.toArray⟩ t) (.ref sl) Q S.s := by
  refine ⟨"str", _, PySem.F.slot_str_getitem.lookup, typeIs_str S.s _ t, wpAny_getItem_str_slice hs rfl ?_⟩
  have hcl : (cut p (l.map (·.1)) (u.map (·.1)) none).length ≤ p.length := by rw [cut_none]; exact Nat.le_trans (List.length_take_le' ..) (by rw [List.length_drop]; exact Nat.sub_le ..)
  have hpk : slicePicked ⟨p.toArray⟩ l u none = sliceRange (loOf p.length (l.map (·.1))) (hiOf p.length (u.map (·.1))) 1 := strIdx _ _ _
  have hck : (slicePicked ⟨p.toArray⟩ l u none).filterMap ((⟨p.toArray⟩ : Str).cps[·]?) = cut p (l.map (·.1)) (u.map (·.1)) none := by
    rw [hpk]
    unfold cut
    rw [bounds_none]
    exact congrArg (fun g => List.filterMap g _) (funext fun i => List.getElem?_toArray)
  unfold sliceMade
  by_cases hc : (((none : Option (Int × Tok)).map (·.1)).getD 1 == 1 && (slicePicked ⟨p.toArray⟩ l u none).length == (⟨p.toArray⟩ : Str).length) = true
  · rw [if_pos hc]
    have hc := beq_iff_eq.mp (Bool.and_eq_true_iff.mp hc).2
    rw [hpk] at hc
    rw [cut_full p _ _ hc] at h
    exact h S _ (.refl S) ⟨hp, t, rfl⟩
  · rw [if_neg hc]
    refine ⟨?_, ?_⟩
    · rw [hck, str_len, ← top_is]; exact Nat.le_trans hcl hp
    · rw [hck]; exact kV_str (Nat.le_trans hcl hp) h
theorem slicing_snd {o lo hi st : V} {xo xl xh xs : Value} {sl : Addr} (ro : S.rel o xo) (rl : S.rel lo xl) (rh : S.rel hi xh) (rs : S.rel st xs) (hs : S.s.heap.get? sl = some { cls := .type "slice", data := .fields #[xl, xh, xs] }) (h : Gd (kV Q) S (slicing I.C o lo hi st H)) : ItemIs I E xo (.ref sl) Q S.s := by
  revert hs
  refine partE rl h fun l h => partE rh h fun u h => partE rs h fun k h => fun hs => ?_
  have hS : S.s.heap.IsSlice sl l u k := ⟨_, hs, rfl, rfl⟩
  have none_of : k.map (·.1) = none → k = none := fun e => by cases k with
    | none => rfl
    | some _ => cases e
  cases o with
  | str p =>
    obtain ⟨hp, t, rfl⟩ := ro
    refine ifE h fun hk h => ?_
    cases none_of hk
    exact slice_str hp hS h
  | loc i =>
    obtain ⟨a, q, m, rfl⟩ := ro
    exact ifE h fun hk h => listE m h fun vs xs n _ _ ho rs _ hl h => slice_list ho.isList rs hl hS (fun e => by rw [e] at hk; rcases hk with hk | hk <;> cases hk) h
  | ref d =>
    cases ro
    refine ifE h fun hk h => ?_
    cases none_of hk
    exact bindE h fun vs e h => by
      obtain ⟨hl, xs, hL, rs⟩ := S.clist I.tabs e
      exact slice_list hL rs hl hS nofun h
  | _ => exact h.elim
end
end Mine
set_option maxRecDepth 100000
set_option autoImplicit false
namespace Mine
open PySem PySem.W PyProof.Rows PySem.Calls PySem.SeqAt
section
variable {Γ : Gam} {H : MH}
noncomputable def St.set (S : St Γ H) (s' : Shared) {i : Nat} {l : List Addr} {o : O} (o' : O) (hi : H[i]? = some o) (hl : S.μ[i]? = some l) (k : Keeps l S.s.heap s'.heap) (ho : ORel Γ s'.heap S.μ o' l) : St Γ (H.set i o') := ⟨s', S.μ, S.hr.set hi hl k ho⟩
theorem St.to_set (S : St Γ H) {s' : Shared} {i : Nat} {l : List Addr} {o o' : O} {hi : H[i]? = some o} {hl : S.μ[i]? = some l} {k : Keeps l S.s.heap s'.heap} {ho : ORel Γ s'.heap S.μ o' l} (hg : s'.gens = S.s.gens := by rfl) (hd : s'.drawn = S.s.drawn := by rfl) (hos : s'.os = S.s.os := by rfl) : To [] S (S.set s' o' hi hl k ho) :=
  ⟨⟨⟨[], (List.append_nil _).symm, fun _ m => nomatch m⟩, k.mono fun _ ha => List.mem_flatten.mpr ⟨l, List.mem_of_getElem? hl, ha⟩⟩, fun b ob e => by
    by_cases hb : b ∈ l
    · exact let ⟨ob', h, _⟩ := ho.plain Γ b hb; ⟨ob', h⟩
    · exact ⟨ob, k b ob e hb⟩, hg, hd, hos⟩
theorem St.bare (S : St Γ H) {i : Nat} {l : List Addr} (hl : S.μ[i]? = some l) : Bare S.s.heap l := fun _ ha => S.hr.bare _ (List.mem_flatten.mpr ⟨_, List.mem_of_getElem? hl, ha⟩)
noncomputable def kU (Q : Shared → Prop) : Kn Γ MH := ⟨fun {_} S H' => ∀ S' : St Γ H', To [] S S' → Q S'.s, fun t h S' p => h S' (t.trans p)⟩
theorem VR.stay {h h' : Heap} {W : List Addr} {μ : Mu} (k : Keeps W h h') (hb : Bare h W) {v : V} {x : Value} (r : VR h μ v x) : VR h' μ v x := by
  have := r.keeps (ν := []) k hb
  rwa [List.append_nil] at this
theorem VRs.stay {h h' : Heap} {W : List Addr} {μ : Mu} (k : Keeps W h h') (hb : Bare h W) {v : List V} {x : List Value} (r : VRs h μ v x) : VRs h' μ v x := by
  have := r.keeps (ν := []) k hb
  rwa [List.append_nil] at this
theorem keeps_update {h : Heap} {a : Addr} {l : List Addr} (hm : a ∈ l) {f : Obj → Obj} : Keeps l h (h.update a f) := fun _ _ e hn => (Heap.get?_update_ne _ _ _ _ fun q => hn (by cases q; exact hm)).trans e
theorem kU_list {S : St Γ H} {Q : Shared → Prop} {i : Nat} {a : Addr} {vs ws : List V} {xs ys : List Value} {n : Nat} {f : Array Value → Array Value} (h1 : lst H i = some vs) (em : S.μ[i]? = some [a]) (ho : IsL S.s.heap a xs.toArray n)
    (hf : f xs.toArray = ys.toArray) (rw' : S.rels ws ys) (hlen : ws.length ≤ top) (h : (kU Q).P S (H.set i (.list ws))) : Q { S.s with heap := S.s.heap.update a (Obj.mapSeq f) } :=
  have kk := keeps_update (.head _)
  h (S.set _ (.list ws) (lst_some h1) em kk ⟨a, ys, _, rfl, hf ▸ ho.update f, rw'.stay kk (S.bare em), hlen⟩) S.to_set
theorem kU_inst {S : St Γ H} {Q : Shared → Prop} {i c n n' : Nat} {b d : Addr} {as as' : List (Nat × V)} {es es' : List DictEntry} {tk : Tok} {f : Obj → Obj} (h1 : H[i]? = some (.inst c as)) (em : S.μ[i]? = some [b, d]) (hb : S.s.heap.get? b = some (instObj c d)) (h2 : S.s.heap.get? d = some (dictOf es n))
    (hf : f (dictOf es n) = dictOf es' n') (hA : ARs S.s.heap S.μ as' es') (h : (kU Q).P S (H.set i (.inst c as'))) : Q { S.s with heap := S.s.heap.update d f, toks := tk } := by
  have kk : Keeps [b, d] S.s.heap (S.s.heap.update d f) := keeps_update (.tail _ (.head _))
  have hA' := hA.keeps (ν := []) kk (S.bare em)
  rw [List.append_nil] at hA'
  have hB := Heap.get?_update_self f h2 (by rw [hf]; rfl)
  rw [hf] at hB
  have ho : ORel Γ (S.s.heap.update d f) S.μ (.inst c as') [b, d] := ⟨b, d, _, _, rfl, (Heap.get?_update_ne _ _ _ _ fun e => by rw [e, h2] at hb; cases hb).trans hb, hB, hA'⟩
  exact h (S.set _ _ h1 em kk ho) S.to_set
end
section
variable {I : Cx} {E : Value → Shared → Prop} {H : MH} {S : St I.Γ H}
@[elab_as_elim] theorem instE {β : Type} {f : Nat × List (Nat × V) → Option β} {P : β → Prop} {C : Value → Prop} {v : V} {x : Value} (r : S.rel v x) (h : Gp ((inst H v).bind f) P)
    (k : ∀ p i b d es n, v = .loc i → H[i]? = some (.inst p.1 p.2) → S.μ[i]? = some [b, d] → S.s.heap.get? d = some (dictOf es n) → ARs S.s.heap S.μ p.2 es → W.InstAt S.s.heap b (instObj p.1 d) p.1 (some (dictOf es n)) → Gp (f p) P → C (.ref b)) : C x :=
  bindE h fun p e h => by
    obtain ⟨i, hi, e⟩ := bn_some e
    obtain ⟨o, ho, e⟩ := bn_some e
    rw [instO_some e] at ho
    rw [asL_some hi] at r
    obtain ⟨l, f1, a, d, es, n, rfl, h1, h2, h3⟩ := S.hr.at ho
    obtain ⟨b, q, m, rfl⟩ := r
    rw [m] at f1; cases f1
    exact k p i a d es n (asL_some hi) ho m h2 h3 ⟨h1, rfl, rfl, h2⟩ h
theorem rel_handed {v : V} {y : Value} (r : S.rel v y) : handedIn y = true := by
  cases v with
  | none => cases r; rfl
  | bool b => cases r; rfl
  | int i => obtain ⟨t, rfl⟩ := r; rfl
  | str q => obtain ⟨_, t, rfl⟩ := r; rfl
  | tup vs => obtain ⟨_, _, rfl, _⟩ := r; rfl
  | loc i => obtain ⟨_, _, _, rfl⟩ := r; rfl
  | ref a => cases r; rfl
  | bi b => cases r; cases b <;> first | rfl | exact (by decide +kernel)
  | rng n => obtain ⟨_, _, _, _, rfl, _⟩ := r; rfl
theorem getAttr_snd {o : V} {a : Nat} {xo : Value} {expr : Bool} {Q : Value → Shared → Prop} (ro : S.rel o xo) (h : Gp (Mine.getAttr I.C o a H) fun v => ∀ tk y, S.rel v y → Q y { S.s with toks := tk }) : wp I (PySem.getAttr xo (nm a) expr) Q E S.s :=
  instE ro h fun p i b d es n _ _ _ h2 h3 hI h => ifE h fun hok h => by
    cases e : Env.get p.2 a with
    | none => rw [e] at h; exact h.elim
    | some v =>
      rw [e] at h
      obtain ⟨y, hy, ry⟩ := h3.get e
      obtain ⟨t1, t2, ⟨at_, t3, t4⟩, _⟩ := I.tabs.attr _ a hok
      exact get_value (I.tabs.X.keeps S.hr.base) hI (plainGet_of t1).1 (findObj_own t2 t3 t4 hy) (rel_handed ry) (h _ _ ry)
theorem osa_raw {Γ : Gam} {A : Around} {s : Shared} {ox od od' : Obj} {x dx c : Addr} {name : Str} {tk : Tok} {v : Value} {R : Result → Shared → Prop} {es : List DictEntry} {n : Nat} (X : Γ.K.In s.heap)
    (I : W.InstAt s.heap x ox c (some od)) (hd : ox.dict = some dx) (hp : plainOver Γ.K c = true) (ht : takerIn Γ.K c name = some none) (hh : (clsIn Γ.K c).any (·.hasDict) = true)
    (hl : (lookIn name od).isSome = true) (e : Obj.putName name (PyData.keyHash Γ.w.params name) (.str name s.toks) v od = od') (e' : od'.data = .dict es.toArray n) (hz : es.length ≤ 1000)
    (h : R (.ok (.ret .none)) { s with heap := s.heap.update dx (Obj.putName name (PyData.keyHash Γ.w.params name) (.str name s.toks) v), toks := s.toks + 1 }) :
    codeAny Γ.M A (.call (.builtin "object.__setattr__") ⟨[.ref x, .str name tk, v], []⟩) R s := by
  refine osa_open X I hp ht fun b => ?_
  obtain ⟨cd, hc, hd'⟩ := any_some hh
  obtain ⟨hx, hcl, hn, hdd⟩ := I
  rw [hd] at hdd
  have D : s.heap.get? dx = some od := hdd
  have D' : (s.heap.update dx (Obj.putName name (PyData.keyHash Γ.w.params name) (.str name s.toks) v)).get? dx = some od' := by
    rw [Heap.get?_update_self _ D]
    · rw [e]
    · rw [e]; obtain ⟨_, _, dd, _⟩ := od'; cases e'; rfl
  obtain ⟨oc, odi, oda, osl⟩ := ox
  dsimp only at hcl hd
  subst hcl hd
  refine wpAny_bind (wpAny_pure (wpAny_bind (wpAny_bind (wpAny_loadPart hx (wpAny_bind ((looks_clsIn X hc).here ?_))))))
  rw [hd']
  refine wpAny_pure (a := some dx) (wpAny_bind (wpAny_pure (wpAny_bind ?_)))
  unfold nsSet
  refine wpAny_bind (wpAny_bind (wpAny_askSetting (wpAny_pure (wpAny_bind (wpAny_mkText (wpAny_bind (wpAny_loadPart D ?_)))))))
  unfold lookIn at hl
  split at hl
  · rename_i es₀ n₀ q
    rw [q]
    dsimp only
    have c : (!es₀.any (·.key.isStr name) && es₀.any (·.refKey)) = false := by
      rw [← Array.any_toList, ← Array.any_toList]
      split at hl
      · rename_i en he
        rw [List.any_eq_true.mpr ⟨en, List.mem_of_find?_eq_some he, List.find?_some he⟩]; rfl
      · split at hl
        · cases hl
        · rename_i z; rw [Bool.not_eq_true] at z; rw [z, Bool.and_false]
    rw [aRefKeyMayBeTheName_at, c]
    refine wpAny_updatePart D ?_
    refine wpAny_bind (wpAny_lookBehind D' (by rw [e']; exact pastItsLine_dict (by rw [List.size_toArray, sizeLine_eq]; lia)) ?_)
    exact wpAny_pure h
  · cases hl
theorem setAttr_snd {o v : V} {a : Nat} {xo xv : Value} {Q : Unit → Shared → Prop} (ro : S.rel o xo) (rv : S.rel v xv) (h : Gd (kU (Q ())) S (Mine.setAttr I.C o a v H)) : wp I (PySem.setAttr xo (nm a) xv) Q E S.s :=
  instE ro h fun p i b d es n e1 h1 em h2 h3 hI h => by
    rw [e1] at h
    refine ifE h fun hok h => ?_
    have hok := Bool.and_eq_true_iff.mp hok
    obtain ⟨t1, t2, _, t5, t6, t7⟩ := I.tabs.attr _ a hok.1
    have X := I.tabs.X.keeps S.hr.base
    refine set_plain X hI t5 ?_
    have hput := putName_dict (nm a) (PyData.keyHash I.Γ.w.params (nm a)) (.str (nm a) (S.s.toks + 1)) xv es n
    have hA := h3.put (hsh := PyData.keyHash I.Γ.w.params (nm a)) (t := S.s.toks + 1) rv (a := a)
    have hes := Nat.le_trans (Nat.le_of_eq hA.length) (Nat.le_trans (put_length p.2 a v) (Nat.le_trans (Nat.succ_le_succ (of_decide_eq_true hok.2)) (by decide : 101 ≤ 1000)))
    refine osa_raw (s := { S.s with toks := S.s.toks + 1 }) (od := dictOf es n) X hI rfl t6 t7 t2 (h3.looks a) hput rfl hes ?_
    exact kU_inst h1 em hI.at_ h2 hput hA h
theorem setItem_exact {Γ : Gam} {A : Around} {s : Shared} {l : Addr} {items : Array Value} {k : Int} {t : Tok} {v : Value} {n : Nat} {Q : Unit → Shared → Prop} (ho : IsL s.heap l items n)
    (h0 : 0 ≤ k) (hfit : k < 2 ^ 63) (hn : k < items.size)
    (hQ : Q () { s with heap := s.heap.update l (Obj.mapSeq (·.setIfInBounds k.toNat v)) }) :
    wpAny Γ.M A (setItem (.ref l) (.int k t) v) Q E s := by
  have hl := ho.isList
  unfold setItem
  try with_reducible refine wpAny_holding ?_
  first | refine wpAny_bind (wpAny_pure ?_) | skip
  refine wpAny_bind (wpAny_sequenceKey hl.typeIs (by decide) ?_)
  refine wpAny_bind (wpAny_callSpecial?_slot (name := Str.ofString "__setitem__") hl.typeIs PySem.F.slot_list_setitem
    (wpAny_call_entry PySem.F.slot_list_setitem hl.typeIs PySem.F.entry_list_setitem ?_ (PySem.F.args_list_setitem_3 _ _ _)))
  show wpAny _ _ (Builtin.List.listSubscript? (.int k t) >>= _) _ _ s
  refine wpAny_bind (wpAny_listSubscript_int (fitsIndex_of h0 hfit) ?_)
  clear hfit
  obtain ⟨j, rfl⟩ := Int.eq_ofNat_of_zero_le h0
  have hj : j < items.size := by lia
  have hx' : items[j]? = some items[j] := Array.getElem?_eq_getElem hj
  show wpAny _ _ ((seqItemAt l j >>= fun r => pure (r.map (j, ·))) >>= _) _ _ s
  refine wpAny_bind (wpAny_bind (wpAny_seqItemAt ho rfl (wpAny_pure ?_)))
  rw [hx']
  show wpAny _ _ (setSeqItemAt l j v >>= _) _ _ s
  refine wpAny_bind (wpAny_setSeqItemAt ho rfl ?_)
  first
    | exact wpAny_bind (wpAny_pure (wpAny_pure ⟨.none, rfl, wpAny_pure hQ⟩))
    | exact wpAny_pure ⟨.none, rfl, wpAny_pure hQ⟩
theorem setSub_snd {o i v : V} {xo xi xv : Value} {Q : Unit → Shared → Prop} (ro : S.rel o xo) (ri : S.rel i xi) (rv : S.rel v xv) (h : Gd (kU (Q ())) S (setSub o i v H)) : wp I (setItem xo xi xv) Q E S.s :=
  locE ro h fun l a q _ em h => intE ri h fun k t h => listE em h fun vs xs n h1 e ho rs hl hlen h => ifE h fun hk h => by
    subst e
    have hs : xs.toArray.size = vs.length := List.size_toArray.trans hl
    exact setItem_exact ho hk.1 (by rw [top_val] at hlen; lia) (by rw [hs]; exact hk.2) (kU_list h1 em ho (List.setIfInBounds_toArray ..) (rs.set rv) (by rw [List.length_set]; exact hlen) h)
theorem push_snd {l : Nat} {v : V} {a : Addr} {r : List Addr} {xv : Value} {Q : Value → Shared → Prop} (em : S.μ[l]? = some (a :: r)) (rv : S.rel v xv) (h : Gd (kU (Q .none)) S (Mine.push l v H)) : wp I (call (.builtin "list.append") [.ref a, xv]) Q E S.s :=
  listE em h fun vs xs n h1 e ho rs hl hlen h => ifE h fun hk h => by
    subst e
    exact call_meets PySem.F.slot_list_append ⟨_, ho, rfl⟩ PySem.F.entry_list_append (PySem.F.args_list_append_2 _ _) (list_append a xs.toArray n xv (by rw [← top_is, List.size_toArray, hl]; exact Nat.le_of_lt hk))
      ⟨ho, kU_list h1 em ho (List.push_toArray _ _) (rs.append (ws := [v]) ⟨_, _, rfl, rv, rfl⟩) (by rw [List.length_append]; exact hk) h⟩
end
end Mine
set_option maxRecDepth 100000
set_option autoImplicit false
namespace Mine
open PySem PySem.W PyProof.Rows PySem.Calls PySem.SeqAt
section
variable {I : Cx} {E : Value → Shared → Prop} {H : MH} {S : St I.Γ H} {Q : Value → Shared → Prop}
theorem ints_of {h : Heap} {μ : Mu} : ∀ {vs : List V} {xs : List Value} {t : Int}, VRs h μ vs xs → sumInts vs = some t → ∃ l : List (Int × Tok), xs = l.map (fun p => .int p.1 p.2) ∧ (l.map (·.1)).sum = t
  | [], _, _, r, e => by cases r; cases e; exact ⟨[], rfl, rfl⟩
  | v :: vs, _, t, r, e => by
    obtain ⟨i, hi, e⟩ := bn_some e
    obtain ⟨y, ys, rfl, r1, r2⟩ := r
    rw [asI_some hi] at r1
    obtain ⟨tk, rfl⟩ := r1
    obtain ⟨u, e1, rfl⟩ := Option.map_eq_some_iff.mp e
    obtain ⟨l, rfl, hl⟩ := ints_of r2 e1
    exact ⟨(i, tk) :: l, rfl, List.sum_cons.trans (congrArg (i + ·) hl)⟩
theorem preSum_list (l : List (Int × Tok)) : preSum (numAt l.toArray) l.length = (l.map (·.1)).sum := by
  have h : ∀ n, n ≤ l.length → preSum (numAt l.toArray) n = ((l.take n).map (·.1)).sum := by
    intro n
    induction n with
    | zero => intro _; rfl
    | succ n ih =>
      intro hn
      rw [preSum, ih (Nat.le_of_succ_le hn), List.take_add_one, List.map_append, List.sum_append]
      have : l[n]? = some l[n] := List.getElem?_eq_getElem hn
      simp [numAt, this]
  have := h l.length (Nat.le_refl _)
  rwa [List.take_length] at this
theorem len_snd {v : V} {y : Value} (r : S.rel v y) (h : Gp (lenV v H) fun n => (kV Q).P S (.int (n : Nat), H)) : wp I (call (.builtin "len") [y]) Q E S.s := by
  cases v with
  | str p =>
    obtain ⟨hp, t, rfl⟩ := r
    rw [top_val] at hp
    exact PyProof.Rows.len_str (by rw [str_len]; lia) (by rw [str_len]; exact kV_int h)
  | tup vs =>
    obtain ⟨a, zs, rfl, ht, rz⟩ := r
    refine ifE h fun hl h => ?_
    have hz : zs.toArray.size = vs.length := List.size_toArray.trans rz.length
    rw [top_val] at hl
    exact len_tuple ht (by (first | lia | omega)) (by rw [hz]; exact kV_int h)
  | loc i =>
    obtain ⟨a, q, m, rfl⟩ := r
    exact listM m h fun vs zs n _ _ ho rz hl hlen h => by
      have hz : zs.toArray.size = vs.length := List.size_toArray.trans hl
      rw [top_val] at hlen
      exact call_len_list ho.isList (by (first | lia | omega)) (by rw [hz]; exact kV_int h)
  | _ => exact h.elim
theorem builtin_snd {b : BI} {args : List V} {xs : List Value} (rs : S.rels args xs) (h : Gd (kV Q) S (builtin b args H)) : wp I (call (biVal b) xs) Q E S.s := by
  cases b with
  | len => exact oneE rs h fun v y _ r h => len_snd r (gp_map h)
  | min => exact twoE rs h fun v w x y r1 r2 h => intE r1 h fun i t h => intM r2 h fun j u h => min_two_ints I.room.handled fun h' tk k => h (S.grow _ k) _ (S.to_grow k) (by
      by_cases hc : j < i
      · rw [if_pos hc]; exact ⟨u, by rw [show min i j = j from by lia]⟩
      · rw [if_neg hc]; exact ⟨t, by rw [show min i j = i from by lia]⟩)
  | max => exact twoE rs h fun v w x y r1 r2 h => intE r1 h fun i t h => intM r2 h fun j u h => max_two_ints I.room.handled fun h' tk k => h (S.grow _ k) _ (S.to_grow k) (by
      by_cases hc : j > i
      · rw [if_pos hc]; exact ⟨u, by rw [show max i j = j from by lia]⟩
      · rw [if_neg hc]; exact ⟨t, by rw [show max i j = i from by lia]⟩)
  | ord =>
    refine oneE rs h fun v y _ r h => strE r h fun s t _ h => mapE h fun c e h => ?_
    rw [one_some e]
    exact ord_of_one (by rw [str_len]; rfl) (kV_int h)
  | range => exact oneE rs h fun v y _ r h => intE r h fun n t h => ifE h fun _ h => call_range_1 (h (S.grow _ fun _ _ e => Heap.get?_push_of_some _ e) _ (S.to_grow _) ⟨_, _, _, _, rfl, Heap.get?_push_size _ rfl⟩)
  | int => exact oneE rs h fun v y _ r h => bolM r h fun b h => call_int_bool (kV_int h)
  | sum =>
    exact oneE rs h fun v y _ r h => locE r h fun i a q _ m h => listE m h fun vs zs n _ _ ho rz _ _ h => mapE h fun u e1 h => by
      obtain ⟨l, rfl, hs⟩ := ints_of rz e1
      refine sum_intListG (xs := l.toArray) I.room.handled (by rw [intItems, List.map_toArray]; exact ho.isList) fun h' tk t' k => h (S.grow _ k) _ (S.to_grow k) ⟨t', ?_⟩
      rw [List.size_toArray, preSum_list l, hs]
theorem nm_append : nm nAppend = Str.ofString "append" := by decide +kernel
theorem nm_extend : nm nExtend = Str.ofString "extend" := by decide +kernel
theorem nm_pop : nm nPop = Str.ofString "pop" := by decide +kernel
theorem nm_join : nm nJoin = Str.ofString "join" := by decide +kernel
theorem nm_get : nm nGet = Str.ofString "get" := by decide +kernel
noncomputable def MthIs (μ : Mu) : Mth → Value → Value → Prop
  | .join s, f, x => f = .builtin "str.join" ∧ s.length ≤ top ∧ ∃ t, x = .str ⟨s.toArray⟩ t
  | .get d, f, x => f = .builtin "dict.get" ∧ x = .ref d
  | .append i, f, x => f = .builtin "list.append" ∧ ∃ a r, μ[i]? = some (a :: r) ∧ x = .ref a
  | .extend i, f, x => f = .builtin "list.extend" ∧ ∃ a r, μ[i]? = some (a :: r) ∧ x = .ref a
  | .pop i, f, x => f = .builtin "list.pop" ∧ ∃ a r, μ[i]? = some (a :: r) ∧ x = .ref a
  | .fn g self, f, x => f = .ref g ∧ ∃ i a r, self = .loc i ∧ μ[i]? = some (a :: r) ∧ x = .ref a
theorem list_meth {id : String} {name : Str} {a : Addr} {xs : List Value} {n : Nat} {pl : Sem Bool} {Q : Value × List Value → Shared → Prop} (ho : IsL S.s.heap a xs.toArray n) (sl : Slot "list" name id) (ty : typeOf (.builtin id) = pure (.type "method_descriptor")) (h : Q (.builtin id, [.ref a]) S.s) : wp I (getMethod (.ref a) name pl) Q E S.s :=
  getMethod_builtin ⟨_, ho, rfl⟩ PySem.F.plainAttrs_list sl ty (fun b e => by cases e; exact ⟨_, ho, rfl⟩) h
theorem method_snd {o : V} {m : Nat} {xo : Value} {pl : Sem Bool} {Q : Value × List Value → Shared → Prop} (ro : S.rel o xo) (h : Gp (method I.C o m H) fun k => ∀ f, MthIs S.μ k f xo → Q (f, [xo]) S.s) : wp I (getMethod xo (nm m) pl) Q E S.s := by
  cases o with
  | str p =>
    obtain ⟨hp, t, rfl⟩ := ro
    refine ifE h fun hm h => ?_
    rw [hm, nm_join]
    exact getMethod_builtin (typeIs_str S.s _ t) PySem.F.plainAttrs_str PySem.F.slot_str_join PySem.F.type_str_join (fun a e => by cases e) (h _ ⟨rfl, hp, t, rfl⟩)
  | ref d =>
    cases ro
    refine ifE h fun hm h => ?_
    obtain ⟨es, hes⟩ := Option.isSome_iff_exists.mp hm.2
    obtain ⟨_, f, h3, _⟩ := S.cdict I.tabs hes
    rw [hm.1, nm_get]
    exact getMethod_builtin h3.typeIs PySem.F.plainAttrs_dict PySem.F.slot_dict_get PySem.F.type_dict_get (fun a e => by cases e; obtain ⟨ob, es', ep, ho, hx, _⟩ := h3; exact ⟨ob, ho, hx.2.1⟩) (h _ ⟨rfl, rfl⟩)
  | loc i =>
    obtain ⟨a, r, em, rfl⟩ := ro
    refine bindE h fun ob h1 h => ?_
    cases ob with
    | list vs =>
      obtain ⟨l, f1, _, zs, n, rfl, ho, _⟩ := S.hr.at h1
      rw [em] at f1; cases f1
      unfold methO at h
      by_cases hm : m = nAppend
      · rw [if_pos hm] at h; rw [hm, nm_append]
        exact list_meth ho PySem.F.slot_list_append PySem.F.type_list_append (h _ ⟨rfl, a, [], em, rfl⟩)
      rw [if_neg hm] at h
      by_cases hm : m = nExtend
      · rw [if_pos hm] at h; rw [hm, nm_extend]
        exact list_meth ho PySem.F.slot_list_extend PySem.F.type_list_extend (h _ ⟨rfl, a, [], em, rfl⟩)
      rw [if_neg hm] at h
      refine ifE h fun hm h => ?_
      rw [hm, nm_pop]
      exact list_meth ho PySem.F.slot_list_pop PySem.F.type_list_pop (h _ ⟨rfl, a, [], em, rfl⟩)
    | inst c as =>
      refine bindE h fun f hf h => ifE h fun hn h => ?_
      obtain ⟨l, f1, _, d, es, n, rfl, h0, h2, h3⟩ := S.hr.at h1
      rw [em] at f1; cases f1
      obtain ⟨t1, t2, t3⟩ := I.tabs.meth c m f hf
      have hI : W.InstAt S.s.heap a (instObj c d) c (some (dictOf es n)) := ⟨h0, rfl, rfl, h2⟩
      exact method_fn (I.tabs.X.keeps S.hr.base) hI (plainGet_of t1).1 (plainGet_of t1).2 t2 (beq_iff_eq.mp t3) (show (getL (nm m) es).map _ = _ from congrArg _ (h3.none hn)) (h _ ⟨rfl, i, a, [d], rfl, em, rfl⟩)
    | _ => exact h.elim
  | _ => exact h.elim
theorem texts_of {h : Heap} {μ : Mu} {sep : List Nat} : ∀ {vs : List V} {xs : List Value} {t : List Nat}, VRs h μ vs xs → joinTexts sep vs = some t →
    ∃ l : List (Str × Tok), xs = strValues l ∧ Str.join ⟨sep.toArray⟩ (l.map (·.1)) = ⟨t.toArray⟩ ∧ (l.map fun p => p.1.length + sep.length).sum = joinCost sep vs ∧ t.length ≤ joinCost sep vs
  | [], _, _, r, e => by cases r; cases e; exact ⟨[], rfl, rfl, rfl, Nat.le_refl _⟩
  | v :: vs, _, t, r, e => by
    obtain ⟨p, hp, e⟩ := bn_some e
    obtain ⟨y, ys, rfl, r1, r2⟩ := r
    rw [asS_some hp] at r1
    obtain ⟨_, tk, rfl⟩ := r1
    have hc : joinCost sep (v :: vs) = p.length + sep.length + joinCost sep vs := by rw [joinCost, hp]
    cases vs with
    | nil =>
      cases r2; cases e
      refine ⟨[(⟨t.toArray⟩, tk)], rfl, rfl, ?_, ?_⟩
      · rw [hc]; exact congrArg (· + sep.length + 0) (str_len t)
      · rw [hc]; exact Nat.le_add_right _ _
    | cons w vs =>
      obtain ⟨u, e1, rfl⟩ := Option.map_eq_some_iff.mp e
      obtain ⟨l, rfl, h1, h2, h3⟩ := texts_of r2 e1
      refine ⟨(⟨p.toArray⟩, tk) :: l, rfl, ?_, ?_, ?_⟩
      · cases l with
        | nil => obtain ⟨_, _, e5, _⟩ := r2; cases e5
        | cons q l =>
          show _ ++ _ ++ Str.join _ _ = _
          rw [h1, str_append, str_append, List.append_assoc]
      · rw [hc, ← h2, List.map_cons, List.sum_cons, str_len]
      · rw [hc, List.length_append, List.length_append]; lia
theorem foldl_cost (sep : Nat) : ∀ (l : List Str) (n : Nat), l.foldl (fun a x => a + x.length + sep) n = n + (l.map fun p => p.length + sep).sum
  | [], n => rfl
  | x :: r, n => by rw [List.foldl_cons, List.map_cons, List.sum_cons, foldl_cost sep r]; lia
theorem CallOK.call {f : Nat} {args : List V} {xs : List Value} (rs : S.rels args xs) (h : Gd (kV Q) S (I.C.call f args H)) : wp I (PySem.call (.ref f) xs) Q E S.s := wpAny_call ((I.csound f args H).1 I.A S xs _ I.room rs h)
theorem applyM_snd {k : Mth} {args : List V} {f xo : Value} {xs : List Value} (hm : MthIs S.μ k f xo) (rs : S.rels args xs) (h : Gd (kV Q) S (applyM I.C k args H)) : wp I (PySem.call f (xo :: xs)) Q E S.s := by
  cases k with
  | join p =>
    obtain ⟨rfl, hp, t, rfl⟩ := hm
    refine oneE rs h fun v y _ r h => locE r h fun i a q _ m h => listE m h fun vs zs n _ _ ho rz _ hl h => ifE h fun hc h => mapE h fun u e1 h => ?_
    obtain ⟨l, rfl, j1, j2, j3⟩ := texts_of (sep := p) rz e1
    refine SC.join (l := l) ho.isList rfl ?_ fun t' k => ?_
    · have : (l.map (·.1)).toArray.foldl (fun a x => a + x.length + (⟨p.toArray⟩ : Str).length) 0 = joinCost p vs := by
        rw [List.foldl_toArray, foldl_cost, Nat.zero_add, ← j2, List.map_map, str_len]; rfl
      show (!Builtin.Str.tooLong _) = true
      rw [this, top_is] at *
      exact congrArg (!·) (decide_eq_false (Nat.not_lt.mpr hc))
    · have e : Txt.join ⟨p.toArray⟩ (l.map (·.1)) = ⟨u.toArray⟩ := by rw [← j1]; unfold Txt.join; rw [StrLaws.glued_eq_join]
      exact e ▸ kV_str (Nat.le_trans j3 hc) h
  | get d =>
    obtain ⟨rfl, rfl⟩ := hm
    refine twoE rs h fun v w x y r1 r2 h => strE r1 h fun q t _ h => mapE h fun es e1 h => ?_
    obtain ⟨h2, g, h3, h4⟩ := S.cdict I.tabs e1
    have h5 := h4 ⟨q.toArray⟩
    refine call_meetsIn PySem.F.slot_dict_get h3.typeIs PySem.F.entry_dict_get (PySem.F.args_dict_get_3 _ _ _) (meets_dict_get_default (PySem.strKind I.Γ.prog I.Γ.w) d (key_is q t) h2 y) ⟨g, h3, ?_⟩
    cases hi : inDict q es with
    | some u => rw [hi] at h5 h; obtain ⟨y', e5, r5⟩ := h5; rw [e5]; exact h (S.toks _) _ S.to_toks r5
    | none => rw [hi] at h5 h; rw [show g ⟨q.toArray⟩ = none from h5]; exact h (S.toks _) _ S.to_toks r2
  | append i =>
    obtain ⟨rfl, a, r, em, rfl⟩ := hm
    exact oneE rs h fun v y _ r h => push_snd em r ((gp_map h).mono fun H' h S' p => h S' _ p rfl)
  | extend i =>
    obtain ⟨rfl, a, r, em, rfl⟩ := hm
    refine oneE rs h fun v y _ r h => locE r h fun j b q _ m h => listE em h fun vs zs n h1 e ho rz hl hlen h => listE m h fun ws ys k _ _ ho' rz' hl' hlen' h => ifE h fun hc h => ?_
    subst e
    have hs : vs.length + ws.length ≤ sizeLine := top_is ▸ hc
    refine call_meets PySem.F.slot_list_extend ⟨_, ho, rfl⟩ PySem.F.entry_list_extend (PySem.F.args_list_extend_2 _ _) (PySem.AutoSeq1.list_extend_list_list_0 a zs.toArray n b ys.toArray k ?_ (by simp only [List.size_toArray]; lia) (by simp only [List.size_toArray]; lia)) ⟨ho, ho', ?_⟩
    · have : Builtin.List.listTooLong (zs.toArray.size + ys.toArray.size) = false := decide_eq_false (by rw [List.size_toArray, List.size_toArray]; lia)
      rw [this]; simp
    · exact kU_list (Q := Q .none) h1 em ho (List.append_toArray ..) (rz.append rz') (by rw [List.length_append]; exact hc) fun S' p => h S' _ p rfl
  | pop i =>
    obtain ⟨rfl, a, r, em, rfl⟩ := hm
    cases args with
    | cons _ _ => exact h.elim
    | nil =>
      cases rs
      refine listE em h fun vs zs n h1 e ho rz hl hlen h => mapE h fun u hu h => ?_
      subst e
      rw [List.getLast?_eq_getElem?] at hu
      obtain ⟨y, hy, ry⟩ := rz.get hu
      rw [← hl] at hy
      have hlt := (List.getElem?_eq_some_iff.mp hy).1
      have hs : vs.length ≤ sizeLine := top_is ▸ hlen
      refine call_meets PySem.F.slot_list_pop ⟨_, ho, rfl⟩ PySem.F.entry_list_pop (PySem.F.args_list_pop_1 _) (PySem.MeetsSeq.list_pop_last a zs.toArray n y (List.getElem?_toArray.trans (List.size_toArray.symm ▸ hy)) (by rw [List.size_toArray]; lia)) ⟨ho, ?_⟩
      refine kU_list (Q := Q y) h1 em ho (ys := zs.dropLast) ?_ rz.dropLast (by rw [List.length_dropLast]; lia) fun S' p => h S' y p (p.v (bare_nil _) ry)
      simp [Array.eraseIdxIfInBounds, List.eraseIdx_length_sub_one]
      lia
  | fn g self =>
    obtain ⟨rfl, i, a, r, rfl, em, rfl⟩ := hm
    exact CallOK.call (args := .loc i :: args) ⟨_, _, rfl, ⟨a, r, em, rfl⟩, rs⟩ h
end
end Mine
set_option maxRecDepth 100000
set_option autoImplicit false
namespace Mine
open PySem PySem.W PyProof.Rows PySem.Calls PySem.SeqAt
noncomputable def prs : PySem.Expr → List PySem.Expr × Str × Nat × Nat × Scope × Option PySem.Expr × Option PySem.Expr × Option PySem.Expr
  | .BinOp l _ r _ => ([l, r], default, 0, 0, default, none, none, none)
  | .UnaryOp _ x _ => ([x], default, 0, 0, default, none, none, none)
  | .IfExp t a b _ => ([t, a, b], default, 0, 0, default, none, none, none)
  | .BoolOp _ vs _ => (vs, default, 0, 0, default, none, none, none)
  | .Compare l _ cs _ => (l :: cs, default, 0, 0, default, none, none, none)
  | .Call f as _ _ => (f :: as, default, 0, 3, default, none, none, none)
  | .Attribute v _ _ => ([v], default, 0, 2, default, none, none, none)
  | .Subscript v s _ => ([v, s], default, 0, 0, default, none, none, none)
  | .List es _ => (es, default, 0, 0, default, none, none, none)
  | .Tuple es k _ => (es, default, k, 0, default, none, none, none)
  | .ListComp x gens sc _ => (match gens with
    | [] => [x]
    | g :: _ => x :: g.target :: g.iter :: g.ifs, default, 0, 0, sc, none, none, none)
  | .Slice l u s _ => ([], default, 0, 0, default, l, u, s)
  | .Name id _ => ([], id, 0, 1, default, none, none, none)
  | .Constant _ k _ => ([], default, k, 0, default, none, none, none)
  | _ => ([], default, 0, 0, default, none, none, none)
noncomputable abbrev kids (e : PySem.Expr) : List PySem.Expr := (prs e).1
noncomputable abbrev idOf (e : PySem.Expr) : Str := (prs e).2.1
noncomputable abbrev numOf (e : PySem.Expr) : Nat := (prs e).2.2.1
noncomputable abbrev isName (e : PySem.Expr) : Bool := (prs e).2.2.2.1 == 1
noncomputable abbrev scOf (e : PySem.Expr) : Scope := (prs e).2.2.2.2.1
noncomputable abbrev parts (e : PySem.Expr) : Option PySem.Expr × Option PySem.Expr × Option PySem.Expr := (prs e).2.2.2.2.2
noncomputable abbrev hd1 (l : List PySem.Expr) : PySem.Expr := l.headD default
noncomputable abbrev kid (e : PySem.Expr) (n : Nat) : PySem.Expr := hd1 ((kids e).drop n)
noncomputable def cOf : V → PySem.Const
  | .bool b => .bool b
  | .int i => .int i
  | .str s => .str ⟨s.toArray⟩
  | _ => .none
noncomputable def okC : V → Bool
  | .none => true
  | .bool _ => true
  | .int _ => true
  | .str s => decide (s.length ≤ top)
  | _ => false
noncomputable def emN : List Nat → List PySem.Expr → List PySem.Expr
  | [], _ => []
  | x :: xs, es => .Name (nm x) (hd1 es).pos :: emN xs es.tail
noncomputable def emT (xs : List Nat) (single : Bool) (e : PySem.Expr) : PySem.Expr := match single with
  | true => .Name (nm (xs.headD 0)) e.pos
  | false => .Tuple (emN xs (kids e)) (numOf e) e.pos
mutual
noncomputable def em : ME → PySem.Expr → PySem.Expr
  | .c v, e => match isName e with
    | true => .Name (idOf e) e.pos
    | false => .Constant (cOf v) (numOf e) e.pos
  | .var x, e => .Name (nm x) e.pos
  | .tup ms, e => .Tuple (ems ms (kids e)) (numOf e) e.pos
  | .list ms, e => .List (ems ms (kids e)) e.pos
  | .edict, e => .Dict [] [] e.pos
  | .bin op a b, e => .BinOp (em a (kid e 0)) (opOf op) (em b (kid e 1)) e.pos
  | .neg a, e => .UnaryOp .USub (em a (kid e 0)) e.pos
  | .not a, e => .UnaryOp .Not (em a (kid e 0)) e.pos
  | .bop k ms, e => .BoolOp (match k with | true => .And | false => .Or) (ems ms (kids e)) e.pos
  | .ite c a b, e => .IfExp (em c (kid e 0)) (em a (kid e 1)) (em b (kid e 2)) e.pos
  | .cmp a ops ms, e => .Compare (em a (kid e 0)) (ops.map copOf) (ems ms (kids e).tail) e.pos
  | .attr o a, e => .Attribute (em o (kid e 0)) (nm a) e.pos
  | .sub o i, e => .Subscript (em o (kid e 0)) (em i (kid e 1)) e.pos
  | .slice o lo hi st, e => .Subscript (em o (kid e 0)) (.Slice ((parts (kid e 1)).1.map (em lo)) ((parts (kid e 1)).2.1.map (em hi)) ((parts (kid e 1)).2.2.map (em st)) (kid e 1).pos) e.pos
  | .call f ms, e => .Call (em f (kid e 0)) (ems ms (kids e).tail) [] e.pos
  | .meth o m ms, e => .Call (.Attribute (em o (kid (kid e 0) 0)) (nm m) (kid e 0).pos) (ems ms (kids e).tail) [] e.pos
  | .comp el tgt one it ifs, e => .ListComp (em el (kid e 0)) [⟨emT tgt one (kid e 1), em it (kid e 2), ems ifs ((kids e).drop 3), 0⟩] (scOf e) e.pos
  | .bad, e => .Name (idOf e) e.pos
noncomputable def ems : List ME → List PySem.Expr → List PySem.Expr
  | [], _ => []
  | m :: ms, es => em m (hd1 es) :: ems ms es.tail
end
noncomputable def kk : Option NameKind → Nat
  | some .local => 1
  | some .cell => 2
  | some .free => 2
  | some .globalImplicit => 3
  | _ => 0
noncomputable def kap (sc : Scope) (id : Str) : Nat := kk (sc.names.lookup id)
noncomputable def dot0 : Str := Str.ofString ".0"
noncomputable def okObj : ME → Bool
  | .call _ _ => false
  | _ => true
noncomputable def okFn : ME → Bool
  | .attr _ _ => false
  | _ => true
noncomputable def noDupN {α : Type} [BEq α] : List α → Bool
  | [] => true
  | x :: r => !(r.any fun y => y == x) && noDupN r
noncomputable def isLocal (sc : Scope) (x : Str) : Bool := kap sc x == 1
noncomputable def okSc (κ : Str → Nat) (sc : Scope) (tgt : List Nat) : Bool := (sc.kind == .function) &&
  (sc.names.all fun y => if y.2 == .local then isLocal sc y.1 && (y.1 == dot0 || tgt.any fun z => y.1 == nm z) else if y.2 == .free then κ y.1 == 2 else !(y.2 == .cell)) &&
  (tgt.all fun z => isLocal sc (nm z)) && noDupN tgt
mutual
noncomputable def okE : ME → PySem.Expr → (Str → Nat) → Bool
  | .c v, e, κ => match isName e with
    | true => (κ (idOf e) == 3) && (gOf (idOf e) == some v) && !(idOf e == "__debug__")
    | false => okC v
  | .var x, _, κ => (κ (nm x) == 1 || κ (nm x) == 2) && (!(nm x == "__debug__") && (!(nm x == dot0) && !(nm x == "__classdict__")))
  | .tup ms, e, κ => okEs ms (kids e) κ && decide (ms.length ≤ top)
  | .list ms, e, κ => okEs ms (kids e) κ && decide (ms.length ≤ top)
  | .edict, _, _ => true
  | .bin _ a b, e, κ => okE a (kid e 0) κ && okE b (kid e 1) κ
  | .neg a, e, κ => okE a (kid e 0) κ
  | .not a, e, κ => okE a (kid e 0) κ
  | .bop _ ms, e, κ => okEs ms (kids e) κ
  | .ite c a b, e, κ => okE c (kid e 0) κ && (okE a (kid e 1) κ && okE b (kid e 2) κ)
  | .cmp a ops ms, e, κ => okE a (kid e 0) κ && (okEs ms (kids e).tail κ && (ops.length == ms.length))
  | .attr o _, e, κ => okE o (kid e 0) κ && okObj o
  | .sub o i, e, κ => okE o (kid e 0) κ && okE i (kid e 1) κ
  | .slice o lo hi st, e, κ => okE o (kid e 0) κ && (okO (okE lo) lo (parts (kid e 1)).1 κ && (okO (okE hi) hi (parts (kid e 1)).2.1 κ && okO (okE st) st (parts (kid e 1)).2.2 κ))
  | .call f ms, e, κ => okE f (kid e 0) κ && (okEs ms (kids e).tail κ && okFn f)
  | .meth o _ ms, e, κ => okE o (kid (kid e 0) 0) κ && (okEs ms (kids e).tail κ && (okObj o && (((kid e 0).pos.endLine == e.pos.line) && decide (ms.length < 29))))
  | .comp el tgt one it ifs, e, κ => okE it (kid e 2) κ && (okE el (kid e 0) (kap (scOf e)) && (okEs ifs ((kids e).drop 3) (kap (scOf e)) && (okSc κ (scOf e) tgt && (!one || tgt.length == 1))))
  | .bad, _, _ => true
noncomputable def okEs : List ME → List PySem.Expr → (Str → Nat) → Bool
  | [], _, _ => true
  | m :: ms, es, κ => okE m (hd1 es) κ && okEs ms es.tail κ
noncomputable def okO (ok : PySem.Expr → (Str → Nat) → Bool) (m : ME) (o : Option PySem.Expr) (κ : Str → Nat) : Bool := match o with
  | some e => ok e κ
  | none => match m with
    | .c v => isNo v
    | _ => false
end
end Mine
set_option maxRecDepth 100000
set_option autoImplicit false
namespace Mine
open PySem PySem.W PyProof.Rows PySem.Calls PySem.SeqAt
theorem andL {a b : Bool} (h : (a && b) = true) : a = true := (Bool.and_eq_true_iff.mp h).1
theorem andR {a b : Bool} (h : (a && b) = true) : b = true := (Bool.and_eq_true_iff.mp h).2
theorem notF {a : Bool} (h : (!a) = true) : a = false := by cases a with
  | true => cases h
  | false => rfl
theorem ne_of {α : Type} [BEq α] [LawfulBEq α] {a b : α} (h : (!(a == b)) = true) : a ≠ b := fun q => ff ((notF h).symm.trans (beq_iff_eq.mpr q))
theorem em_c (v : V) (e : PySem.Expr) : em (.c v) e = (match isName e with | true => .Name (idOf e) e.pos | false => .Constant (cOf v) (numOf e) e.pos) := rfl
theorem em_set : ∀ (m : ME) (e : PySem.Expr) (op : CmpOp), behindInMarks op (em m e) = false := fun m e op => by
  cases m with
  | c v => rw [em_c]; cases isName e <;> rfl
  | _ => rfl
theorem em_star (m : ME) (e : PySem.Expr) (r : List PySem.Expr) (env : PySem.Env) : starEach (em m e :: r) env = (false, eval (em m e) env) :: starEach r env := by
  cases m with
  | c v => rw [em_c]; cases isName e <;> rfl
  | _ => rfl
theorem em_slice (m : ME) (e : PySem.Expr) (o i : Value) : subscripted (em m e) false o i = operate [o, i] (getItem o i) := by
  cases m with
  | c v => rw [em_c]; cases isName e <;> rfl
  | _ => rfl
theorem em_iter (m : ME) (e : PySem.Expr) (env : PySem.Env) (x : Value) : foldedSetIterable (em m e) env x = pure x := by
  cases m with
  | c v => rw [em_c]; cases isName e <;> rfl
  | _ => rfl
theorem em_base (m : ME) (e : PySem.Expr) (attr : Str) (env : PySem.Env) (whole : Sem Value) (h : okObj m = true) : attributeBase (em m e) attr env whole = whole := by
  cases m with
  | c v => rw [em_c]; cases isName e <;> rfl
  | call _ _ => cases h
  | _ => rfl
end Mine
set_option maxRecDepth 100000
set_option autoImplicit false
namespace Mine
open PySem PySem.W PyProof.Rows PySem.Calls PySem.SeqAt
noncomputable def ice : Nat := 1954047348
noncomputable abbrev cellAt (env : PySem.Env) (n : Str) (c : Addr) : Prop := env.cells.lookup n = some c
noncomputable abbrev celled (env : PySem.Env) (n : Str) : Prop := env.kindOf n = some .cell ∨ env.kindOf n = some .free
noncomputable def owns (env : PySem.Env) : List Addr := env.locals :: env.cells.map (·.2)
section
variable {Γ : Gam} {H H' : MH}
structure FRz (Z : List Nat) (env : PySem.Env) (ρ : Env) (S : St Γ H) : Prop where
  kind : env.scope.kind = .function
  globals : env.globals = mainGlobals
  blt : env.builtins = builtinsNs
  ns : ∃ m, S.s.heap.Ns env.locals m ∧ ∀ x v, x ∉ Z → env.kindOf (nm x) = some .local → nm x ≠ dot0 → Env.get ρ x = some v → ∃ X, m (nm x) = some X ∧ S.rel v X
  cells : ∀ n, celled env n → ∃ c, cellAt env n c
  cellv : ∀ x v c, celled env (nm x) → cellAt env (nm x) c → Env.get ρ x = some v → ∃ X, S.s.heap.IsCell c (some X) ∧ S.rel v X
  alive : ∀ n c, cellAt env n c → ∃ ov, S.s.heap.IsCell c ov
  apart : env.locals ∉ S.μ.flatten ∧ Γ.h₀.get? env.locals = none
  apartC : ∀ n c, cellAt env n c → c ∉ S.μ.flatten ∧ (n ≠ nm ice → Γ.h₀.get? c = none)
  one : ∀ n n' c, cellAt env n c → cellAt env n' c → n = n'
  mine : ∀ c ∈ env.cells.map (·.2), ∃ n, cellAt env n c
noncomputable abbrev FR (env : PySem.Env) (ρ : Env) (S : St Γ H) : Prop := FRz [] env ρ S
theorem plain_of {o : Obj} (h1 : ∀ xs n, o.data ≠ .seq xs n) (h2 : ∀ vs, o.data ≠ .fields vs) : Plainly o := ⟨fun q => q.2.elim fun xs q => q.elim (h1 xs), fun q => q.2.elim h2⟩
theorem ns_plain {h : Heap} {a : Addr} {m : Str → Option Value} (x : h.Ns a m) (o : Obj) (e : h.get? a = some o) : Plainly o := by
  obtain ⟨o', es, ep, ho, hd, _⟩ := x
  have : o' = o := Option.some.inj (ho.symm.trans e)
  subst this
  exact plain_of (fun _ _ e => nomatch hd.symm.trans e) fun _ e => nomatch hd.symm.trans e
theorem cell_plain {h : Heap} {a : Addr} {v : Option Value} (x : h.IsCell a v) (o : Obj) (e : h.get? a = some o) : Plainly o := by
  obtain ⟨o', ho, hd⟩ := x
  have : o' = o := Option.some.inj (ho.symm.trans e)
  subst this
  exact plain_of (fun _ _ e => nomatch hd.symm.trans e) fun _ e => nomatch hd.symm.trans e
theorem ns_at {h h' : Heap} {a : Addr} {m : Str → Option Value} (x : h.Ns a m) (k : ∀ o, h.get? a = some o → h'.get? a = some o) : h'.Ns a m :=
  x.elim fun o x => x.elim fun es x => x.elim fun ep x => ⟨o, es, ep, k o x.1, x.2⟩
theorem cell_at {h h' : Heap} {a : Addr} {v : Option Value} (x : h.IsCell a v) (k : ∀ o, h.get? a = some o → h'.get? a = some o) : h'.IsCell a v := x.elim fun o x => ⟨o, k o x.1, x.2⟩
theorem ns_get {h : Heap} {a : Addr} {m : Str → Option Value} (x : h.Ns a m) : ∃ o, h.get? a = some o := x.elim fun o x => x.elim fun _ x => x.elim fun _ x => ⟨o, x.1⟩
variable {Z : List Nat} {env : PySem.Env} {ρ : Env} {S : St Γ H} {S' : St Γ H'}
theorem FRz.live (F : FRz Z env ρ S) : ∃ o, S.s.heap.get? env.locals = some o := F.ns.elim fun _ x => ns_get x.1
theorem FRz.liveC (F : FRz Z env ρ S) {n : Str} {c : Addr} (h : cellAt env n c) : ∃ o, S.s.heap.get? c = some o := (F.alive n c h).elim fun _ x => x.elim fun o x => ⟨o, x.1⟩
theorem Tk.new {X : List Addr} (p : Tk X S S') {a : Addr} (h : a ∈ S'.μ.flatten) : a ∈ S.μ.flatten ∨ S.s.heap.get? a = none := p.ext.elim fun ν e => by
  rw [e.1, List.flatten_append] at h
  exact (List.mem_append.mp h).imp_right (e.2 a)
theorem Tk.out {X : List Addr} (p : Tk X S S') {a : Addr} (h : a ∉ S.μ.flatten) (l : ∃ o, S.s.heap.get? a = some o) : a ∉ S'.μ.flatten := fun m => (p.new m).elim h fun e => l.elim fun o q => nomatch e.symm.trans q
theorem FRz.toX {X : List Addr} (F : FRz Z env ρ S) (p : Tk X S S') (hX : Bare S.s.heap X) (hL : env.locals ∉ X) (hC : ∀ n c, cellAt env n c → c ∉ X) : FRz Z env ρ S' := by
  have kp : ∀ {a o}, a ∉ X → a ∉ S.μ.flatten → S.s.heap.get? a = some o → S'.s.heap.get? a = some o := fun h1 h2 e => p.keeps _ _ e fun m => (List.mem_append.mp m).elim h1 h2
  have kc : ∀ {n c v}, cellAt env n c → S.s.heap.IsCell c v → S'.s.heap.IsCell c v := fun h x => cell_at x fun o e => kp (hC _ _ h) (F.apartC _ _ h).1 e
  exact ⟨F.kind, F.globals, F.blt, F.ns.elim fun m x => ⟨m, ns_at x.1 fun o e => kp hL F.apart.1 e, fun y v hz h1 h2 h3 => (x.2 y v hz h1 h2 h3).imp fun _ q => ⟨q.1, p.v hX q.2⟩⟩, F.cells,
    fun y v c h1 h2 h3 => (F.cellv y v c h1 h2 h3).imp fun _ q => ⟨kc h2 q.1, p.v hX q.2⟩, fun n c h => (F.alive n c h).imp fun _ q => kc h q, ⟨p.out F.apart.1 F.live, F.apart.2⟩, fun n c h => ⟨p.out (F.apartC n c h).1 (F.liveC h), (F.apartC n c h).2⟩, F.one, F.mine⟩
theorem FRz.to (F : FRz Z env ρ S) (p : To [] S S') : FRz Z env ρ S' := F.toX p.toTk (bare_nil _) (fun m => nomatch m) fun _ _ _ m => nomatch m
end
section
variable {I : Cx} {E : Value → Shared → Prop} {H : MH} {S : St I.Γ H} {env : PySem.Env} {ρ : Env} {Q : Value → Shared → Prop}
theorem kap_two {sc : Scope} {x : Str} (h : sc.names.lookup x = some .cell ∨ sc.names.lookup x = some .free) : kap sc x = 2 := by
  unfold kap; rcases h with h | h <;> rw [h] <;> rfl
theorem kkE {k : Option NameKind} : (kk k = 1 → k = some .local) ∧ (kk k = 2 → k = some .cell ∨ k = some .free) ∧ (kk k = 3 → k = some .globalImplicit) := by
  cases k with
  | none => exact ⟨nofun, nofun, nofun⟩
  | some k =>
    cases k with
    | «local» => exact ⟨fun _ => rfl, nofun, nofun⟩
    | cell => exact ⟨nofun, fun _ => .inl rfl, nofun⟩
    | free => exact ⟨nofun, fun _ => .inr rfl, nofun⟩
    | globalExplicit => exact ⟨nofun, nofun, nofun⟩
    | globalImplicit => exact ⟨nofun, nofun, fun _ => rfl⟩
theorem load_snd (F : FR env ρ S) {x : Nat} {v : V} (hk : (kap env.scope (nm x) == 1 || kap env.scope (nm x) == 2) = true) (h0 : nm x ≠ dot0) (hcd : (nm x == ("__classdict__" : Str)) = false) (e : Env.get ρ x = some v)
    (hQ : ∀ y, S.rel v y → Q y S.s) : wp I (loadName env (nm x)) Q E S.s := by
  rcases Bool.or_eq_true_iff.mp hk with hk | hk
  · have hko := kkE.1 (beq_iff_eq.mp hk)
    exact F.ns.elim fun m x => (x.2 _ v (fun m => nomatch m) hko h0 e).elim fun X q => wpAny_loadName_local F.kind hko x.1 q.1 (hQ _ q.2)
  · have hko := kkE.2.1 (beq_iff_eq.mp hk)
    exact (F.cells _ hko).elim fun c hc => (F.cellv x v c hko hc e).elim fun X q => hko.elim (fun k => wpAny_loadName_cell F.kind k hc q.1 (hQ _ q.2)) fun k => wpAny_loadName_free F.kind k hc q.1 (hQ _ q.2) hcd
theorem global_snd (F : FR env ρ S) {id : Str} {pos : Pos} {v : V} (hk : (kap env.scope id == 3) = true) (hg : gOf id = some v) (hd : (id == ("__debug__" : Str)) = false)
    (hQ : ∀ y, S.rel v y → Q y S.s) : wp I (eval (.Name id pos) env) Q E S.s := by
  refine Name_function_global F.kind (kkE.2.2 (beq_iff_eq.mp hk)) ?_ hd
  obtain ⟨mg, mb, h1, h2, h3⟩ := I.glob
  obtain ⟨X, r, h4⟩ := h3 id v hg
  have h1' : S.s.heap.Ns env.globals mg := by rw [F.globals]; exact h1.keeps S.hr.base
  have h2' : S.s.heap.Ns env.builtins mb := by rw [F.blt]; exact h2.keeps S.hr.base
  exact h4.elim (fun h4 => loadGlobal_global h1' h4 (hQ _ (S.v0 r))) fun h4 => loadGlobal_builtin h1' h4.1 h2' h4.2 (hQ _ (S.v0 r))
end
end Mine
set_option maxRecDepth 100000
set_option autoImplicit false
namespace Mine
open PySem PySem.W PyProof.Rows PySem.Calls PySem.SeqAt
section
variable {Γ : Gam} {H : MH} {S : St Γ H} {β : Type} {K : Kn Γ (β × MH)}
theorem To.v0 {H' : MH} {S' : St Γ H'} (p : To [] S S') {v : V} {y : Value} (r : S.rel v y) : S'.rel v y := p.v (bare_nil _) r
theorem Gp.elim {α : Type} {o : Option α} {P : α → Prop} {C : Prop} (h : Gp o P) (k : ∀ a, o = some a → P a → C) : C := by
  cases o with
  | none => exact False.elim h
  | some a => exact k a rfl h
theorem thenV {r : R V} {k : V → MH → R β} (h : Gd K S (andThen r k)) {Q : Value → Shared → Prop} (c : ∀ v H1 (S1 : St Γ H1) y, To [] S S1 → S1.rel v y → Gd K S1 (k v H1) → Q y S1.s) : Gd (kV Q) S r :=
  (gp_then h).mono fun p h S1 y t q => c p.1 p.2 S1 y t q (Gd.up h t)
theorem thenL {r : R (List V)} {k : List V → MH → R β} (h : Gd K S (andThen r k)) {Q : List Value → Shared → Prop} (c : ∀ v H1 (S1 : St Γ H1) y, To [] S S1 → S1.rels v y → Gd K S1 (k v H1) → Q y S1.s) : Gd (kL Q) S r :=
  (gp_then h).mono fun p h S1 y t q => c p.1 p.2 S1 y t q (Gd.up h t)
theorem thenB {r : R V} {k : Bool → MH → R β} (h : Gd K S (andThen r fun v H1 => (asB v).bind fun b => k b H1)) {Q : Bool → Shared → Prop} (c : ∀ b H1 (S1 : St Γ H1), To [] S S1 → Gd K S1 (k b H1) → Q b S1.s) : Gd (kB Q) S r :=
  (gp_then h).mono fun p h => bindE h fun b e h => ⟨b, e, fun S1 t => c b p.2 S1 t (Gd.up h t)⟩
theorem thenO {r : R Bool} {k : Bool → MH → R β} (h : Gd K S (andThen r k)) {Q : Bool → Shared → Prop} (c : ∀ b H1 (S1 : St Γ H1), To [] S S1 → Gd K S1 (k b H1) → Q b S1.s) : Gd (kO Q) S r :=
  (gp_then h).mono fun p h S1 t => c p.1 p.2 S1 t (Gd.up h t)
end
section
variable {I : Cx} {E : Value → Shared → Prop} {H : MH} {S : St I.Γ H} {env : PySem.Env} {ρ : Env} {Q : Value → Shared → Prop} {pos : Pos}
noncomputable def SpOK (I : Cx) (S : St I.Γ H) (es : List PySem.Expr) (env : PySem.Env) (r : R (List V)) : Prop := ∀ (pos : Pos) (Q : List Value → Shared → Prop) (E : Value → Shared → Prop), Gd (kL Q) S r → wp I (spliced (backTo pos (starEach es env))) Q E S.s
theorem any_ems : ∀ (ms : List ME) (es : List PySem.Expr), (backTo pos (starEach (ems ms es) env)).any (·.1) = false
  | [], _ => rfl
  | m :: ms, es => by
    show (backTo pos (starEach (em m (hd1 es) :: ems ms es.tail) env)).any (·.1) = false
    rw [em_star]; exact any_ems ms es.tail
theorem len_ems : ∀ (ms : List ME) (es : List PySem.Expr), (ems ms es).length = ms.length
  | [], _ => rfl
  | _ :: ms, es => congrArg (· + 1) (len_ems ms es.tail)
theorem args_snd {ms : List ME} {es : List PySem.Expr} (hes : SpOK I S (ems ms es) env (evEs I.C ms ρ H)) {P : Args → Shared → Prop} {f : Value} (h : Gd (kL fun xs => P ⟨xs, []⟩) S (evEs I.C ms ρ H)) : wp I (evalArgs f true (backTo pos (starEach (ems ms es) env)) []) P E S.s := by
  cases ms with
  | nil => exact evalArgs_nil3 (h S [] (.refl S) rfl)
  | cons m ms =>
    have hes := hes pos _ E h
    change wp I (spliced (backTo pos (starEach (em m (hd1 es) :: ems ms es.tail) env))) _ E S.s at hes
    change wp I (evalArgs f true (backTo pos (starEach (em m (hd1 es) :: ems ms es.tail) env)) []) P E S.s
    rw [em_star] at hes ⊢
    exact evalArgs_plain hes
theorem keep_of {f : Nat} {args : List V} {P : V × MH → Prop} (h : Gp (I.C.call f args H) P) : KeepOK I.Γ f := h.elim fun p e _ => (I.csound f args H).2 p e
theorem bi_val (b : BI) : (∃ id, biVal b = .builtin id) ∨ ∃ t, biVal b = .type t := by
  cases b with
  | range => exact .inr ⟨_, rfl⟩
  | int => exact .inr ⟨_, rfl⟩
  | _ => exact .inl ⟨_, rfl⟩
theorem callWith_snd {ms : List ME} {es : List PySem.Expr} {f : V} {xf : Value} (hes : SpOK I S (ems ms es) env (evEs I.C ms ρ H)) (rf : S.rel f xf) (h : Gd (kV Q) S (andThen (evEs I.C ms ρ H) fun vs h2 => applyV I.C f vs h2)) :
    wp I (callWith pos xf [] (backTo pos (starEach (ems ms es) env)) []) Q E S.s := by
  cases f with
  | ref a =>
    cases rf
    exact callWith_of (P := fun h => ∀ b o, I.Γ.h₀.get? b = some o → h.get? b = some o) (by rw [any_ems]; rfl) ((gp_then h).elim fun _ _ h => keep_of h) (args_snd hes (thenL h fun vs H1 S1 xs t r h => ⟨S1.hr.base, CallOK.call r h⟩))
  | bi b =>
    have rf : xf = biVal b := rf
    have g : wp I (evalArgs xf true (backTo pos (starEach (ems ms es) env)) []) (fun a s => wp I (call xf ([] ++ a.pos) a.kw) Q E s) E S.s := args_snd hes (thenL h fun vs H1 S1 xs t r h => rf ▸ builtin_snd r h)
    rcases bi_val b with ⟨id, e⟩ | ⟨id, e⟩
    · rw [rf, e] at g ⊢; exact Calls.callWith_builtin (any_ems ms es) g
    · rw [rf, e] at g ⊢; exact PyProof.Rows.callWith_type (any_ems ms es) g
  | _ => exact ((gp_then h).elim fun _ _ h => h).elim
theorem MthIs.to {H1 : MH} {S1 : St I.Γ H1} (t : To [] S S1) {k : Mth} {f x : Value} (h : MthIs S.μ k f x) : MthIs S1.μ k f x := t.ext.elim fun ν e => by
  have up : ∀ {i a r}, S.μ[i]? = some (a :: r) → S1.μ[i]? = some (a :: r) := fun h => by rw [e.1]; exact getElem?_append_some h
  have up2 : ∀ {i}, (∃ a r, S.μ[i]? = some (a :: r) ∧ x = .ref a) → ∃ a r, S1.μ[i]? = some (a :: r) ∧ x = .ref a := fun h => h.imp fun _ h => h.imp fun _ h => ⟨up h.1, h.2⟩
  cases k with
  | join _ => exact h
  | get _ => exact h
  | append i => exact ⟨h.1, up2 h.2⟩
  | extend i => exact ⟨h.1, up2 h.2⟩
  | pop i => exact ⟨h.1, up2 h.2⟩
  | fn g o => exact ⟨h.1, h.2.imp fun _ h => h.imp fun _ h => h.imp fun _ h => ⟨h.1, up h.2.1, h.2.2⟩⟩
theorem callM_snd {ms : List ME} {es : List PySem.Expr} {k : Mth} {xf xo : Value} (hes : SpOK I S (ems ms es) env (evEs I.C ms ρ H)) (rm : MthIs S.μ k xf xo) (h : Gd (kV Q) S (andThen (evEs I.C ms ρ H) fun vs h2 => applyM I.C k vs h2)) :
    wp I (callWith pos xf [xo] (backTo pos (starEach (ems ms es) env)) []) Q E S.s := by
  have bi : ∀ id, xf = .builtin id → wp I (callWith pos xf [xo] (backTo pos (starEach (ems ms es) env)) []) Q E S.s := fun id e => by
    rw [e] at rm ⊢
    exact Calls.callWith_builtin (any_ems ms es) (args_snd hes (thenL h fun vs H1 S1 xs t r h => applyM_snd (rm.to t) r h))
  cases k with
  | join _ => exact bi _ rm.1
  | get _ => exact bi _ rm.1
  | append _ => exact bi _ rm.1
  | extend _ => exact bi _ rm.1
  | pop _ => exact bi _ rm.1
  | fn g o =>
    have e : xf = .ref g := rm.1
    rw [e] at rm ⊢
    exact callWith_of (P := fun h => ∀ b o, I.Γ.h₀.get? b = some o → h.get? b = some o) (by rw [any_ems]; rfl) ((gp_then h).elim fun _ _ h => keep_of h) (args_snd hes (thenL h fun vs H1 S1 xs t r h => ⟨S1.hr.base, applyM_snd (rm.to t) r h⟩))
theorem em_call (m : ME) (e : PySem.Expr) (args : List PySem.Expr) (h : okFn m = true) : eval (.Call (em m e) args [] pos) env = (eval (em m e) env >>= fun x => callWith pos x [] (backTo pos (starEach args env)) []) := by
  cases m with
  | attr _ _ => cases h
  | c v => rw [em_c]; cases isName e <;> rfl
  | _ => rfl
theorem all_of_any {l : List (Bool × Sem Value)} (h : l.any (·.1) = false) : (l.all fun x => !x.1) = true := by rw [← Bool.not_not (b := l.all _), List.not_all_eq_any_not]; simp only [Bool.not_not, h, Bool.not_false]
theorem meth_snd {m : ME} {e : PySem.Expr} {name : Str} {apos : Pos} {ms : List ME} {es : List PySem.Expr} {s : Shared} (hs : okObj m = true) (hl : (apos.endLine == pos.line) = true) (hn : ms.length < 29)
    (h : wp I (eval (em m e) env) (fun ov s₁ => ∀ pl, wp I (getMethod ov name pl) (fun p s₂ => wp I (callWith pos p.1 p.2 (backTo pos (starEach (ems ms es) env)) []) Q E s₂) E s₁) E s) :
    wp I (eval (.Call (.Attribute (em m e) name apos) (ems ms es) [] pos) env) Q E s := by
  rw [arm_eval_Call, em_base _ _ _ _ _ hs]
  have hform : methodCallForm ((ems ms es).length + ([] : List Keyword).length) (backTo pos (starEach (ems ms es) env)) (backToKw pos (keywordEach [] env)) = true := by
    unfold methodCallForm
    rw [all_of_any (any_ems ms es), len_ems]
    rw [show ([] : List Keyword).length = 0 from rfl, Nat.add_zero]
    exact decide_eq_true (show ms.length + 0 < 30 by lia)
  have hpos : methodCallPos true (em m e) env apos pos = pure pos := by unfold methodCallPos; simp [hl]
  refine wpAny_bind (wpAny_mono h (fun ov s₁ h₁ => ?_) fun _ _ e => e)
  refine wpAny_bind (wpAny_standAt ?_)
  unfold methodCall
  rw [hform]
  unfold calleeOf
  refine wpAny_bind (wpAny_holding (wpAny_mono (h₁ _) (fun p s₂ h₂ => ?_) fun _ _ e => e))
  exact wpAny_bind (wpAny_of_eq hpos h₂)
end
end Mine
set_option maxRecDepth 100000
set_option autoImplicit false
namespace Mine
open PySem PySem.W PyProof.Rows PySem.Calls PySem.SeqAt
section
variable {Γ : Gam} {H : MH} (S : St Γ H)
noncomputable def St.turn (s' : Shared) {a : Addr} (k : Keeps [a] S.s.heap s'.heap) (hb : Bare S.s.heap [a]) (hn : a ∉ S.μ.flatten) (h0 : Γ.h₀.get? a = none) : St Γ H := ⟨s', S.μ, S.hr.keeps k hb fun b m => by rw [List.mem_singleton.mp m]; exact ⟨hn, h0⟩⟩
theorem St.to_turn {s' : Shared} {a : Addr} {k : Keeps [a] S.s.heap s'.heap} {hb : Bare S.s.heap [a]} {hn : a ∉ S.μ.flatten} {h0 : Γ.h₀.get? a = none} (l : ∃ o, s'.heap.get? a = some o) {X : List Addr} (hX : a ∈ X) (hg : s'.gens = S.s.gens := by rfl) (hd : s'.drawn = S.s.drawn := by rfl) (ho : s'.os = S.s.os := by rfl) : To X S (S.turn s' k hb hn h0) :=
  ⟨⟨⟨[], (List.append_nil _).symm, fun _ m => nomatch m⟩, k.mono fun b m => by rw [List.mem_singleton.mp m]; exact List.mem_append_left _ hX⟩, fun b o e => by
    by_cases hba : b = a
    · rw [hba]; exact l
    · exact ⟨o, k b o e fun m => hba (List.mem_singleton.mp m)⟩, hg, hd, ho⟩
theorem SameBut.keepsL {h h' : Heap} {a : Addr} (x : Heap.SameBut a h h') : Keeps [a] h h' := fun b _ e n => (x.2 b fun q => n (List.mem_singleton.mpr q)).trans e
theorem ExtBut.keepsL {h h' : Heap} {a : Addr} (x : Heap.ExtBut a h h') : Keeps [a] h h' := fun b o e n => x b o (fun q => n (List.mem_singleton.mpr q)) e
end
noncomputable def okIt (T : String) : Bool := !(["enumerate", "zip", "dict_itemiterator", "dict_reverseitemiterator", "odict_iterator", "itertools.zip_longest", "itertools.pairwise"].contains T) && !(T == "range")
noncomputable def ItObj (h : Heap) (ia : Addr) : Prop := ∃ o T vs, h.get? ia = some o ∧ o.cls = .type T ∧ o.data = .fields vs ∧ okIt T = true
structure Iter (I : Cx) (src : V) (items : List V) (x : Value) (ia : Addr) where
  P : Nat → Heap → Prop
  obj : ∀ {k h}, P k h → ItObj h ia
  loc : ∀ {k h h'}, P k h → (∀ o, h.get? ia = some o → h'.get? ia = some o) → P k h'
  next : ∀ {H : MH} {S : St I.Γ H} {k : Nat} {Q : Option Value → Shared → Prop} {E : Value → Shared → Prop}, P k S.s.heap → S.rel src x → still src items H = true →
    (∀ v, items[k]? = some v → ∀ h' tk y, P (k + 1) h' → Heap.SameBut ia S.s.heap h' → S.rel v y → Q (some y) { S.s with heap := h', toks := tk }) →
    (items[k]? = none → ∀ h', Heap.ExtBut ia S.s.heap h' → Q none { S.s with heap := h' }) → wp I (pyNext (.ref ia)) Q E S.s
  again : ∀ {k : Nat} {s : Shared} {Q : Value → Shared → Prop} {E : Value → Shared → Prop}, P k s.heap → Q (.ref ia) s → wp I (pyIter (.ref ia)) Q E s
theorem ItObj.bare {h : Heap} {ia : Addr} (x : ItObj h ia) : Bare h [ia] := by
  obtain ⟨o, T, vs, h1, h2, h3, h4⟩ := x
  intro a ha o' ho'
  rw [List.mem_singleton.mp ha, h1] at ho'
  rw [← Option.some.inj ho']
  exact ⟨fun q => q.2.elim fun xs q => q.elim fun n e => (nomatch h3.symm.trans e), fun q => by
    have h5 := notF (andR h4)
    rw [Value.type.inj (h2.symm.trans q.1)] at h5; cases h5⟩
theorem isIter_at {h h' : Heap} {a : Addr} {P : Obj → Prop} (x : ∃ o, h.get? a = some o ∧ P o) (e : ∀ o, h.get? a = some o → h'.get? a = some o) : ∃ o, h'.get? a = some o ∧ P o := x.elim fun o x => ⟨o, e o x.1, x.2⟩
section
variable {I : Cx} {E : Value → Shared → Prop} {H : MH} {S : St I.Γ H}
theorem list_next {ia a : Addr} {vs : List V} {xs : List Value} {k : Nat} {Q : Option Value → Shared → Prop} (hit : S.s.heap.IsListIter ia a k) (hL : S.s.heap.IsList a xs.toArray) (rs : S.rels vs xs)
    (hQ : ∀ v, vs[k]? = some v → ∀ h' tk y, h'.IsListIter ia a (k + 1) → Heap.SameBut ia S.s.heap h' → S.rel v y → Q (some y) { S.s with heap := h', toks := tk }) (hE : vs[k]? = none → ∀ h', Heap.ExtBut ia S.s.heap h' → Q none { S.s with heap := h' }) : wp I (pyNext (.ref ia)) Q E S.s := by
  cases hk : vs[k]? with
  | some v => exact (rs.get hk).elim fun y q => wpAny_pyNext_list_item hit hL (List.getElem?_toArray.trans q.1) fun h' hit' hsb => hQ v hk h' S.s.toks y hit' hsb q.2
  | none => exact wpAny_pyNext_list_end I.room.handled hit hL (List.getElem?_toArray.trans (List.getElem?_eq_none_iff.mpr (rs.length ▸ List.getElem?_eq_none_iff.mp hk))) (hE hk)
noncomputable def iterL (i : Nat) (items : List V) (a ia : Addr) : Iter I (.loc i) items (.ref a) ia where
  P k h := h.IsListIter ia a k
  obj := fun x => x.elim fun o x => ⟨o, _, _, x.1, x.2.1, x.2.2, by decide⟩
  loc := fun x e => isIter_at x e
  next := fun hit r hst hQ hE => r.elim fun _ r => r.elim fun q r => by
    cases r.2
    obtain ⟨xs, n, _, ho, rs, _⟩ := St.list _ (of_decide_eq_true hst) r.1
    exact list_next hit ho.isList rs hQ hE
  again := fun x h => wpAny_pyIter_listiter x h
noncomputable def iterR (l : Nat) (items : List V) (x : Value) (ia : Addr) (e : I.C.clist l = some items) : Iter I (.ref l) items x ia where
  P k h := h.IsListIter ia l k
  obj := fun x => x.elim fun o x => ⟨o, _, _, x.1, x.2.1, x.2.2, by decide⟩
  loc := fun x e => isIter_at x e
  next := fun hit _ _ hQ hE => (St.clist _ I.tabs e).2.elim fun _ q => list_next hit q.1 q.2 hQ hE
  again := fun x h => wpAny_pyIter_listiter x h
noncomputable def iterT (items : List V) (a ia : Addr) : Iter I (.tup items) items (.ref a) ia where
  P k h := h.IsTupleIter ia a k
  obj := fun x => x.elim fun o x => ⟨o, _, _, x.1, x.2.1, x.2.2, by decide⟩
  loc := fun x e => isIter_at x e
  next := fun {H S k Q E} hit r _ hQ hE => r.elim fun b r => r.elim fun xs r => by
    cases r.1
    cases hk : items[k]? with
    | some v => exact (r.2.2.get hk).elim fun y q => wpAny_pyNext_tuple_item hit r.2.1 (List.getElem?_toArray.trans q.1) fun h' hit' hsb => hQ v hk h' S.s.toks y hit' hsb q.2
    | none => exact wpAny_pyNext_tuple_end I.room.handled hit r.2.1 (List.getElem?_toArray.trans (List.getElem?_eq_none_iff.mpr (r.2.2.length ▸ List.getElem?_eq_none_iff.mp hk))) (hE hk)
  again := fun x h => wpAny_pyIter_tupleiter x h
noncomputable def iterS (p : List Nat) (t : Tok) (ia : Addr) : Iter I (.str p) (p.map fun c => .str [c]) (.str ⟨p.toArray⟩ t) ia where
  P k h := h.IsStrIter ia "str_ascii_iterator" ⟨p.toArray⟩ t k
  obj := fun x => x.elim fun o x => ⟨o, _, _, x.1, x.2.1, x.2.2, by decide⟩
  loc := fun x e => isIter_at x e
  next := fun {H S k Q E} hit _ _ hQ hE => by
    cases hk : p[k]? with
    | some c => exact wpAny_pyNext_ascii_item hit (c := c) (List.getElem?_toArray.trans hk) fun h' hit' hsb => hQ (.str [c]) (by rw [List.getElem?_map, hk]; rfl) h' _ _ hit' hsb ⟨(by decide : 1 ≤ top), _, rfl⟩
    | none => exact wpAny_pyNext_ascii_end I.room.handled hit (List.getElem?_toArray.trans hk) (hE (by rw [List.getElem?_map, hk]; rfl))
  again := fun x h => wpAny_pyIter_striter_ascii x h
noncomputable def iterG (m : Int) (x : Value) (ia : Addr) : Iter I (.rng m) ((List.range m.toNat).map fun i => .int (i : Nat)) x ia where
  P k h := IsRangeIter h ia k (m.toNat - k) 1
  obj := fun x => ⟨_, _, _, x, rfl, rfl, by decide⟩
  loc := fun x e => e _ x
  next := fun {H S k Q E} hit _ _ hQ hE => by
    by_cases hk : k < m.toNat
    · refine wpAny_pyNext_range_item hit (by lia) fun h' hit' hsb => hQ (.int k) (by rw [List.getElem?_map, List.getElem?_range hk]; rfl) h' _ _ ?_ hsb ⟨_, rfl⟩
      rwa [show ((m.toNat : Int) - (k : Int) - 1) = ((m.toNat : Int) - ((k + 1 : Nat) : Int)) by lia] at hit'
    · exact wpAny_pyNext_range_end I.room.handled hit (by lia) (hE (by rw [List.getElem?_map, List.getElem?_eq_none (by rw [List.length_range]; lia)]; rfl))
  again := fun x h => wpAny_pyIter_rangeiter x h
noncomputable def IterTo (I : Cx) {H : MH} (S : St I.Γ H) (src : V) (x : Value) (P : List V → Prop) (Q : Value → Shared → Prop) : Prop :=
  ∀ items o (W : Iter I src items x S.s.heap.objs.size), itemsOf I.C src H = some items → W.P 0 (S.s.heap.push o) → P items → Q (.ref S.s.heap.objs.size) { S.s with heap := S.s.heap.push o }
theorem iter_snd {src : V} {x : Value} {P : List V → Prop} {Q : Value → Shared → Prop} (r : S.rel src x) (h : Gp (itemsOf I.C src H) P) (hQ : IterTo I S src x P Q) : wp I (pyIter x) Q E S.s := by
  cases src with
  | tup vs => exact r.elim fun a r => r.elim fun xs r => by cases r.1; exact wpAny_pyIter_tuple r.2.1 (hQ vs _ (iterT vs a _) rfl ⟨_, Heap.get?_push_size _ rfl, rfl, rfl⟩ h)
  | str p =>
    exact r.2.elim fun t e => by
      cases e
      refine ifE h fun hp h' => ?_
      exact wpAny_pyIter_ascii (by rw [Array.all_eq_true'] ; exact fun c hc => List.all_eq_true.mp hp c (List.mem_toArray.mp hc)) (hQ _ _ (iterS p t _) (if_pos hp) ⟨_, Heap.get?_push_size _ rfl, rfl, rfl⟩ h')
  | rng m =>
    exact ifE h fun hm h' => r.elim fun a r => r.elim fun t r => r.elim fun u r => r.elim fun v r => by
      cases r.1
      have hb := small_bd hm
      refine wpAny_pyIter_range r.2 (small_one (by exact Int.natCast_nonneg _) (by exact Int.natCast_nonneg _) (by lia) (by lia)) (hQ _ _ (iterG m _ _) (if_pos hm) ?_ h')
      have : Builtin.Range.rangeSize 0 m 1 = ((m.toNat : Nat) : Int) - 0 := by rw [rangeSize_one]; split <;> (first | lia | omega)
      show Heap.get? _ _ = _
      rw [Heap.get?_push_size _ rfl, this]
      rfl
  | ref l =>
    exact Gp.elim h fun vs e h => by
      cases r
      exact (S.clist I.tabs e).2.elim fun xs q => wpAny_pyIter_list q.1 (hQ vs _ (iterR l vs _ _ e) e ⟨_, Heap.get?_push_size _ rfl, rfl, rfl⟩ h)
  | loc i =>
    exact Gp.elim h fun vs e h => r.elim fun a r => r.elim fun q r => by
      cases r.2
      obtain ⟨xs, n, _, ho, rs, _⟩ := S.list e r.1
      exact wpAny_pyIter_list ho.isList (hQ vs _ (iterL i vs a _) e ⟨_, Heap.get?_push_size _ rfl, rfl, rfl⟩ h)
  | _ => exact False.elim h
theorem owned_snd {s : Shared} {ia : Addr} (it : ItObj s.heap ia) {xs : List Nat} {single : Bool} {tg : PySem.Expr} {y : Value} {Q : Unit → Shared → Prop} (hQ : Q () s) : wp I (letOwnedTupleGo (emT xs single tg) (.ref ia) y) Q E s := by
  cases single with
  | true => exact wpAny_pure hQ
  | false =>
    cases y with
    | ref a =>
      obtain ⟨o, T, vs, h1, h2, h3, h4⟩ := it
      unfold letOwnedTupleGo
      refine wpAny_bind (wpAny_load h1 ?_)
      rw [h2, h3]
      dsimp only
      rw [notF (andL h4), Bool.false_and]
      exact wpAny_pure hQ
    | _ => exact wpAny_pure hQ
end
end Mine
set_option maxRecDepth 100000
set_option autoImplicit false
namespace Mine
open PySem PySem.W PyProof.Rows PySem.Calls PySem.SeqAt
theorem get_put : ∀ (ρ : Env) (x y : Nat) (v : V), Env.get (Env.put ρ x v) y = if x = y then some v else Env.get ρ y
  | [], x, y, v => rfl
  | p :: r, x, y, v => by
    show Env.get (if p.1 = x then (x, v) :: r else p :: Env.put r x v) y = if x = y then some v else (if p.1 = y then some p.2 else Env.get r y)
    by_cases h : p.1 = x
    · rw [if_pos h, h]
      by_cases h2 : x = y
      · rw [if_pos h2]; exact if_pos h2
      · rw [if_neg h2, if_neg h2]; exact if_neg h2
    · rw [if_neg h]
      show (if p.1 = y then some p.2 else Env.get (Env.put r x v) y) = _
      rw [get_put r x y v]
      by_cases h2 : p.1 = y
      · rw [if_pos h2, if_pos h2, if_neg fun e => h (h2.trans e.symm)]
      · rw [if_neg h2, if_neg h2]
theorem get_putE {ρ : Env} {x y : Nat} {v u : V} (h : Env.get (Env.put ρ x v) y = some u) : (x = y ∧ v = u) ∨ (x ≠ y ∧ Env.get ρ y = some u) := by
  rw [get_put] at h
  by_cases e : x = y
  · rw [if_pos e] at h; exact .inl ⟨e, Option.some.inj h⟩
  · rw [if_neg e] at h; exact .inr ⟨e, h⟩
theorem mem_owns {env : PySem.Env} {n : Str} {c : Addr} (e : cellAt env n c) : c ∈ owns env := by
  refine List.mem_cons_of_mem _ (List.mem_map.mpr ⟨(n, c), ?_, rfl⟩)
  unfold cellAt at e
  generalize env.cells = l at e
  induction l with
  | nil => cases e
  | cons p r ih =>
    rw [List.lookup_cons] at e
    cases hq : n == p.1 with
    | true => rw [hq] at e; rw [beq_iff_eq.mp hq, ← Option.some.inj e]; exact .head _
    | false => rw [hq] at e; exact .tail _ (ih e)
noncomputable def StoreIn (env : PySem.Env) (X : List Addr) (y : Nat) : Prop := (env.kindOf (nm y) = some .local ∧ env.locals ∈ X) ∨ (env.kindOf (nm y) = some .cell ∧ (∀ c, cellAt env (nm y) c → c ∈ X) ∧ nm y ≠ nm ice)
section
variable {Γ : Gam} {H : MH} {S : St Γ H} {Z : List Nat} {env : PySem.Env} {ρ : Env}
theorem FRz.apart2 (F : FRz Z env ρ S) {n : Str} {c : Addr} (e : cellAt env n c) : c ≠ env.locals := fun q => F.ns.elim fun m x => x.1.elim fun o x => x.elim fun es x => x.elim fun ep x => (F.alive n c e).elim fun ov y => y.elim fun o' y => by
  have h := y.1.symm.trans (q ▸ x.1)
  rw [Option.some.inj h] at y
  exact nomatch x.2.1.symm.trans y.2
theorem FRz.bareL (F : FRz Z env ρ S) : Bare S.s.heap [env.locals] := fun a ha o ho => F.ns.elim fun m x => ns_plain x.1 o (List.mem_singleton.mp ha ▸ ho)
theorem FRz.bareC (F : FRz Z env ρ S) {n : Str} {c : Addr} (e : cellAt env n c) : Bare S.s.heap [c] := fun a ha o ho => (F.alive n c e).elim fun m x => cell_plain x o (List.mem_singleton.mp ha ▸ ho)
theorem FRz.bare (F : FRz Z env ρ S) : Bare S.s.heap (owns env) := fun a ha o ho => (List.mem_cons.mp ha).elim (fun e => F.bareL a (List.mem_singleton.mpr e) o ho) fun h => (F.mine a h).elim fun n e => F.bareC e a (.head _) o ho
theorem stays {z y : Nat} (h1 : z ∉ Z.filter fun a => a != y) (h2 : y ≠ z) : z ∉ Z := fun m => h1 (List.mem_filter.mpr ⟨m, bne_iff_ne.mpr fun q => h2 q.symm⟩)
theorem bareStay {h' : Heap} {a : Addr} (k : Keeps [a] S.s.heap h') (hb : Bare S.s.heap [a]) {u : V} {z : Value} (r : S.rel u z) : VR h' S.μ u z := r.stay k hb
end
section
variable {I : Cx} {E : Value → Shared → Prop} {H : MH} {S : St I.Γ H} {Z : List Nat} {env : PySem.Env} {ρ ρ' : Env} {X : List Addr}
noncomputable def StTo (S : St I.Γ H) (X : List Addr) (Z : List Nat) (env : PySem.Env) (ρ : Env) (Q : Unit → Shared → Prop) : Prop := ∀ S' : St I.Γ H, To X S S' → FRz Z env ρ S' → Q () S'.s
theorem store_local (F : FRz Z env ρ S) {y : Nat} {v : V} {xv : Value} (hk : env.kindOf (nm y) = some .local) (hin : env.locals ∈ X) (r : S.rel v xv) {Q : Unit → Shared → Prop} (hQ : StTo S X (Z.filter fun z => z != y) env (ρ.put y v) Q) : wp I (storeName env (nm y) xv) Q E S.s :=
  F.ns.elim fun m x => by
    refine wpAny_storeName_local hk x.1 (fun h' hm' hsb => ?_) (by rw [F.kind]; rfl)
    have kk := SameBut.keepsL hsb
    have ne : ∀ {n c}, cellAt env n c → c ∉ [env.locals] := fun h q => F.apart2 h (List.mem_singleton.mp q)
    exact hQ (S.turn _ kk F.bareL F.apart.1 F.apart.2) (S.to_turn (ns_get hm') hin) ⟨F.kind, F.globals, F.blt, ⟨_, hm', fun z u hz h1 h2 h3 => (get_putE h3).elim (fun e => ⟨xv, by rw [e.1]; exact if_pos rfl, e.2 ▸ bareStay kk F.bareL r⟩)
        fun e => (x.2 z u (stays hz e.1) h1 h2 e.2).imp fun X q => ⟨(if_neg fun q => e.1 (nm_inj q).symm).trans q.1, bareStay kk F.bareL q.2⟩⟩, F.cells,
      fun z u c h1 h2 h3 => (get_putE h3).elim (fun e => by rw [← e.1] at h1; exact h1.elim (fun q => nomatch hk.symm.trans q) fun q => nomatch hk.symm.trans q)
        fun e => (F.cellv z u c h1 h2 e.2).imp fun X q => ⟨cell_at q.1 fun o ho => kk _ _ ho (ne h2), bareStay kk F.bareL q.2⟩,
      fun n c h1 => (F.alive n c h1).imp fun ov e => cell_at e fun o ho => kk _ _ ho (ne h1), F.apart, F.apartC, F.one, F.mine⟩
theorem store_cell (F : FRz Z env ρ S) {y : Nat} {v : V} {xv : Value} (hk : env.kindOf (nm y) = some .cell) (hin : ∀ c, cellAt env (nm y) c → c ∈ X) (hice : nm y ≠ nm ice) (r : S.rel v xv) {Q : Unit → Shared → Prop} (hQ : StTo S X (Z.filter fun z => z != y) env (ρ.put y v) Q) : wp I (storeName env (nm y) xv) Q E S.s :=
  (F.cells (nm y) (.inl hk)).elim fun c hc => (F.alive _ c hc).elim fun ov hal => by
    refine wpAny_storeName_cell F.kind hk hc hal fun h' hm' hsb => ?_
    have kk := SameBut.keepsL hsb
    have hb := F.bareC hc
    exact hQ (S.turn _ kk hb (F.apartC _ c hc).1 ((F.apartC _ c hc).2 hice)) (S.to_turn (hm'.elim fun o x => ⟨o, x.1⟩) (hin c hc)) ⟨F.kind, F.globals, F.blt,
      F.ns.imp fun m x => ⟨ns_at x.1 fun o ho => kk _ _ ho fun q => F.apart2 hc (List.mem_singleton.mp q).symm, fun z u hz h1 h2 h3 => (get_putE h3).elim (fun e => by rw [← e.1] at h1; exact nomatch hk.symm.trans h1)
        fun e => (x.2 z u (stays hz e.1) h1 h2 e.2).imp fun X q => ⟨q.1, bareStay kk hb q.2⟩⟩, F.cells,
      fun z u d h1 h2 h3 => (get_putE h3).elim (fun e => ⟨xv, by rw [← e.1] at h2; rw [← Option.some.inj (hc.symm.trans h2)]; exact hm', e.2 ▸ bareStay kk hb r⟩)
        fun e => (F.cellv z u d h1 h2 e.2).imp fun X q => ⟨cell_at q.1 fun o ho => kk _ _ ho fun q => e.1 (nm_inj (F.one _ _ _ hc (List.mem_singleton.mp q ▸ h2))), bareStay kk hb q.2⟩,
      fun n d h1 => by
        by_cases hd : d = c
        · exact ⟨_, hd ▸ hm'⟩
        · exact (F.alive n d h1).imp fun ov e => cell_at e fun o ho => kk _ _ ho fun q => hd (List.mem_singleton.mp q), F.apart, F.apartC, F.one, F.mine⟩
theorem store_snd (F : FRz Z env ρ S) {y : Nat} {v : V} {xv : Value} (hk : StoreIn env X y) (r : S.rel v xv) {Q : Unit → Shared → Prop} (hQ : StTo S X (Z.filter fun z => z != y) env (ρ.put y v) Q) : wp I (storeName env (nm y) xv) Q E S.s :=
  hk.elim (fun h => store_local F h.1 h.2 r hQ) fun h => store_cell F h.1 h.2.1 h.2.2 r hQ
theorem each_emN : ∀ (xs : List Nat) (es : List PySem.Expr), (assignEach (emN xs es) env).length = xs.length ∧ List.findIdx? (·.1) (assignEach (emN xs es) env) = none
  | [], _ => ⟨rfl, rfl⟩
  | x :: xs, es => by
    have ih := each_emN xs es.tail
    refine ⟨congrArg (· + 1) ih.1, ?_⟩
    show List.findIdx? (·.1) ((false, _) :: assignEach (emN xs es.tail) env) = none
    rw [List.findIdx?_cons, ih.2]; rfl
theorem putAll_len : ∀ {xs : List Nat} {vs : List V} {ρ ρ' : Env}, putAll xs vs ρ = some ρ' → xs.length = vs.length
  | [], vs, _, _, h => by cases vs with
    | nil => rfl
    | cons _ _ => cases h
  | x :: xs, vs, ρ, _, h => by cases vs with
    | nil => cases h
    | cons v vs => exact congrArg (· + 1) (putAll_len (xs := xs) (vs := vs) (ρ := ρ.put x v) h)
theorem filter_cons (Z : List Nat) (y : Nat) (xs : List Nat) : (Z.filter fun z => z != y).filter (fun z => !xs.contains z) = Z.filter fun z => !(y :: xs).contains z := by
  rw [List.filter_filter]
  congr 1
  funext z
  rw [List.contains_cons, Bool.not_or, bne, Bool.and_comm]
theorem row_snd : ∀ {xs : List Nat} {es : List PySem.Expr} {vs : List V} {ys : List Value} {Z : List Nat} {ρ : Env} {S : St I.Γ H} {Q : Unit → Shared → Prop},
    (∀ a ∈ X, a ∈ owns env) → (∀ z ∈ xs, StoreIn env X z) → FRz Z env ρ S → S.rels vs ys → Gp (putAll xs vs ρ) (fun ρ' => StTo S X (Z.filter fun z => !xs.contains z) env ρ' Q) → wp I (assignInOrder (List.map (·.2) (assignEach (emN xs es) env)) ys) Q E S.s
  | [], es, vs, ys, Z, ρ, S, Q, hX, hk, F, r, h => by
    cases vs with
    | nil => exact wpAny_pure (h S (.refl S) (by rw [show (fun z => !([] : List Nat).contains z) = fun _ => true from rfl, List.filter_eq_self.mpr fun _ _ => rfl]; exact F))
    | cons _ _ => exact False.elim h
  | y :: xs, es, vs, ys, Z, ρ, S, Q, hX, hk, F, r, h => by
    cases vs with
    | nil => exact False.elim h
    | cons v vs =>
      exact r.elim fun z r => r.elim fun zs r => by
        rw [r.1]
        exact wpAny_bind (wpAny_holding (wpAny_assign_Name (store_snd F (hk y (.head _)) r.2.1 fun S' t F' => row_snd (vs := vs) hX (fun z hz => hk z (.tail _ hz)) F' (t.vs (fun a ha => F.bare a (hX a ha)) r.2.2)
          (h.mono fun ρ' hQ S2 t2 F2 => hQ S2 (t.trans t2) (filter_cons Z y xs ▸ F2)))))
theorem bind_snd {xs : List Nat} {single : Bool} {e : PySem.Expr} {v : V} {y : Value} {Q : Unit → Shared → Prop} (hX : ∀ a ∈ X, a ∈ owns env) (hk : ∀ z ∈ xs, StoreIn env X z) (F : FRz Z env ρ S) (r : S.rel v y)
    (h : Gp (bindVars xs single v ρ) fun ρ' => StTo S X (Z.filter fun z => !xs.contains z) env ρ' Q) : wp I (assign (emT xs single e) env y) Q E S.s := by
  cases single with
  | true =>
    exact mapE h fun x e1 h => by
      have e1 := one_some e1
      subst e1
      exact wpAny_assign_Name (store_snd F (hk x (.head _)) r fun S' t F' => h S' t (by rw [← filter_cons, show (fun z => !([] : List Nat).contains z) = fun _ => true from rfl, List.filter_eq_self.mpr fun _ _ => rfl]; exact F'))
  | false =>
    exact tupE r h fun vs a ys _ ht rs h => by
      have l := each_emN (env := env) xs (kids e)
      refine wpAny_assign_Tuple I.room.handled ht (h.elim fun _ e _ => by rw [l.1, putAll_len e, List.size_toArray, rs.length]) l.2 fun h' he => ?_
      have all : ∀ b o, S.s.heap.get? b = some o → h'.get? b = some o := fun b o e => he b o (fun q => by rw [q, size_none] at e; cases e) e
      have t := S.to_grow (s' := { S.s with heap := h' }) (X := []) all
      exact row_snd (S := S.grow _ all) hX hk (F.to t) (t.vs (bare_nil _) rs) (h.mono fun ρ' hQ S2 t2 F2 => hQ S2 ((t.mono fun _ m => nomatch m).trans t2) F2)
end
end Mine
set_option maxRecDepth 100000
set_option autoImplicit false
namespace Mine
open PySem PySem.W PyProof.Rows PySem.Calls PySem.SeqAt
theorem lookup_mem {β : Type} {l : List (Str × β)} {x : Str} {b : β} (h : l.lookup x = some b) : (x, b) ∈ l := by
  induction l with
  | nil => cases h
  | cons p r ih =>
    rw [List.lookup_cons] at h
    cases hq : x == p.1 with
    | true => rw [hq] at h; rw [beq_iff_eq.mp hq, ← Option.some.inj h]; exact .head _
    | false => rw [hq] at h; exact .tail _ (ih h)
theorem mem_lookup {β : Type} {l : List (Str × β)} {x : Str} {b : β} (h : (x, b) ∈ l) : ∃ c, l.lookup x = some c := by
  induction l with
  | nil => cases h
  | cons p r ih =>
    rw [List.lookup_cons]
    cases hq : x == p.1 with
    | true => exact ⟨_, rfl⟩
    | false =>
      rcases List.mem_cons.mp h with e | e
      · rw [← e, beq_self_eq_true] at hq; cases hq
      · exact ih e
noncomputable def freeStep (env : PySem.Env) (x : Str × NameKind) (r : List (Str × Addr)) : Sem (ForInStep (List (Str × Addr))) := if (x.2 == NameKind.free) = true then (do let a ← cellOf env x.1; pure (ForInStep.yield ((x.1, a) :: r))) else pure (ForInStep.yield r)
theorem closure_go {env : PySem.Env} : ∀ (names : List (Str × NameKind)) (acc : List (Str × Addr)), (∀ y ∈ names, y.2 = .free → ∃ c, cellAt env y.1 c) →
    ∃ cl, (forIn names acc (freeStep env) : Sem (List (Str × Addr))) = pure (cl ++ acc) ∧ (∀ p ∈ cl, cellAt env p.1 p.2 ∧ (p.1, NameKind.free) ∈ names) ∧ ∀ y ∈ names, y.2 = .free → ∃ c, (y.1, c) ∈ cl
  | [], acc, _ => ⟨[], rfl, (fun _ m => nomatch m), fun _ m => (nomatch m)⟩
  | (x, k) :: r, acc, h => by
    rw [List.forIn_cons]
    unfold freeStep
    cases hk : k == NameKind.free with
    | true =>
      have hk := beq_iff_eq.mp hk
      subst hk
      obtain ⟨c, hc⟩ := h (x, .free) (.head _) rfl
      obtain ⟨cl, e1, e2, e3⟩ := closure_go r ((x, c) :: acc) fun y hy => h y (.tail _ hy)
      refine ⟨cl ++ [(x, c)], ?_, fun p hp => (List.mem_append.mp hp).elim (fun hp => ⟨(e2 p hp).1, .tail _ (e2 p hp).2⟩) fun hp => by rw [List.mem_singleton.mp hp]; exact ⟨hc, .head _⟩, fun y hy hf => ?_⟩
      · have hcell : cellOf env x = pure c := by unfold cellOf; rw [show env.cells.lookup x = some c from hc]
        rw [if_pos rfl, hcell, List.append_assoc]
        exact e1
      · rcases List.mem_cons.mp hy with e | hy
        · rw [e]; exact ⟨c, List.mem_append_right _ (.head _)⟩
        · exact (e3 y hy hf).imp fun _ h' => List.mem_append_left _ h'
    | false =>
      obtain ⟨cl, e1, e2, e3⟩ := closure_go r acc fun y hy => h y (.tail _ hy)
      refine ⟨cl, e1, fun p hp => ⟨(e2 p hp).1, .tail _ (e2 p hp).2⟩, fun y hy hf => ?_⟩
      rcases List.mem_cons.mp hy with e | hy
      · rw [e] at hf; rw [show k = .free from hf] at hk; cases hk
      · exact e3 y hy hf
noncomputable def Cl (env : PySem.Env) (names : List (Str × NameKind)) (cl : List (Str × Addr)) : Prop := (∀ x c, cl.lookup x = some c → cellAt env x c ∧ (x, NameKind.free) ∈ names) ∧ (∀ x, (x, NameKind.free) ∈ names → ∃ c, cl.lookup x = some c) ∧ ∀ c ∈ cl.map (·.2), ∃ x, cl.lookup x = some c
theorem closure_is {sc : Scope} {env : PySem.Env} (hf : ∀ y ∈ sc.names, y.2 = .free → ∃ c, cellAt env y.1 c) : ∃ cl, closureFor sc env = pure cl ∧ Cl env sc.names cl := by
  obtain ⟨cl, e1, e2, e3⟩ := closure_go (env := env) sc.names [] hf
  rw [List.append_nil] at e1
  refine ⟨cl, congrArg (· >>= fun r => pure r) e1, fun x c h => e2 _ (lookup_mem h), fun x h => (e3 _ h rfl).elim fun _ h' => mem_lookup h', fun c h => ?_⟩
  obtain ⟨p, hp, rfl⟩ := List.mem_map.mp h
  obtain ⟨c, hc⟩ := mem_lookup hp
  have h1 : cellAt env p.1 c := (e2 _ (lookup_mem hc)).1
  have h2 : cellAt env p.1 p.2 := (e2 _ hp).1
  exact ⟨p.1, hc.trans (h1.symm.trans h2)⟩
theorem kap_relabel (sc : Scope) (env : PySem.Env) : kap (relabel sc env) = kap sc := by
  funext x
  unfold kap relabel
  generalize sc.names = l
  induction l with
  | nil => rfl
  | cons p r ih =>
    obtain ⟨a, k⟩ := p
    rw [List.map_cons, List.lookup_cons]
    cases hc : (k == NameKind.free && env.scope.kind == .function && env.kindOf a == some .cell) with
    | true =>
      rw [if_pos rfl, List.lookup_cons]
      cases x == a with
      | true => rw [beq_iff_eq.mp (andL (andL hc))]; rfl
      | false => exact ih
    | false =>
      rw [if_neg nofun, List.lookup_cons]
      cases x == a with
      | true => rfl
      | false => exact ih
structure ScOK (κ : Str → Nat) (sc : Scope) (tgt : List Nat) : Prop where
  kind : sc.kind = .function
  loc : ∀ y ∈ sc.names, y.2 = .local → sc.names.lookup y.1 = some .local ∧ (y.1 = dot0 ∨ ∃ z ∈ tgt, y.1 = nm z)
  nocell : ∀ y ∈ sc.names, y.2 ≠ .cell
  free : ∀ y ∈ sc.names, y.2 = .free → κ y.1 = 2
  tgt : ∀ z ∈ tgt, sc.names.lookup (nm z) = some .local
theorem scE {κ : Str → Nat} {sc : Scope} {tgt : List Nat} (h : okSc κ sc tgt = true) : ScOK κ sc tgt := by
  have h := andL h
  have ht := List.all_eq_true.mp (andR h)
  have hn := List.all_eq_true.mp (andR (andL h))
  refine ⟨beq_iff_eq.mp (andL (andL h)), fun y hy e => ?_, fun y hy e => ?_, fun y hy e => ?_, fun z hz => kkE.1 (beq_iff_eq.mp (ht z hz))⟩
  · have := hn y hy
    rw [e] at this
    exact ⟨kkE.1 (beq_iff_eq.mp (andL this)), (Bool.or_eq_true_iff.mp (andR this)).imp (beq_iff_eq.mp ·) fun h => (List.any_eq_true.mp h).imp fun z q => ⟨q.1, beq_iff_eq.mp q.2⟩⟩
  · have := hn y hy
    rw [e] at this; cases this
  · have := hn y hy
    rw [e] at this
    exact beq_iff_eq.mp this
section
variable {Γ : Gam} {H : MH} {S : St Γ H} {env : PySem.Env} {ρ ρ' : Env} {sc : Scope} {tgt : List Nat} {cl : List (Str × Addr)} {Cc : Addr}
theorem comp_local (h : ScOK (kap env.scope) sc tgt) {x : Nat} (h1 : (compEnvC sc cl Cc env).kindOf (nm x) = some .local) (h2 : nm x ≠ dot0) : x ∈ tgt := by
  have h3 : kap (relabel sc env) (nm x) = 1 := congrArg kk h1
  rw [kap_relabel] at h3
  exact (h.loc _ (lookup_mem (kkE.1 h3)) rfl).2.elim (fun e => absurd e h2) fun ⟨z, hz, e⟩ => nm_inj e ▸ hz
theorem comp_tgt (h : ScOK (kap env.scope) sc tgt) {z : Nat} (hz : z ∈ tgt) : (compEnvC sc cl Cc env).kindOf (nm z) = some .local := lookup_relabel_local (h.tgt z hz)
theorem compFrame (F : FR env ρ S) (h : ScOK (kap env.scope) sc tgt) (c : Cl env sc.names cl) {m : Str → Option Value} (hm : S.s.heap.Ns Cc m) (hC : Cc ∉ S.μ.flatten) (h0 : Γ.h₀.get? Cc = none) : FRz tgt (compEnvC sc cl Cc env) ρ S := by
  have two : ∀ x, celled (compEnvC sc cl Cc env) x → (x, NameKind.free) ∈ sc.names := fun x hx => by
    have h1 : kap (relabel sc env) x = 2 := kap_two hx
    rw [kap_relabel] at h1
    exact (kkE.2.1 h1).elim (fun h2 => absurd rfl (h.nocell _ (lookup_mem h2))) lookup_mem
  exact ⟨h.kind, F.globals, F.blt, ⟨m, hm, fun x v hz h1 h2 _ => absurd (comp_local h h1 h2) hz⟩, fun x hx => c.2.1 x (two x hx), fun x v d h1 h2 h3 => F.cellv x v d (kkE.2.1 (h.free _ (two _ h1) rfl)) (c.1 _ d h2).1 h3,
    fun x d h1 => F.alive x d (c.1 x d h1).1, ⟨hC, h0⟩, fun x d h1 => F.apartC x d (c.1 x d h1).1, fun x x' d h1 h2 => F.one x x' d (c.1 x d h1).1 (c.1 x' d h2).1, c.2.2⟩
theorem FRz.back {cenv : PySem.Env} (F : FRz [] cenv ρ' S) (hl : ∀ x, cenv.kindOf (nm x) = some .local → nm x ≠ dot0 → x ∈ tgt) (ho : ∀ x, x ∉ tgt → Env.get ρ' x = Env.get ρ x) (ht : ∀ x ∈ tgt, cenv.kindOf (nm x) = some .local) : FRz tgt cenv ρ S :=
  ⟨F.kind, F.globals, F.blt, F.ns.imp fun m x => ⟨x.1, fun y v hz h1 h2 _ => absurd (hl y h1 h2) hz⟩, F.cells, fun x v c h1 h2 h3 => F.cellv x v c h1 h2 ((ho x fun hx => by
    have := ht x hx
    exact h1.elim (fun q => nomatch this.symm.trans q) fun q => nomatch this.symm.trans q).trans h3), F.alive, F.apart, F.apartC, F.one, F.mine⟩
theorem put_other {x y : Nat} {v : V} (h : x ≠ y) : Env.get (Env.put ρ y v) x = Env.get ρ x := by rw [get_put, if_neg fun e => h e.symm]
theorem putAll_other : ∀ {xs : List Nat} {vs : List V} {ρ ρ' : Env} {x : Nat}, putAll xs vs ρ = some ρ' → x ∉ xs → Env.get ρ' x = Env.get ρ x
  | [], vs, _, _, _, h, _ => by cases vs with
    | nil => rw [Option.some.inj h]
    | cons _ _ => cases h
  | y :: xs, vs, ρ, ρ', x, h, hx => by cases vs with
    | nil => cases h
    | cons v vs => exact (putAll_other (xs := xs) (vs := vs) h fun m => hx (.tail _ m)).trans (put_other fun e => hx (e ▸ .head _))
theorem bindVars_other {xs : List Nat} {single : Bool} {v : V} {x : Nat} (h : bindVars xs single v ρ = some ρ') (hx : x ∉ xs) : Env.get ρ' x = Env.get ρ x := by
  cases single with
  | true =>
    obtain ⟨y, hy, e⟩ := Option.map_eq_some_iff.mp h
    rw [← e]
    exact put_other fun q => hx (by rw [one_some hy, q]; exact .head _)
  | false =>
    obtain ⟨vs, _, e⟩ := bn_some h
    exact putAll_other e hx
end
end Mine
set_option maxRecDepth 100000
set_option autoImplicit false
namespace Mine
open PySem PySem.W PyProof.Rows PySem.Calls PySem.SeqAt
section
variable {I : Cx} {H0 H H' : MH} {S0 : St I.Γ H0} {S : St I.Γ H} {S' : St I.Γ H'} {src : V} {items : List V} {x : Value} {ia : Addr} {W : Iter I src items x ia} {Y : List Addr} {env : PySem.Env} {Z Z' : List Nat} {ρ ρ' : Env} {k : Nat}
structure LC (I : Cx) {H0 : MH} (S0 : St I.Γ H0) (ia : Addr) (Y : List Addr) (env : PySem.Env) : Prop where
  dead : S0.s.heap.get? ia = none
  own : ∀ a ∈ Y, a ∈ owns env
  ne : ia ∉ owns env
structure LI {H0 H : MH} (S0 : St I.Γ H0) (W : Iter I src items x ia) (Y : List Addr) (env : PySem.Env) (Z : List Nat) (ρ : Env) (k : Nat) (S : St I.Γ H) : Prop where
  to : To (ia :: Y) S0 S
  it : W.P k S.s.heap
  out : ia ∉ S.μ.flatten
  fr : FRz Z env ρ S
  rel : S.rel src x
theorem ItObj.live {h : Heap} {ia : Addr} (x : ItObj h ia) : ∃ o, h.get? ia = some o := x.elim fun o x => x.elim fun _ x => x.elim fun _ x => ⟨o, x.1⟩
theorem LI.step (L : LC I S0 ia Y env) (h : LI S0 W Y env Z ρ k S) (t : To Y S S') (F : FRz Z' env ρ' S') : LI S0 W Y env Z' ρ' k S' :=
  have hY : Bare S.s.heap Y := fun a ha => h.fr.bare a (L.own a ha)
  ⟨h.to.trans (t.mono fun _ m => .tail _ m), W.loc h.it fun o e => t.keeps _ o e fun m => (List.mem_append.mp m).elim (fun m => L.ne (L.own _ m)) h.out, t.toTk.out h.out (W.obj h.it).live, F, t.v hY h.rel⟩
theorem LI.step0 (L : LC I S0 ia Y env) (h : LI S0 W Y env Z ρ k S) (t : To [] S S') : LI S0 W Y env Z ρ k S' := h.step L (t.mono fun _ m => nomatch m) (h.fr.to t)
theorem St.dead0 {Γ : Gam} {H : MH} (S : St Γ H) {a : Addr} (h : S.s.heap.get? a = none) : Γ.h₀.get? a = none := dead_of (fun b o e => ⟨o, S.hr.base b o e⟩) h
theorem LC.h0 (L : LC I S0 ia Y env) : I.Γ.h₀.get? ia = none := S0.dead0 L.dead
theorem Tk.dead {Γ : Gam} {H H' : MH} {S : St Γ H} {S' : St Γ H'} {X : List Addr} (t : Tk X S S') (h : ∀ a ∈ X, S.s.heap.get? a = none) : Tk [] S S' := ⟨t.ext, fun b o e n => t.keeps b o e fun m => (List.mem_append.mp m).elim (fun m => nomatch (h b m).symm.trans e) n⟩
theorem To.beside {Γ : Gam} {H H' : MH} {S : St Γ H} {S' : St Γ H'} {X : List Addr} (t : To X S S') {a : Addr} {h' : Heap} (hd : S.s.heap.get? a = none) (hb : Bare S'.s.heap [a]) (hn : a ∉ S'.μ.flatten) (hs : Heap.SameBut a S'.s.heap h') : To X S (S'.turn { S'.s with heap := h' } (SameBut.keepsL hs) hb hn (S.dead0 hd)) :=
  have ne : ∀ {b o}, S.s.heap.get? b = some o → b ∉ [a] := fun e m => by rw [List.mem_singleton.mp m, hd] at e; cases e
  ⟨⟨t.ext, fun b o e hn => SameBut.keepsL hs b o (t.keeps b o e hn) (ne e)⟩, fun b o e => (t.live b o e).imp fun o' q => SameBut.keepsL hs b o' q (ne e), t.gens, t.drawn, t.os⟩
theorem ns_bare {h : Heap} {a : Addr} {m : Str → Option Value} (x : h.Ns a m) : Bare h [a] := fun b hb o e => ns_plain x o (List.mem_singleton.mp hb ▸ e)
theorem LI.next (L : LC I S0 ia Y env) (h : LI S0 W Y env Z ρ k S) (hs : still src items H = true) {E : Value → Shared → Prop} {Q : Option Value → Shared → Prop}
    (hN : ∀ v, items[k]? = some v → ∀ (S' : St I.Γ H) y, LI S0 W Y env Z ρ (k + 1) S' → S'.rel v y → (∀ u z, S.rel u z → S'.rel u z) → Q (some y) S'.s)
    (hE : items[k]? = none → ∀ S' : St I.Γ H, Tk Y S0 S' → (∀ b o, S0.s.heap.get? b = some o → ∃ o', S'.s.heap.get? b = some o') → S'.s.gens = S0.s.gens → S'.s.drawn = S0.s.drawn → S'.s.os = S0.s.os → FRz Z env ρ S' → (∀ u z, S.rel u z → S'.rel u z) → Q none S'.s) : wp I (pyNext (.ref ia)) Q E S.s := by
  have hb := (W.obj h.it).bare
  have nL : env.locals ∉ [ia] := fun m => L.ne (List.mem_singleton.mp m ▸ .head _)
  have nC : ∀ n c, cellAt env n c → c ∉ [ia] := fun n c e m => L.ne (List.mem_singleton.mp m ▸ mem_owns e)
  refine W.next h.it h.rel hs (fun v hv h' tk y hp hsb r => ?_) fun hn h' he => ?_
  · have kk := SameBut.keepsL hsb
    have t : To [ia] S (S.turn { S.s with heap := h', toks := tk } kk hb h.out L.h0) := S.to_turn (W.obj hp).live (.head _)
    exact hN v hv _ y ⟨h.to.trans (t.mono fun a m => List.mem_singleton.mp m ▸ .head _), hp, h.out, h.fr.toX t.toTk hb nL nC, t.v hb h.rel⟩ (t.v hb r) fun _ _ => t.v hb
  · have kk := ExtBut.keepsL he
    have ne : ∀ {b o}, S0.s.heap.get? b = some o → b ∉ [ia] := fun e m => by rw [List.mem_singleton.mp m, L.dead] at e; cases e
    have t : Tk [ia] S (S.turn { S.s with heap := h' } kk hb h.out L.h0) := ⟨⟨[], (List.append_nil _).symm, fun _ m => nomatch m⟩, kk.mono fun a m => List.mem_append_left _ m⟩
    exact hE hn (S.turn { S.s with heap := h' } kk hb h.out L.h0) ⟨h.to.ext, fun b o e hn => kk b o (h.to.keeps b o e fun m => (List.mem_append.mp m).elim (fun m => (List.mem_cons.mp m).elim (fun q => ne e (List.mem_singleton.mpr q)) fun m => hn (List.mem_append_left _ m)) fun m => hn (List.mem_append_right _ m)) (ne e)⟩
      (fun b o e => (h.to.live b o e).imp fun o' q => kk b o' q (ne e)) h.to.gens h.to.drawn h.to.os (h.fr.toX t hb nL nC) fun _ _ => t.v hb
theorem cnt_on {n k l : Nat} (h : n + k = l + 1) (h2 : k < l) : n - 1 < n ∧ n - 1 + (k + 1) = l + 1 := by lia
theorem drop_item {l : List V} {k : Nat} {v : V} (h : l[k]? = some v) : l.drop k = v :: l.drop (k + 1) ∧ k < l.length := by
  obtain ⟨hlt, e⟩ := List.getElem?_eq_some_iff.mp h
  exact ⟨by rw [List.drop_eq_getElem_cons hlt, e], hlt⟩
end
noncomputable def tests (fs : List PySem.Expr) (env : PySem.Env) : Sem Bool := forIn fs true fun c r => if r = true then do let ok ← PySem.isTrue c env (eval c env); pure (ForInStep.yield ok) else pure (ForInStep.yield r)
section
variable (M : Model) (A : Around) (E : Value → Shared → Prop) (elt target : PySem.Expr) (ifs : List PySem.Expr) (it acc : Value) (env : PySem.Env) (R : Shared → Prop) (J : Shared → Prop)
noncomputable def cq4 (x : Value) (s : Shared) : Prop := wpAny M A (call (.builtin "list.append") [acc, x]) (fun _ s => J s) E s
noncomputable def cq3 (ok : Bool) (s : Shared) : Prop := if ok = true then wpAny M A (eval elt env) (cq4 M A E acc J) E s else J s
noncomputable def cq2 (_ : Unit) (s : Shared) : Prop := wpAny M A (tests ifs env) (cq3 M A E elt acc env J) E s
noncomputable def cq1 (v : Value) (_ : Unit) (s : Shared) : Prop := wpAny M A (assign target env v) (cq2 M A E elt ifs acc env J) E s
noncomputable def cq0 (r : Option Value) (s : Shared) : Prop := match r with
  | none => R s
  | some v => wpAny M A (letOwnedTupleGo target it v) (cq1 M A E elt target ifs acc env J v) E s
end
section
variable {prog : Program} {w : World} {A : Around}
theorem comp_loop {R : Result → Shared → Prop} {s : Shared} {elt target iter : PySem.Expr} {ifs : List PySem.Expr} {scope : Scope} {pos : Pos} {it acc : Value} {env : PySem.Env} (J : Nat → Shared → Prop)
    (turn : ∀ n s, J n s → wpAny (model prog w) A (pyNext it) (cq0 (model prog w) A (notedBy (model prog w) A env fun e s' => R (.error e) s') elt target ifs it acc env (R (.ok .next)) fun s => ∃ m, m < n ∧ J m s) (notedBy (model prog w) A env fun e s' => R (.error e) s') s)
    (n : Nat) (h : J n s) : codeAny (model prog w) A (.compLoop (.ListComp elt [⟨target, iter, ifs, 0⟩] scope pos) 0 it acc env) R s := by
  refine codeAny_loop rfl J (fun n s hI => ?_) n h
  show wpAny _ A ((compTurn (.ListComp elt [⟨target, iter, ifs, 0⟩] scope pos) 0 it acc env).onRaise (fun x => do noteFrame x env; theTreesLotGoes x)) _ _ s
  refine wpAny_noted ?_
  rw [compTurn_list]
  refine wpAny_bind (wpAny_standAt (wpAny_bind (wpAny_mono (turn n s hI) (fun r s₁ h₁ => ?_) fun _ _ h' => h')))
  cases r with
  | none => exact wpAny_pure h₁
  | some v =>
    refine wpAny_bind (wpAny_mono h₁ (fun _ s₁' h₁' => ?_) fun _ _ h' => h')
    refine wpAny_bind (wpAny_mono h₁' (fun _ s₂ h₂ => wpAny_bind (wpAny_mono h₂ (fun ok s₃ h₃ => ?_) fun _ _ h' => h')) fun _ _ h' => h')
    cases ok with
    | false => exact wpAny_pure ⟨rfl, h₃⟩
    | true =>
      exact wpAny_bind (wpAny_bind (wpAny_mono h₃ (fun x s₄ h₄ => wpAny_bind (wpAny_mono h₄ (fun _ s₅ h₅ => wpAny_pure (wpAny_pure ⟨rfl, h₅⟩)) fun _ _ h' => h')) fun _ _ h' => h'))
end
end Mine
set_option maxRecDepth 100000
set_option autoImplicit false
namespace Mine
open PySem PySem.W PyProof.Rows PySem.Calls PySem.SeqAt
theorem Gp.imp {α : Type} {o : Option α} {P P' : α → Prop} (h : Gp o P) (k : ∀ a, o = some a → P a → P' a) : Gp o P' := by
  cases o with
  | none => exact h
  | some a => exact k a rfl h
noncomputable def kC {Γ : Gam} {α : Type} (P : α → Prop) : Kn Γ α := ⟨fun _ a => P a, fun _ h => h⟩
noncomputable def compT (tgt : List Nat) (one : Bool) (ρ : Env) (gi : Env → MH → R Bool) (ge : Env → MH → R V) (v : V) (h2 : MH) : R (Option V) := (bindVars tgt one v ρ).bind fun r' =>
  andThen (gi r' h2) fun ok h3 => if ok then andThen (ge r' h3) fun x h4 => some (some x, h4) else some (none, h3)
theorem filter_self (tgt : List Nat) : tgt.filter (fun z => !tgt.contains z) = [] := List.filter_eq_nil_iff.mpr fun z hz e => by rw [List.contains_iff_mem.mpr hz] at e; cases e
section
variable {I : Cx} {H0 : MH} {S0 : St I.Γ H0} {src : V} {items : List V} {x : Value} {ia : Addr} (W : Iter I src items x ia) {cenv : PySem.Env} {ρ : Env} {tgt : List Nat} {one : Bool} {acc : Nat} {D : Addr} {gi : Env → MH → R Bool} {ge : Env → MH → R V} {Pf : MH → Prop}
variable (S0 cenv ρ tgt one acc D gi ge Pf) in
structure CL {H : MH} (n k : Nat) (S : St I.Γ H) : Prop where
  cnt : n + k = items.length + 1
  go : Gp (compGo src items acc (compT tgt one ρ gi ge) (items.drop k) H) Pf
  li : LI S0 W [cenv.locals] cenv tgt ρ k S
  rD : S.rel (.loc acc) (.ref D)
variable (S0 cenv ρ tgt one acc D gi ge Pf) in
noncomputable def CJ (n : Nat) (s : Shared) : Prop := ∃ (k : Nat) (H : MH) (S : St I.Γ H), s = S.s ∧ CL S0 W cenv ρ tgt one acc D gi ge Pf n k S
structure CE (I : Cx) (cenv : PySem.Env) (tgt : List Nat) (fs : List PySem.Expr) (el : PySem.Expr) (gi : Env → MH → R Bool) (ge : Env → MH → R V) : Prop where
  ifs : ∀ {ρ' : Env} {H : MH} {S : St I.Γ H} {Q : Bool → Shared → Prop} {E : Value → Shared → Prop}, FR cenv ρ' S → Gd (kO Q) S (gi ρ' H) → wp I (tests fs cenv) Q E S.s
  elt : ∀ {ρ' : Env} {H : MH} {S : St I.Γ H} {Q : Value → Shared → Prop} {E : Value → Shared → Prop}, FR cenv ρ' S → Gd (kV Q) S (ge ρ' H) → wp I (eval el cenv) Q E S.s
  loc : ∀ x, cenv.kindOf (nm x) = some .local → nm x ≠ dot0 → x ∈ tgt
  tgt : ∀ z ∈ tgt, cenv.kindOf (nm z) = some .local
theorem compGo_still {f : V → MH → R (Option V)} {l : List V} {H : MH} (h : Gp (compGo src items acc f l H) Pf) : still src items H = true := by
  cases l with
  | nil => exact ifE h fun e _ => e
  | cons v r => exact ifE h fun e _ => e
variable {W}
theorem CL.on {H H1 : MH} {S : St I.Γ H} {S1 : St I.Γ H1} {n k : Nat} {ρ' : Env} {v : V} {fs : List PySem.Expr} {el : PySem.Expr} (c : CL S0 W cenv ρ tgt one acc D gi ge Pf n k S) (C : CE I cenv tgt fs el gi ge) (hv : items[k]? = some v) (hb : bindVars tgt one v ρ = some ρ')
    (li : LI S0 W [cenv.locals] cenv [] ρ' (k + 1) S1) (rD : S1.rel (.loc acc) (.ref D)) (h : Gp (compGo src items acc (compT tgt one ρ gi ge) (items.drop (k + 1)) H1) Pf) : ∃ m, m < n ∧ CJ S0 W cenv ρ tgt one acc D gi ge Pf m S1.s :=
  have h1 := cnt_on c.cnt (drop_item hv).2
  ⟨n - 1, h1.1, k + 1, H1, S1, rfl, h1.2, h, ⟨li.to, li.it, li.out, li.fr.back C.loc (fun _ hx => bindVars_other hb hx) C.tgt, li.rel⟩, rD⟩
theorem comp_turn {E : Value → Shared → Prop} {R : Shared → Prop} {fs : List PySem.Expr} {el tg : PySem.Expr} {n : Nat} {s : Shared} (L : LC I S0 ia [cenv.locals] cenv) (C : CE I cenv tgt fs el gi ge) (hJ : CJ S0 W cenv ρ tgt one acc D gi ge Pf n s)
    (hR : ∀ {H : MH} (S : St I.Γ H), Pf H → Tk [cenv.locals] S0 S → (∀ b o, S0.s.heap.get? b = some o → ∃ o', S.s.heap.get? b = some o') → S.s.gens = S0.s.gens → S.s.drawn = S0.s.drawn → S.s.os = S0.s.os → S.rel (.loc acc) (.ref D) → FRz tgt cenv ρ S → R S.s) :
    wp I (pyNext (.ref ia)) (cq0 (model I.Γ.prog I.Γ.w) I.A E el (emT tgt one tg) fs (.ref ia) (.ref D) cenv R fun s => ∃ m, m < n ∧ CJ S0 W cenv ρ tgt one acc D gi ge Pf m s) E s :=
  hJ.elim fun k hJ => hJ.elim fun H hJ => hJ.elim fun S hJ => by
    have c := hJ.2
    rw [hJ.1]
    refine c.li.next L (compGo_still c.go) (fun v hv S1 y li r up => ?_) fun hn S1 t lv g d o F up => ?_
    · have go := c.go
      rw [(drop_item hv).1] at go
      refine owned_snd (W.obj li.it) (ifE go fun _ go => ?_)
      have rD1 : S1.rel (.loc acc) (.ref D) := up _ _ c.rD
      refine bind_snd (X := [cenv.locals]) L.own (fun z hz => .inl ⟨C.tgt z hz, .head _⟩) li.fr r ((gp_bind (gp_bind go)).imp fun ρ' hb h S2 t2 F2 => ?_)
      rw [filter_self] at F2
      have li2 := li.step L t2 F2
      have rD2 := t2.v (fun a ha => li.fr.bare a (L.own a ha)) rD1
      refine C.ifs F2 (thenO (K := kC _) h fun ok H3 S3 t3 h => ?_)
      have li3 := li2.step0 L t3
      have rD3 := t3.v0 rD2
      cases ok with
      | false => exact c.on C hv hb li3 rD3 h
      | true => exact C.elt li3.fr (thenV (K := kC _) h fun u H4 S4 z t4 rz h => (t4.v0 rD3).elim fun a q => q.elim fun r q => by
          cases q.2
          exact push_snd q.1 rz ((gp_bind h).mono fun H5 h5 S5 t5 => c.on C hv hb ((li3.step0 L t4).step0 L t5) (t5.v0 (t4.v0 rD3)) h5))
    · have go := c.go
      rw [List.drop_eq_nil_of_le (List.getElem?_eq_none_iff.mp hn)] at go
      exact ifE go fun _ h => hR S1 h t lv g d o (up _ _ c.rD) F
noncomputable def CompTo {H : MH} (S : St I.Γ H) (E : Value → Shared → Prop) (use : Option (Value → Sem Unit)) (Q : Value → Shared → Prop) (Pf : V × MH → Prop) : Prop :=
  ∀ (p : V × MH) (S' : St I.Γ p.2) (D Cc : Addr), Pf p → To [] S S' → S'.rel p.1 (.ref D) → S.s.heap.get? Cc = none → Cc ∉ S'.μ.flatten → (∃ m, S'.s.heap.Ns Cc m) → compPost (model I.Γ.prog I.Γ.w) I.A E use Q (.ref D) Cc (.ok .next) S'.s
theorem comp_run {E : Value → Shared → Prop} {H H1 H3 : MH} {S : St I.Γ H} {S1 : St I.Γ H1} {S3 : St I.Γ H3} {env : PySem.Env} {sc : Scope} {cl : List (Str × Addr)} {fs : List PySem.Expr} {el tg i : PySem.Expr} {pos : Pos} {use : Option (Value → Sem Unit)} {Q : Value → Shared → Prop} {Pf : V × MH → Prop} {h4 : Heap} {tk : Tok} {o : Obj}
    (W : Iter I src items x S1.s.heap.objs.size) (F : FR env ρ S) (hsc : ScOK (kap env.scope) sc tgt) (c1 : Cl env sc.names cl)
    (hifs : ∀ {cenv : PySem.Env} {ρ' : Env} {H : MH} {S : St I.Γ H} {Q : Bool → Shared → Prop} {E : Value → Shared → Prop}, kap cenv.scope = kap sc → FR cenv ρ' S → Gd (kO Q) S (gi ρ' H) → wp I (tests fs cenv) Q E S.s)
    (helt : ∀ {cenv : PySem.Env} {ρ' : Env} {H : MH} {S : St I.Γ H} {Q : Value → Shared → Prop} {E : Value → Shared → Prop}, kap cenv.scope = kap sc → FR cenv ρ' S → Gd (kV Q) S (ge ρ' H) → wp I (eval el cenv) Q E S.s)
    (hp : W.P 0 (S1.s.heap.push o)) (h : Gp (compGo src items acc (compT tgt one ρ gi ge) items H3) fun H' => Pf (.loc acc, H')) (hQ : CompTo S E use Q Pf) (t1 : To [] S S1) (t3 : To [] (S1.more o) S3) (rD : S3.rel (.loc acc) (.ref D)) (r1 : S1.rel src x)
    (all4 : ∀ b o', S3.s.heap.get? b = some o' → h4.get? b = some o') {m : Str → Option Value} (hns : h4.Ns S3.s.heap.objs.size m) :
    codeAny (model I.Γ.prog I.Γ.w) I.A (.compStart (.ListComp el [⟨emT tgt one tg, i, fs, 0⟩] sc pos) 0 (.ref S1.s.heap.objs.size) (.ref D) (compEnvC sc cl S3.s.heap.objs.size env)) (compPost (model I.Γ.prog I.Γ.w) I.A E use Q (.ref D) S3.s.heap.objs.size) { S3.s with heap := h4, toks := tk } := by
  have tm := S1.to_more (o := o) (X := [])
  have t4 := S3.to_grow (s' := { S3.s with heap := h4, toks := tk }) (X := []) all4
  have t03 := t1.trans (tm.trans t3)
  have dC : S.s.heap.get? S3.s.heap.objs.size = none := dead_of t03.live (size_none _)
  have dI : S.s.heap.get? S1.s.heap.objs.size = none := dead_of t1.live (size_none _)
  have lI := (W.obj hp).live
  have F5 := compFrame (S := S3.grow { S3.s with heap := h4, toks := tk } all4) (cl := cl) (F.to (t03.trans t4)) hsc c1 hns (S3.hr.ne (size_none _)) (S.dead0 dC)
  have L : LC I S S1.s.heap.objs.size [S3.s.heap.objs.size] (compEnvC sc cl S3.s.heap.objs.size env) := ⟨dI, fun a m => List.mem_singleton.mp m ▸ .head _, fun m => (List.mem_cons.mp m).elim (fun q => lI.elim fun ob e => by
      have := t3.keeps _ ob e fun m => (S1.hr.ne (size_none _)) m
      rw [show S1.s.heap.objs.size = S3.s.heap.objs.size from q] at this
      exact nomatch (size_none _).symm.trans this) fun q => (c1.2.2 _ q).elim fun n e => (F.liveC (c1.1 n _ e).1).elim fun ob e => nomatch dI.symm.trans e⟩
  have C : CE I (compEnvC sc cl S3.s.heap.objs.size env) tgt fs el gi ge := ⟨fun F h => hifs (kap_relabel sc env) F h, fun F h => helt (kap_relabel sc env) F h, fun y h1 h2 => comp_local hsc h1 h2, fun z hz => comp_tgt hsc hz⟩
  have t34 := t3.trans t4
  have li : LI S W [S3.s.heap.objs.size] (compEnvC sc cl S3.s.heap.objs.size env) tgt ρ 0 (S3.grow { S3.s with heap := h4, toks := tk } all4) := ⟨(t03.trans t4).mono fun _ m => (nomatch m), W.loc hp fun ob e => t34.keeps _ ob e fun m => (S1.hr.ne (size_none _)) m, t34.toTk.out (S1.hr.ne (size_none _)) lI, F5, (tm.trans t34).v0 r1⟩
  have loop := comp_loop (prog := I.Γ.prog) (w := I.Γ.w) (A := I.A) (R := compPost (model I.Γ.prog I.Γ.w) I.A E use Q (.ref D) S3.s.heap.objs.size) (s := { S3.s with heap := h4, toks := tk }) (elt := el) (target := emT tgt one tg) (iter := i) (ifs := fs) (scope := sc) (pos := pos) (it := .ref S1.s.heap.objs.size) (acc := .ref D) (env := compEnvC sc cl S3.s.heap.objs.size env)
    (CJ S W (compEnvC sc cl S3.s.heap.objs.size env) ρ tgt one acc D gi ge fun H' => Pf (.loc acc, H')) (fun n s hJ => comp_turn L C hJ fun {H'} S' hf t lv g d os rD F => hQ (.loc acc, H') S' D _ hf ⟨t.dead fun a m => List.mem_singleton.mp m ▸ dC, lv, g, d, os⟩ rD dC F.apart.1 (F.ns.imp fun _ x => x.1)) (items.length + 1)
    ⟨0, _, _, rfl, rfl, h, li, t4.v0 rD⟩
  exact codeAny_compStart_list loop (W.again (s := { S3.s with heap := h4, toks := tk }) li.it loop)
theorem comp_snd {E : Value → Shared → Prop} {H : MH} {S : St I.Γ H} {env : PySem.Env} {sc : Scope} {fs : List PySem.Expr} {el tg i : PySem.Expr} {it : ME} {pos : Pos} {use : Option (Value → Sem Unit)} {Q : Value → Shared → Prop} {rit : R V} {Pf : V × MH → Prop} (F : FR env ρ S) (hsc : ScOK (kap env.scope) sc tgt)
    (hit : ∀ (Q : Value → Shared → Prop) (E : Value → Shared → Prop), Gd (kV Q) S rit → wp I (eval (em it i) env) Q E S.s)
    (hifs : ∀ {cenv : PySem.Env} {ρ' : Env} {H : MH} {S : St I.Γ H} {Q : Bool → Shared → Prop} {E : Value → Shared → Prop}, kap cenv.scope = kap sc → FR cenv ρ' S → Gd (kO Q) S (gi ρ' H) → wp I (tests fs cenv) Q E S.s)
    (helt : ∀ {cenv : PySem.Env} {ρ' : Env} {H : MH} {S : St I.Γ H} {Q : Value → Shared → Prop} {E : Value → Shared → Prop}, kap cenv.scope = kap sc → FR cenv ρ' S → Gd (kV Q) S (ge ρ' H) → wp I (eval el cenv) Q E S.s)
    (h : Gp (andThen rit fun src h1 => (itemsOf I.C src h1).bind fun items => (compGo src items h1.length (compT tgt one ρ gi ge) items (h1 ++ [.list []])).map (.loc h1.length, ·)) Pf) (hQ : CompTo S E use Q Pf) :
    wp I (comprehension (.ListComp el [⟨emT tgt one tg, em it i, fs, 0⟩] sc pos) sc env (firstIterPos [⟨emT tgt one tg, em it i, fs, 0⟩] pos) (newList []) false (eval (em it i) env) use) Q E S.s := by
  obtain ⟨cl, c0, c1⟩ := closure_is (sc := sc) (env := env) fun y hy hf => F.cells y.1 (kkE.2.1 (hsc.free y hy hf))
  refine wpAny_comprehension_free (g := ⟨emT tgt one tg, em it i, fs, 0⟩) (gs := []) rfl (fun _ => em_iter ..) c0 hsc.kind (fun y hy e => (hsc.loc y hy e).1) (hit _ _ (thenV (K := kC Pf) h fun src H1 S1 y t1 r1 h => iter_snd r1 (gp_bind h) fun items o W _ hp h => ?_))
  refine wpAny_newList ?_ (Nat.zero_le _)
  have t3 := (S1.more o).to_alloc (X := []) (vs := []) (xs := []) rfl (Nat.zero_le _)
  have rD := (S1.more o).alloc_v (vs := []) (xs := []) rfl (Nat.zero_le _)
  refine wpAny_newFunctionEnv hsc.nocell (List.forall_mem_nil _) (fun h4 hns hsb => ?_) hsc.kind
  have all4 : ∀ b o', ((S1.more o).alloc (vs := []) (xs := []) rfl (Nat.zero_le _)).s.heap.get? b = some o' → h4.get? b = some o' := fun b o' e => (hsb.2 b fun q => by rw [q] at e; exact nomatch (size_none _).symm.trans e).trans (Heap.get?_push_of_some _ e)
  exact comp_run W F hsc c1 (fun hk => hifs hk) (fun hk => helt hk) hp (gp_map h) hQ t1 t3 rD r1 all4 hns
end
end Mine
set_option maxRecDepth 100000
set_option autoImplicit false
namespace Mine
open PySem PySem.W PyProof.Rows PySem.Calls PySem.SeqAt
section
variable {I : Cx} {E : Value → Shared → Prop} {H : MH} {S : St I.Γ H} {env : PySem.Env} {ρ : Env} {pos : Pos}
noncomputable def SndE (I : Cx) {H : MH} (S : St I.Γ H) (t : Bool) (e : PySem.Expr) (env : PySem.Env) (r : R V) : Prop := match t with
  | false => ∀ (Q : Value → Shared → Prop) (E : Value → Shared → Prop), Gd (kV Q) S r → wp I (eval e env) Q E S.s
  | true => ∀ (Q : Bool → Shared → Prop) (E : Value → Shared → Prop), Gd (kB Q) S r → wp I (PySem.isTrue e env (eval e env)) Q E S.s
noncomputable def OkM (I : Cx) (m : ME) : Prop := ∀ {e : PySem.Expr} {env : PySem.Env} {ρ : Env} {H : MH} {S : St I.Γ H} (t : Bool), okE m e (kap env.scope) = true → FR env ρ S → SndE I S t (em m e) env (evE I.C t m ρ H)
noncomputable def AllM (I : Cx) : List ME → Prop
  | [] => True
  | m :: ms => OkM I m ∧ AllM I ms
theorem SndE.lift {t : Bool} {e : PySem.Expr} {r : R V} (hd : PySem.isTrue e env (eval e env) = do let v ← eval e env; standAt e.pos; holding [v] (truthy v)) (h : ∀ (Q : Value → Shared → Prop) (E : Value → Shared → Prop), Gd (kV Q) S r → wp I (eval e env) Q E S.s) : SndE I S t e env r := by
  cases t with
  | false => exact h
  | true => exact fun Q E g => wpAny_isTrue_value (h _ E (Gp.mono g fun p q S' y t r => q.elim fun b q => by
      have e := asB_some q.1
      rw [e] at r
      rw [show y = .bool b from r]
      exact wpAny_truthy_bool (q.2 S' t))) hd
theorem evEs_snd : ∀ {ms : List ME} {es : List PySem.Expr} {H : MH} {S : St I.Γ H}, AllM I ms → okEs ms es (kap env.scope) = true → FR env ρ S → SpOK I S (ems ms es) env (evEs I.C ms ρ H)
  | [], _, _, S, _, _, _ => fun pos Q E h => Calls.spliced_nil (h S [] (.refl S) rfl)
  | m :: ms, es, _, S, hm, ok, F => fun pos Q E h => by
    change wp I (spliced (backTo pos (starEach (em m (hd1 es) :: ems ms es.tail) env))) Q E S.s
    rw [em_star]
    exact Calls.spliced_cons (hm.1 false (andL ok) F _ E (thenV h fun v H1 S1 y t r h => evEs_snd hm.2 (andR ok) (F.to t) pos _ E (thenL h fun us H2 S2 ys t2 r2 h => h S2 (y :: ys) (.refl S2) ⟨y, ys, rfl, t2.v0 r, r2⟩)))
theorem evEs_len : ∀ {ms : List ME} {H : MH} {P : List V × MH → Prop}, Gp (evEs I.C ms ρ H) P → Gp (evEs I.C ms ρ H) fun p => P p ∧ p.1.length = ms.length
  | [], _, _, h => ⟨h, rfl⟩
  | m :: ms, H, P, h => by
    show Gp (andThen (evE I.C false m ρ H) fun v h1 => andThen (evEs I.C ms ρ h1) fun vs h2 => some (v :: vs, h2)) _
    have h := gp_then h
    cases e : evE I.C false m ρ H with
    | none => rw [e] at h; exact h
    | some p =>
      rw [e] at h
      have h := evEs_len (gp_then h)
      show Gp (andThen (evEs I.C ms ρ p.2) fun vs h2 => some (p.1 :: vs, h2)) _
      cases e2 : evEs I.C ms ρ p.2 with
      | none => rw [e2] at h; exact h
      | some q => rw [e2] at h; exact ⟨h.1, congrArg (· + 1) h.2⟩
noncomputable def opK (k : Bool) : PySem.BoolOp := match k with
  | true => .And
  | false => .Or
theorem kV_end {b : Bool} {Q : Value → Shared → Prop} (h : Gd (kV Q) S (some (.bool b, H))) {S' : St I.Γ H} (t : To [] S S') : Q (.bool b) S'.s := h S' _ t rfl
theorem evB_val {k : Bool} : ∀ {ms : List ME} {es : List PySem.Expr} {H : MH} {S : St I.Γ H} {Q : Value → Shared → Prop}, AllM I ms → okEs ms es (kap env.scope) = true → FR env ρ S → Gd (kV Q) S (evB I.C false k ms ρ H) → wp I (boolOp pos (opK k) (evalEach (ems ms es) env)) Q E S.s
  | [], _, _, _, _, _, _, _, h => False.elim h
  | m :: ms, es, _, S, Q, hm, ok, F, h => by
    cases ms with
    | nil => exact hm.1 false (andL ok) F Q E h
    | cons m2 ms =>
      show wpAny _ I.A (do
        let v ← eval (em m (hd1 es)) env
        standAt pos
        let t ← holding [v] (truthy v)
        match opK k, t with
        | .And, false | .Or, true => pure v
        | _, _ => boolOp pos (opK k) (evalEach (ems (m2 :: ms) es.tail) env)) Q E S.s
      refine wpAny_bind (hm.1 false (andL ok) F _ E (thenV h fun v H1 S1 y t r h => wpAny_bind (wpAny_standAt (bolE r h fun b h => wpAny_bind (wpAny_holding (wpAny_truthy_bool ?_))))))
      have go : b = k → wp I (boolOp pos (opK k) (evalEach (ems (m2 :: ms) es.tail) env)) Q E S1.s := fun e => evB_val hm.2 (andR ok) (F.to t) (by rw [if_pos e] at h; exact h)
      have fin : b ≠ k → wp I (pure (.bool b)) Q E S1.s := fun e => wpAny_pure (by rw [if_neg e] at h; exact kV_end h (.refl S1))
      cases k with
      | true =>
        cases b with
        | true => exact go rfl
        | false => exact fin nofun
      | false =>
        cases b with
        | true => exact fin nofun
        | false => exact go rfl
theorem kB_end {b : Bool} {H' : MH} {Q : Bool → Shared → Prop} (h : (kB Q).P S (.bool b, H')) {S' : St I.Γ H'} (t : To [] S S') : Q b S'.s := Exists.elim h fun b' q => by rw [Option.some.inj q.1]; exact q.2 S' t
theorem all_cons {k : Bool} {x : PySem.Expr} {rest : List PySem.Expr} {Q : Bool → Shared → Prop} {s : Shared} (h : wp I (PySem.isTrue x env (eval x env)) (fun b s => if b = k then wp I (allTrue (opK k) rest env) Q E s else Q b s) E s) : wp I (allTrue (opK k) (x :: rest) env) Q E s := by
  cases k with
  | true => exact wpAny_allTrue_And_cons (wpAny_mono h (fun b s hb => by cases b <;> exact hb) fun _ _ h => h)
  | false => exact wpAny_allTrue_Or_cons (wpAny_mono h (fun b s hb => by cases b <;> exact hb) fun _ _ h => h)
theorem evB_tst {k : Bool} : ∀ {ms : List ME} {es : List PySem.Expr} {H : MH} {S : St I.Γ H} {Q : Bool → Shared → Prop}, AllM I ms → okEs ms es (kap env.scope) = true → FR env ρ S → Gd (kB Q) S (evB I.C true k ms ρ H) → wp I (allTrue (opK k) (ems ms es) env) Q E S.s
  | [], _, _, _, _, _, _, _, h => False.elim h
  | m :: ms, es, _, S, Q, hm, ok, F, h => by
    cases ms with
    | nil =>
      refine all_cons (hm.1 true (andL ok) F _ E (Gp.mono h fun p q => q.imp fun b q => ⟨q.1, fun S' t => ?_⟩))
      show (if b = k then wp I (allTrue (opK k) [] env) Q E S'.s else Q b S'.s)
      by_cases e : b = k
      · rw [if_pos e]
        have := q.2 S' t
        rw [e] at this
        cases k with
        | true => exact wpAny_pure this
        | false => exact wpAny_pure this
      · rw [if_neg e]; exact q.2 S' t
    | cons m2 ms =>
      refine all_cons (hm.1 true (andL ok) F _ E (thenB h fun b H1 S1 t h => ?_))
      by_cases e : b = k
      · rw [if_pos e] at h ⊢; exact evB_tst hm.2 (andR ok) (F.to t) h
      · rw [if_neg e] at h ⊢
        exact kB_end h (.refl S1)
theorem evC_val : ∀ {ms : List ME} {ops : List COp} {es : List PySem.Expr} {H : MH} {S : St I.Γ H} {Q : Value → Shared → Prop} {a : V} {ya : Value}, AllM I ms → okEs ms es (kap env.scope) = true → ops.length = ms.length → FR env ρ S → S.rel a ya → Gd (kV Q) S (evC I.C ms ops a ρ H) →
      wp I (compareChain pos ya (ops.map copOf) (evalEach (ems ms es) env)) Q E S.s
  | [], _, _, _, _, _, _, _, _, _, _, _, _, h => False.elim h
  | m :: ms, ops, es, _, S, Q, a, ya, hm, ok, hl, F, ra, h => by
    cases ops with
    | nil => cases hl
    | cons op ops =>
      have hl := Nat.succ.inj hl
      cases ms with
      | nil =>
        rw [List.eq_nil_of_length_eq_zero hl]
        refine chain_last (hm.1 false (andL ok) F _ E (thenV h fun v H1 S1 y t r h => compare_snd (t.v0 ra) r ((gp_bind h).mono fun q h tk => ?_)))
        cases q with
        | true => exact kV_end h S1.to_toks
        | false => exact kV_end h S1.to_toks
      | cons m2 ms =>
        cases ops with
        | nil => cases hl
        | cons op2 ops =>
          refine chain_link (hm.1 false (andL ok) F _ E (thenV h fun v H1 S1 y t r h => compare_snd (t.v0 ra) r ((gp_bind h).mono fun q h tk => wpAny_truthy_bool ?_)))
          cases q with
          | true => exact evC_val (S := S1.toks tk) hm.2 (andR ok) hl (F.to (t.trans S1.to_toks)) (S1.to_toks.v0 r) (Gd.up h S1.to_toks)
          | false => exact kV_end h S1.to_toks
theorem evC_tst : ∀ {ms : List ME} {ops : List COp} {es : List PySem.Expr} {H : MH} {S : St I.Γ H} {Q : Bool → Shared → Prop} {a : V} {ya : Value}, AllM I ms → okEs ms es (kap env.scope) = true → ops.length = ms.length → FR env ρ S → S.rel a ya → Gd (kB Q) S (evC I.C ms ops a ρ H) →
      wp I (testChain pos ya (ops.map copOf) (evalEach (ems ms es) env)) Q E S.s
  | [], _, _, _, _, _, _, _, _, _, _, _, _, h => False.elim h
  | m :: ms, ops, es, _, S, Q, a, ya, hm, ok, hl, F, ra, h => by
    cases ops with
    | nil => cases hl
    | cons op ops =>
      have hl := Nat.succ.inj hl
      cases ms with
      | nil =>
        rw [List.eq_nil_of_length_eq_zero hl]
        refine test_last (hm.1 false (andL ok) F _ E (thenV h fun v H1 S1 y t r h => compare_snd (t.v0 ra) r ((gp_bind h).mono fun q h tk => wpAny_truthy_bool ?_)))
        cases q with
        | true => exact kB_end h S1.to_toks
        | false => exact kB_end h S1.to_toks
      | cons m2 ms =>
        cases ops with
        | nil => cases hl
        | cons op2 ops =>
          refine test_link (hm.1 false (andL ok) F _ E (thenV h fun v H1 S1 y t r h => compare_snd (t.v0 ra) r ((gp_bind h).mono fun q h tk => wpAny_truthy_bool ?_)))
          cases q with
          | true => exact evC_tst (S := S1.toks tk) hm.2 (andR ok) hl (F.to (t.trans S1.to_toks)) (S1.to_toks.v0 r) (Gd.up h S1.to_toks)
          | false => exact kB_end h S1.to_toks
theorem tests_off (env : PySem.Env) {Q : Bool → Shared → Prop} : ∀ (l : List PySem.Expr) (s : Shared), Q false s → wp I (forIn l false fun c r => if r = true then do let ok ← PySem.isTrue c env (eval c env); pure (ForInStep.yield ok) else pure (ForInStep.yield r)) Q E s
  | [], s, h => wpAny_pure h
  | c :: l, s, h => by
    rw [List.forIn_cons]
    exact wpAny_bind (wpAny_pure (tests_off env l s h))
theorem evAll_snd : ∀ {ms : List ME} {es : List PySem.Expr} {H : MH} {S : St I.Γ H} {Q : Bool → Shared → Prop}, AllM I ms → okEs ms es (kap env.scope) = true → FR env ρ S → Gd (kO Q) S (evAll I.C ms ρ H) → wp I (tests (ems ms es) env) Q E S.s
  | [], _, _, S, _, _, _, _, h => wpAny_pure (h S (.refl S))
  | m :: ms, es, _, S, Q, hm, ok, F, h => by
    unfold tests
    show wp I (forIn (em m (hd1 es) :: ems ms es.tail) true _) Q E S.s
    rw [List.forIn_cons]
    refine wpAny_bind (wpAny_bind (hm.1 true (andL ok) F _ E (thenB h fun b H1 S1 t h => wpAny_pure ?_)))
    cases b with
    | true => exact evAll_snd hm.2 (andR ok) (F.to t) h
    | false => exact tests_off env _ _ (h S1 (.refl S1))
end
end Mine
set_option maxRecDepth 100000
set_option autoImplicit false
namespace Mine
open PySem PySem.W PyProof.Rows PySem.Calls PySem.SeqAt
section
variable {I : Cx}
theorem c_snd (v : V) : OkM I (.c v) := fun {e env ρ H S} t ok F => by
  rw [em_c]
  have ok : (match isName e with | true => (kap env.scope (idOf e) == 3) && (gOf (idOf e) == some v) && !(idOf e == "__debug__") | false => okC v) = true := ok
  cases hn : isName e with
  | true =>
    rw [hn] at ok
    exact SndE.lift rfl fun Q E h => global_snd F (andL (andL ok)) (beq_iff_eq.mp (andR (andL ok))) (notF (andR ok)) fun y r => h S y (.refl S) r
  | false =>
    rw [hn] at ok
    refine SndE.lift rfl fun Q E h => ?_
    cases v with
    | none => exact wpAny_Constant_none (h S _ (.refl S) rfl)
    | bool b => exact wpAny_Constant_bool (h S _ (.refl S) rfl)
    | int i => exact wpAny_Constant_int (kV_int h)
    | str s => exact wpAny_Constant_str (kV_str (of_decide_eq_true ok) h)
    | _ => exact ff ok
theorem var_snd (y : Nat) : OkM I (.var y) := fun {e env ρ H S} t ok F => SndE.lift rfl fun Q E h => by
  have o := andR ok
  exact wpAny_Name (mapE h fun u hu h => load_snd F (andL ok) (ne_of (andL (andR o))) (notF (andR (andR o))) hu fun z r => h S z (.refl S) r) (notF (andL o))
theorem tup_snd {ms : List ME} (hm : AllM I ms) : OkM I (.tup ms) := fun {e env ρ H S} t ok F => SndE.lift rfl fun Q E h => Tuple_ (evEs_snd hm (andL ok) F _ _ _ ((evEs_len (gp_then h)).mono fun p q S1 ys t r =>
  wpAny_newTuple (q.1 (S1.more _) _ (t.trans S1.to_more) ⟨_, ys, rfl, ⟨_, Heap.get?_push_size _ rfl, rfl, _, rfl⟩, S1.to_more.vs (bare_nil _) r⟩) (by rw [r.length, q.2, ← top_is]; exact of_decide_eq_true (andR ok))))
theorem list_snd {ms : List ME} (hm : AllM I ms) : OkM I (.list ms) := fun {e env ρ H S} t ok F => SndE.lift rfl fun Q E h => List_ (evEs_snd hm (andL ok) F _ _ _ ((evEs_len (gp_then h)).mono fun p q S1 ys t r => by
  have hl : p.1.length ≤ top := q.2 ▸ of_decide_eq_true (andR ok)
  exact wpAny_newList (kV_list r hl (Gd.up (K := kV Q) (r := Mine.alloc (.list p.1) p.2) q.1 t)) (by rw [r.length, ← top_is]; exact hl)))
theorem mapOf_empty {prog : Program} {w : World} {a : Addr} {h : Heap} (e : h.get? a = some { cls := .type "dict", data := .dict #[] }) : h.MapOf (PySem.strKind prog w) a (fun _ => none) :=
  ⟨_, #[], 0, e, ⟨rfl, rfl, rfl⟩, rfl, fun _ h => by simp at h, fun k => rfl⟩
theorem edict_snd : OkM I .edict := fun {e env ρ H S} t ok F => SndE.lift rfl fun Q E h => wpAny_Dict_empty
  (h (S.put { S.s with heap := S.s.heap.push { cls := .type "dict", data := .dict #[] } } [S.s.heap.objs.size] (fun _ _ e => Heap.get?_push_of_some _ e) (List.nodup_cons.mpr ⟨nofun, List.nodup_nil⟩) (fun a ha => by rw [List.mem_singleton.mp ha]; exact size_none _)
    ⟨_, _, rfl, mapOf_empty (Heap.get?_push_size _ rfl), fun _ => rfl⟩) _ S.to_put ⟨_, [], S.put_loc, rfl⟩)
theorem bin_snd {op : BOp} {a b : ME} (ha : OkM I a) (hb : OkM I b) : OkM I (.bin op a b) := fun t ok F => SndE.lift rfl fun Q E h =>
  wpAny_BinOp (ha false (andL ok) F _ E (thenV h fun va H1 S1 ya t1 ra h => hb false (andR ok) (F.to t1) _ E (thenV h fun vb H2 S2 yb t2 rb h => binop_snd (t2.v0 ra) rb h)))
theorem neg_snd {a : ME} (ha : OkM I a) : OkM I (.neg a) := fun t ok F => SndE.lift rfl fun Q E h => wpAny_UnaryOp (ha false ok F _ E (thenV h fun va H1 S1 ya t1 ra h => intM ra h fun i u h => neg_int (kV_int h)))
theorem not_snd {a : ME} (ha : OkM I a) : OkM I (.not a) := fun t ok F => by
  cases t with
  | false => exact fun Q E h => wpAny_UnaryOp (ha false ok F _ E (thenV h fun va H1 S1 ya t1 ra h => bolM ra h fun b h => not_of (wpAny_truthy_bool (h S1 _ (.refl S1) rfl))))
  | true => exact fun Q E h => wpAny_isTrue_Not (ha true ok F _ E ((gp_then h).mono fun p h => mapE h fun b e h => ⟨b, e, fun S' t => kB_end h t⟩))
theorem bop_snd {k : Bool} {ms : List ME} (hm : AllM I ms) : OkM I (.bop k ms) := fun {e env ρ H S} t ok F => by
  cases t with
  | false =>
    exact fun Q E h => by
      show wp I (eval (.BoolOp (opK k) (ems ms (kids e)) e.pos) env) Q E S.s
      rw [arm_eval_BoolOp]; exact evB_val hm ok F h
  | true => exact fun Q E h => wpAny_isTrue_BoolOp (evB_tst hm ok F h)
theorem ite_snd {c a b : ME} (hc : OkM I c) (ha : OkM I a) (hb : OkM I b) : OkM I (.ite c a b) := fun t ok F => by
  have o := andR ok
  cases t with
  | false =>
    exact fun Q E h => wpAny_IfExp (hc true (andL ok) F _ E (thenB h fun q H1 S1 t h => by
      cases q with
      | true => exact ha false (andL o) (F.to t) Q E h
      | false => exact hb false (andR o) (F.to t) Q E h))
  | true =>
    exact fun Q E h => isTrue_IfExp (hc true (andL ok) F _ E (thenB h fun q H1 S1 t h => by
      cases q with
      | true => exact ha true (andL o) (F.to t) Q E h
      | false => exact hb true (andR o) (F.to t) Q E h))
theorem marked_ems : ∀ (ops : List CmpOp) (ms : List ME) (es : List PySem.Expr) (ts : List (Sem Value)), markedEach ops (ems ms es) ts = ts
  | [], _, _, _ => rfl
  | _ :: ops, [], _, ts => by cases ops <;> cases ts <;> rfl
  | _ :: ops, _ :: ms, _, [] => by cases ops <;> cases ms <;> rfl
  | op :: ops, m :: ms, es, t :: ts => by
    have ih := marked_ems ops ms es.tail ts
    have last : markedBehindIn op (em m (hd1 es)) t = t := by unfold markedBehindIn; rw [em_set]
    cases ops with
    | nil =>
      cases ms with
      | nil =>
        cases ts with
        | nil => exact congrArg (fun x => [x]) last
        | cons _ _ => exact congrArg (t :: ·) ih
      | cons _ _ => exact congrArg (t :: ·) ih
    | cons _ _ => exact congrArg (t :: ·) ih
theorem cmp_snd {a : ME} {ops : List COp} {ms : List ME} (ha : OkM I a) (hm : AllM I ms) : OkM I (.cmp a ops ms) := fun {e env ρ H S} t ok F => by
  have o := andR ok
  cases t with
  | false =>
    exact fun Q E h => by
      show wp I (eval (.Compare (em a (kid e 0)) (ops.map copOf) (ems ms (kids e).tail) e.pos) env) Q E S.s
      rw [arm_eval_Compare, marked_ems]
      exact wpAny_bind (ha false (andL ok) F _ E (thenV h fun va H1 S1 ya t r h => evC_val hm (andL o) (beq_iff_eq.mp (andR o)) (F.to t) r h))
  | true =>
    exact fun Q E h => by
      show wp I (PySem.isTrue (.Compare (em a (kid e 0)) (ops.map copOf) (ems ms (kids e).tail) e.pos) env _) Q E S.s
      rw [arm_isTrue_Compare, marked_ems]
      exact wpAny_bind (ha false (andL ok) F _ E (thenV h fun va H1 S1 ya t r h => evC_tst hm (andL o) (beq_iff_eq.mp (andR o)) (F.to t) r h))
theorem attr_snd {o : ME} {a : Nat} (ho : OkM I o) : OkM I (.attr o a) := fun t ok F => SndE.lift rfl fun Q E h =>
  Attribute_any_ (ho false (andL ok) F _ E (thenV h fun vo H1 S1 yo t r h => getAttr_snd r ((gp_map h).mono fun v h tk y r => h (S1.toks tk) y S1.to_toks r))) (by rw [arm_eval_Attribute, em_base _ _ _ _ _ (andR ok)])
theorem item_tail {E : Value → Shared → Prop} {o i : Value} {Q : Value → Shared → Prop} {s : Shared} {value slice : PySem.Expr} {ops : List Value} (x : ItemIs I E o i Q s) (hs : subscripted slice false o i = operate ops (getItem o i)) : wp I (subscriptTail value slice o i) Q E s :=
  x.elim fun T x => x.elim fun id x => tail_any x.2.1 x.1 x.2.2 hs
theorem sub_snd {o i : ME} (ho : OkM I o) (hi : OkM I i) : OkM I (.sub o i) := fun t ok F => SndE.lift rfl fun Q E h =>
  Subscript_ (ho false (andL ok) F _ E (thenV h fun vo H1 S1 yo t r h => hi false (andR ok) (F.to t) _ E (thenV h fun vi H2 S2 yi t2 r2 h =>
    item_tail (subscript_snd (t2.v0 r) r2 ((gp_map h).mono fun v h tk y r => h (S2.toks tk) y S2.to_toks r)) (em_slice ..))))
theorem okO_none {ok : PySem.Expr → (Str → Nat) → Bool} {m : ME} {κ : Str → Nat} (h : okO ok m none κ = true) : m = .c .none := by
  cases m with
  | c v => exact congrArg ME.c (isNo_eq h)
  | _ => exact ff h
theorem part_snd {m : ME} {o : Option PySem.Expr} {env : PySem.Env} {ρ : Env} {H : MH} {S : St I.Γ H} {Q : Value → Shared → Prop} {E : Value → Shared → Prop} (hm : OkM I m) (ok : okO (okE m) m o (kap env.scope) = true) (F : FR env ρ S) (h : Gd (kV Q) S (evE I.C false m ρ H)) : wp I (evalPart (o.map (em m)) env) Q E S.s := by
  cases o with
  | none =>
    rw [okO_none ok] at h
    exact wpAny_pure (h S _ (.refl S) rfl)
  | some e => exact hm false ok F Q E h
theorem slice_snd {o lo hi st : ME} (ho : OkM I o) (hl : OkM I lo) (hh : OkM I hi) (hs : OkM I st) : OkM I (.slice o lo hi st) := fun {e env ρ H S} t ok F => SndE.lift rfl fun Q E h => by
  have o1 := andR ok
  have o2 := andR o1
  refine Subscript_ (ho false (andL ok) F _ E (thenV h fun vo H1 S1 yo t1 r1 h => wpAny_Slice (part_snd hl (andL o1) (F.to t1) (thenV h fun vl H2 S2 yl t2 r2 h => part_snd hh (andL o2) ((F.to t1).to t2) (thenV h fun vh H3 S3 yh t3 r3 h =>
    part_snd hs (andR o2) (((F.to t1).to t2).to t3) (thenV h fun vs H4 S4 ys t4 r4 h => ?_))))))
  have t5 := S4.to_more (o := { cls := .type "slice", data := .fields #[yl, yh, ys] }) (X := [])
  have x := slicing_snd (I := I) (E := E) (S := S4.more { cls := .type "slice", data := .fields #[yl, yh, ys] }) (((t2.trans t3).trans (t4.trans t5)).v0 r1) ((t3.trans (t4.trans t5)).v0 r2) ((t4.trans t5).v0 r3) (t5.v0 r4) (Heap.get?_push_size _ rfl) (Gd.up h t5)
  cases hp : (parts (kid e 1)).2.2 with
  | none => exact item_tail (ops := [.ref S4.s.heap.objs.size, yo]) x rfl
  | some _ => exact item_tail (ops := [yo, .ref S4.s.heap.objs.size]) x rfl
theorem call_snd {f : ME} {ms : List ME} (hf : OkM I f) (hm : AllM I ms) : OkM I (.call f ms) := fun {e env ρ H S} t ok F => SndE.lift rfl fun Q E h => by
  have o := andR ok
  show wp I (eval (.Call (em f (kid e 0)) (ems ms (kids e).tail) [] e.pos) env) Q E S.s
  rw [em_call _ _ _ (andR o)]
  exact wpAny_bind (hf false (andL ok) F _ E (thenV h fun vf H1 S1 yf t r h => callWith_snd (evEs_snd hm (andL o) (F.to t)) r h))
theorem methc_snd {o : ME} {m : Nat} {ms : List ME} (ho : OkM I o) (hm : AllM I ms) : OkM I (.meth o m ms) := fun {e env ρ H S} t ok F => SndE.lift rfl fun Q E h => by
  have o1 := andR ok
  have o2 := andR o1
  have o3 := andR o2
  exact meth_snd (andL o2) (andL o3) (of_decide_eq_true (andR o3)) (ho false (andL ok) F _ E (thenV h fun vo H1 S1 yo t r h pl => method_snd r ((gp_bind h).mono fun k h f hk => callM_snd (evEs_snd hm (andL o1) (F.to t)) hk h)))
theorem comp_to {H : MH} {S : St I.Γ H} {E : Value → Shared → Prop} {Q : Value → Shared → Prop} : CompTo S E none Q ((kV Q).P S) := fun p S' D Cc hp t r hd hC hns => hns.imp fun m hm => ⟨hm, fun h' hsb => hp _ _ (t.beside hd (ns_bare hm) hC hsb) (r.stay (SameBut.keepsL hsb) (ns_bare hm))⟩
theorem compx_snd {el it : ME} {tgt : List Nat} {one : Bool} {ifs : List ME} (he : OkM I el) (hi : OkM I it) (hf : AllM I ifs) : OkM I (.comp el tgt one it ifs) := fun {e env ρ H S} t ok F => SndE.lift rfl fun Q E h => by
  have o1 := andR ok
  have o2 := andR o1
  have o3 := andR o2
  show wp I (eval (.ListComp (em el (kid e 0)) [⟨emT tgt one (kid e 1), em it (kid e 2), ems ifs ((kids e).drop 3), 0⟩] (scOf e) e.pos) env) Q E S.s
  rw [eval_ListComp]
  exact comp_snd F (scE (andL o3)) (fun Q E h => hi false (andL ok) F Q E h) (fun hk F h => evAll_snd hf (hk ▸ andL o2) F h) (fun hk F h => he false (hk ▸ andL o1) F _ _ h) h comp_to
mutual
theorem evE_snd (I : Cx) : ∀ m : ME, OkM I m
  | .c v => c_snd v
  | .var y => var_snd y
  | .tup ms => tup_snd (evEs_all I ms)
  | .list ms => list_snd (evEs_all I ms)
  | .edict => edict_snd
  | .bin _ a b => bin_snd (evE_snd I a) (evE_snd I b)
  | .neg a => neg_snd (evE_snd I a)
  | .not a => not_snd (evE_snd I a)
  | .bop _ ms => bop_snd (evEs_all I ms)
  | .ite c a b => ite_snd (evE_snd I c) (evE_snd I a) (evE_snd I b)
  | .cmp a _ ms => cmp_snd (evE_snd I a) (evEs_all I ms)
  | .attr o _ => attr_snd (evE_snd I o)
  | .sub o i => sub_snd (evE_snd I o) (evE_snd I i)
  | .slice o lo hi st => slice_snd (evE_snd I o) (evE_snd I lo) (evE_snd I hi) (evE_snd I st)
  | .call f ms => call_snd (evE_snd I f) (evEs_all I ms)
  | .meth o _ ms => methc_snd (evE_snd I o) (evEs_all I ms)
  | .comp el _ _ it ifs => compx_snd (evE_snd I el) (evE_snd I it) (evEs_all I ifs)
  | .bad => fun t _ _ => by
    cases t with
    | false => exact fun Q E h => False.elim h
    | true => exact fun Q E h => False.elim h
theorem evEs_all (I : Cx) : ∀ ms : List ME, AllM I ms
  | [] => trivial
  | m :: ms => ⟨evE_snd I m, evEs_all I ms⟩
end
end
end Mine
set_option maxRecDepth 100000
set_option autoImplicit false
namespace Mine
open PySem PySem.W PyProof.Rows PySem.Calls PySem.SeqAt
noncomputable def prS : Stmt → List PySem.Expr × Option PySem.Expr × List Stmt × List Stmt
  | .Expr x _ => ([x], none, [], [])
  | .Return o _ => ([], o, [], [])
  | .Assign ts x _ => ([hd1 ts, x], none, [], [])
  | .AugAssign t _ x _ => ([t, x], none, [], [])
  | .If c a b _ => ([c], none, a, b)
  | .While c b _ _ => ([c], none, b, [])
  | .For t i b _ _ => ([t, i], none, b, [])
  | _ => ([], none, [], [])
noncomputable abbrev sk (s : Stmt) (n : Nat) : PySem.Expr := hd1 ((prS s).1.drop n)
noncomputable def emTg : MT → PySem.Expr → PySem.Expr
  | .var x, e => emT [x] true e
  | .vars xs, e => emT xs false e
  | .attr o a, e => .Attribute (em o (kid e 0)) (nm a) e.pos
  | .sub o i, e => .Subscript (em o (kid e 0)) (em i (kid e 1)) e.pos
mutual
noncomputable def emS : MS → Stmt → Stmt
  | .expr e, s => .Expr (em e (sk s 0)) s.pos
  | .ret e, s => .Return ((prS s).2.1.map (em e)) s.pos
  | .asg t e, s => .Assign [emTg t (sk s 0)] (em e (sk s 1)) s.pos
  | .aug t op e, s => .AugAssign (emTg t (sk s 0)) (opOf op) (em e (sk s 1)) s.pos
  | .ite c a b, s => .If (em c (sk s 0)) (emSs a (prS s).2.2.1) (emSs b (prS s).2.2.2) s.pos
  | .whl c b, s => .While (em c (sk s 0)) (emSs b (prS s).2.2.1) [] s.pos
  | .for_ t it b, s => .For (emTg t (sk s 0)) (em it (sk s 1)) (emSs b (prS s).2.2.1) [] s.pos
  | .brk, s => .Break s.pos
  | .bad, s => s
noncomputable def emSs : List MS → List Stmt → List Stmt
  | [], _ => []
  | m :: ms, l => emS m (l.headD default) :: emSs ms l.tail
end
noncomputable def stor (sc : Scope) (x : Nat) : Bool := (sc.names.lookup (nm x) == some .local) || ((sc.names.lookup (nm x) == some .cell) && !(nm x == nm ice))
noncomputable def okTg (t : MT) (e : PySem.Expr) (sc : Scope) : Bool := match t with
  | .var x => stor sc x
  | .vars xs => xs.all (stor sc) && noDupN xs
  | .attr o _ => okE o (kid e 0) (kap sc)
  | .sub o i => okE o (kid e 0) (kap sc) && okE i (kid e 1) (kap sc)
noncomputable def kindM : ME → Nat
  | .tup _ => 1
  | .comp .. => 2
  | _ => 0
noncomputable def okTup (e : PySem.Expr) : Bool := (kids e).all (foldedForSure 8) || !(kids e).all (constantsAlone 8)
noncomputable def okAug : MT → Bool
  | .var y => !(nm y == "__classdict__") && !(nm y == dot0)
  | .vars _ => false
  | _ => true
noncomputable def okFor : MT → Bool
  | .var _ => true
  | .vars _ => true
  | _ => false
mutual
noncomputable def okS : MS → Stmt → Scope → Bool
  | .expr e, s, sc => okE e (sk s 0) (kap sc) && !(kindM e == 2)
  | .ret e, s, sc => okO (okE e) e (prS s).2.1 (kap sc)
  | .asg t e, s, sc => okTg t (sk s 0) sc && (okE e (sk s 1) (kap sc) && (!(kindM e == 1) || okTup (em e (sk s 1))))
  | .aug t _ e, s, sc => okTg t (sk s 0) sc && (okE e (sk s 1) (kap sc) && okAug t)
  | .ite c a b, s, sc => okE c (sk s 0) (kap sc) && (okSs a (prS s).2.2.1 sc && okSs b (prS s).2.2.2 sc)
  | .whl c b, s, sc => okE c (sk s 0) (kap sc) && okSs b (prS s).2.2.1 sc
  | .for_ t it b, s, sc => (okTg t (sk s 0) sc && okFor t) && (okE it (sk s 1) (kap sc) && okSs b (prS s).2.2.1 sc)
  | .brk, _, _ => true
  | .bad, _, _ => true
noncomputable def okSs : List MS → List Stmt → Scope → Bool
  | [], _, _ => true
  | m :: ms, l, sc => okS m (l.headD default) sc && okSs ms l.tail sc
end
section
variable {Γ : Gam} {H : MH}
noncomputable def FlR (S : St Γ H) (fl : Fl) (f : Flow) : Prop := match fl with
  | .next => f = .next
  | .brk => f = .brk
  | .ret v => ∃ y, f = .ret y ∧ S.rel v y
noncomputable def kA (env : PySem.Env) (Q : Unit → Shared → Prop) : Kn Γ (Env × MH) := ⟨fun S p => ∀ S' : St Γ p.2, To (owns env) S S' → FR env p.1 S' → Q () S'.s, fun t h S' p => h S' ((t.mono fun _ m => (nomatch m)).trans p)⟩
noncomputable def kS (env : PySem.Env) (Q : Flow → Shared → Prop) : Kn Γ ((Fl × Env) × MH) := ⟨fun S p => ∀ (S' : St Γ p.2) (f : Flow), To (owns env) S S' → FR env p.1.2 S' → FlR S' p.1.1 f → Q f S'.s, fun t h S' f p => h S' f ((t.mono fun _ m => (nomatch m)).trans p)⟩
variable {S : St Γ H} {env : PySem.Env} {ρ : Env}
theorem kS.upW {Q : Flow → Shared → Prop} {H1 : MH} {S1 : St Γ H1} {r : R (Fl × Env)} (h : Gd (kS env Q) S r) (t : To (owns env) S S1) : Gd (kS env Q) S1 r := h.mono fun _ h S' f p => h S' f (t.trans p)
theorem kS_next {Q : Flow → Shared → Prop} {H1 : MH} {S1 : St Γ H1} (h : Gd (kS env Q) S (some ((.next, ρ), H1))) (t : To (owns env) S S1) (F : FR env ρ S1) : Q .next S1.s := h S1 _ t F rfl
theorem To.w {H1 : MH} {S1 : St Γ H1} {X : List Addr} (t : To [] S S1) : To X S S1 := t.mono fun _ m => nomatch m
theorem FRz.congr {Z : List Nat} {ρ' : Env} (F : FRz Z env ρ S) (e : ∀ x, Env.get ρ' x = Env.get ρ x) : FRz Z env ρ' S :=
  ⟨F.kind, F.globals, F.blt, F.ns.imp fun m x => ⟨x.1, fun y v hz h1 h2 h3 => x.2 y v hz h1 h2 ((e y).symm.trans h3)⟩, F.cells, fun x v c h1 h2 h3 => F.cellv x v c h1 h2 ((e x).symm.trans h3), F.alive, F.apart, F.apartC, F.one, F.mine⟩
end
section
variable {I : Cx} {E : Value → Shared → Prop} {H : MH} {S : St I.Γ H} {env : PySem.Env} {ρ : Env}
theorem stor_in {x : Nat} (h : stor env.scope x = true) : StoreIn env (owns env) x := (Bool.or_eq_true_iff.mp h).elim (fun h => .inl ⟨beq_iff_eq.mp h, .head _⟩)
  fun h => .inr ⟨beq_iff_eq.mp (andL h), fun c e => mem_owns e, ne_of (andR h)⟩
theorem assignT_snd {t : MT} {tg : PySem.Expr} {v : V} {y : Value} {Q : Unit → Shared → Prop} (ok : okTg t tg env.scope = true) (F : FR env ρ S) (r : S.rel v y) (h : Gd (kA env Q) S (assignT I.C t v ρ H)) : wp I (assign (emTg t tg) env y) Q E S.s := by
  cases t with
  | var z => exact wpAny_assign_Name (store_snd F (stor_in ok) r fun S' t F' => h S' t F')
  | vars xs => exact bind_snd (single := false) (fun _ h => h) (fun z hz => stor_in (List.all_eq_true.mp (andL ok) z hz)) F r ((gp_map h).mono fun ρ' h S' t F' => h S' t F')
  | attr o a =>
    show wp I (assign (.Attribute (em o (kid tg 0)) (nm a) tg.pos) env y) Q E S.s
    rw [arm_assign_Attribute]
    exact wpAny_bind (wpAny_holding (evE_snd I o false ok F _ _ (thenV h fun u H1 S1 yo t1 r1 h => wpAny_bind (wpAny_standAt (wpAny_bind (wpAny_holding (setAttr_snd r1 (t1.v0 r) ((gp_map h).mono fun H2 h S2 t2 => wpAny_release' (h S2 t2.w ((F.to t1).to t2))))))))))
  | sub o i =>
    show wp I (assign (.Subscript (em o (kid tg 0)) (em i (kid tg 1)) tg.pos) env y) Q E S.s
    rw [arm_assign_Subscript]
    exact wpAny_bind (wpAny_holding (evE_snd I o false (andL ok) F _ _ (thenV h fun u H1 S1 yo t1 r1 h => wpAny_bind (wpAny_holding (evE_snd I i false (andR ok) (F.to t1) _ _ (thenV h fun k H2 S2 yi t2 r2 h =>
      wpAny_bind (wpAny_standAt (wpAny_bind (wpAny_holding (setSub_snd (t2.v0 r1) r2 (t2.v0 (t1.v0 r)) ((gp_map h).mono fun H3 h S3 t3 => wpAny_release' (h S3 t3.w (((F.to t1).to t2).to t3)))))))))))))
end
end Mine
set_option maxRecDepth 100000
set_option autoImplicit false
namespace Mine
open PySem PySem.W PyProof.Rows PySem.Calls PySem.SeqAt
theorem tup_of {m : ME} (h : (kindM m == 1) = true) : ∃ ms, m = .tup ms := by
  cases m with
  | tup ms => exact ⟨ms, rfl⟩
  | _ => exact ff h
theorem comp_of {m : ME} (h : (kindM m == 2) = true) : ∃ el tgt one it ifs, m = .comp el tgt one it ifs := by
  cases m with
  | comp el tgt one it ifs => exact ⟨el, tgt, one, it, ifs, rfl⟩
  | _ => exact ff h
section
variable {env : PySem.Env}
theorem swaps_no {m : ME} {e : PySem.Expr} {o : Option PySem.Expr} {line : Nat} (h : (kindM m == 2) = false) : swapsWith (em m e) o line env = pure false := by
  cases m with
  | c v => rw [em_c]; cases isName e <;> rfl
  | comp => exact ff h.symm
  | _ => rfl
theorem swaps_sole {m : ME} {e tg : PySem.Expr} {line : Nat} (h : (kindM m == 2) = false) : swapsWithSole [tg] (em m e) line env = pure false := swaps_no (o := some tg) h
theorem stores_no {m : ME} {t : MT} {e tg : PySem.Expr} (h : (kindM m == 1) = false) : swappedStores [emTg t tg] (em m e) env = pure none := by
  cases t with
  | vars xs =>
    cases m with
    | c v => rw [em_c]; cases isName e <;> rfl
    | tup => exact ff h.symm
    | _ => rfl
  | _ => rfl
theorem len_emN : ∀ (xs : List Nat) (es : List PySem.Expr), (emN xs es).length = xs.length
  | [], _ => rfl
  | _ :: xs, es => congrArg (· + 1) (len_emN xs es.tail)
theorem names_filter {f : PySem.Expr → Option Str} (hf : ∀ x p, f (.Name (nm x) p) = some (nm x) ∨ f (.Name (nm x) p) = none) : ∀ (xs : List Nat) (es : List PySem.Expr), ((emN xs es).filterMap f).length = xs.length → (emN xs es).filterMap f = xs.map nm
  | [], _, _ => rfl
  | x :: xs, es, hl => by
    change (List.filterMap f (.Name (nm x) (hd1 es).pos :: emN xs es.tail)).length = _ at hl
    show List.filterMap f (.Name (nm x) (hd1 es).pos :: emN xs es.tail) = _
    rcases hf x (hd1 es).pos with h | h
    · rw [List.filterMap_cons_some h] at hl ⊢
      exact congrArg (nm x :: ·) (names_filter hf xs es.tail (Nat.succ.inj hl))
    · rw [List.filterMap_cons_none h] at hl
      have := List.length_filterMap_le f (emN xs es.tail)
      rw [hl, len_emN] at this
      exact absurd this (Nat.not_succ_le_self _)
theorem iteE {α : Type} {C : α → Prop} {c : Prop} [Decidable c] {a b : α} (h1 : c → C a) (h2 : ¬c → C b) : C (if c then a else b) := by
  by_cases h : c
  · rw [if_pos h]; exact h1 h
  · rw [if_neg h]; exact h2 h
noncomputable def Sto (xs : List Nat) (r : Sem (Option (List Str))) : Prop := r = pure none ∨ ((xs.length = 2 ∨ xs.length = 3) ∧ r = pure (some (xs.map nm)))
theorem stores_is {xs : List Nat} {tg e : PySem.Expr} {ms : List ME} (ho : okTup (em (.tup ms) e) = true) : Sto xs (swappedStores [emTg (.vars xs) tg] (em (.tup ms) e) env) := by
  show Sto xs (swappedStores [.Tuple (emN xs (kids tg)) (numOf tg) tg.pos] (.Tuple (ems ms (kids e)) (numOf e) e.pos) env)
  unfold swappedStores
  refine iteE (C := Sto xs) (fun _ => .inl rfl) fun h1 => iteE (C := Sto xs) (fun _ => .inl rfl) fun _ => iteE (C := Sto xs) (fun _ => .inl rfl) fun h3 => iteE (C := Sto xs) (fun _ => .inl rfl) fun h4 => iteE (C := Sto xs) (fun h5 => ?_) fun _ => .inr ⟨?_, ?_⟩
  · exact (Bool.or_eq_true_iff.mp ho).elim (fun h => absurd h h4) fun h => ff ((notF h).symm.trans h5)
  · rw [len_emN] at h1
    by_cases h2 : xs.length = 2
    · exact .inl h2
    · refine .inr (Decidable.byContradiction fun q => h1 ?_)
      rw [beq_false_of_ne h2, beq_false_of_ne q]; rfl
  · refine congrArg (fun l => (pure (some l) : Sem (Option (List Str)))) (names_filter (fun x p => ?_) xs _ ?_)
    · exact iteE (C := fun r => r = some (nm x) ∨ r = none) (fun _ => .inl rfl) fun _ => .inr rfl
    · have h3 := (Bool.or_eq_false_iff.mp (Bool.not_eq_true _ ▸ h3)).1
      exact (Decidable.byContradiction fun q => ff (h3.symm.trans (bne_iff_ne.mpr q))).trans (len_emN ..)
end
end Mine
set_option maxRecDepth 100000
set_option autoImplicit false
namespace Mine
open PySem PySem.W PyProof.Rows PySem.Calls PySem.SeqAt
theorem VRs.rev {h : Heap} {μ : Mu} : ∀ {vs : List V} {ys : List Value}, VRs h μ vs ys → VRs h μ vs.reverse ys.reverse
  | [], _, e => by cases e; exact rfl
  | v :: vs, _, e => e.elim fun y e => e.elim fun ys e => by
    rw [e.1, List.reverse_cons, List.reverse_cons]
    exact (VRs.rev e.2.2).append ⟨y, [], rfl, e.2.1, rfl⟩
theorem noDupN_ok {α : Type} [BEq α] [LawfulBEq α] : ∀ {l : List α}, noDupN l = true → l.Nodup
  | [], _ => List.nodup_nil
  | x :: r, h => List.nodup_cons.mpr ⟨fun m => ff ((notF (andL h)).symm.trans (List.any_eq_true.mpr ⟨x, m, beq_self_eq_true x⟩)), noDupN_ok (andR h)⟩
theorem put_swap {ρ : Env} {a b : Nat} {u v : V} (h : a ≠ b) (z : Nat) : Env.get (Env.put (Env.put ρ a u) b v) z = Env.get (Env.put (Env.put ρ b v) a u) z := by
  rw [get_put, get_put, get_put, get_put]
  by_cases h1 : a = z
  · rw [if_neg fun e => h (h1.trans e.symm), if_pos h1, if_pos h1]
  · rw [if_neg h1, if_neg h1]
theorem put_same {ρ ρ' : Env} {a : Nat} {u : V} (h : ∀ z, Env.get ρ z = Env.get ρ' z) (z : Nat) : Env.get (Env.put ρ a u) z = Env.get (Env.put ρ' a u) z := by rw [get_put, get_put, h]
theorem len_cons {α : Type} {l : List α} {n : Nat} (h : l.length = n + 1) : ∃ a r, l = a :: r ∧ r.length = n := by
  cases l with
  | nil => cases h
  | cons a r => exact ⟨a, r, rfl, Nat.succ.inj h⟩
theorem len_two {α : Type} {l : List α} (h : l.length = 2) : ∃ a b, l = [a, b] := (len_cons h).elim fun a h => h.elim fun r h => (len_cons h.2).elim fun b h' => h'.elim fun q h' => ⟨a, b, by rw [h.1, h'.1, List.eq_nil_of_length_eq_zero h'.2]⟩
theorem len_three {α : Type} {l : List α} (h : l.length = 3) : ∃ a b c, l = [a, b, c] := (len_cons h).elim fun a h => h.elim fun r h => (len_two h.2).elim fun b h' => h'.elim fun c h' => ⟨a, b, c, by rw [h.1, h']⟩
theorem put_rev {xs : List Nat} {vs : List V} {ρ ρ' : Env} (hn : xs.Nodup) (hl : xs.length = 2 ∨ xs.length = 3) (h : putAll xs vs ρ = some ρ') : ∃ ρ₂, putAll xs.reverse vs.reverse ρ = some ρ₂ ∧ ∀ z, Env.get ρ' z = Env.get ρ₂ z := by
  have hlen := putAll_len h
  rcases hl with hl | hl
  · obtain ⟨a, b, rfl⟩ := len_two hl
    obtain ⟨u, v, rfl⟩ := len_two (hlen.symm.trans hl)
    refine ⟨_, rfl, fun z => ?_⟩
    rw [← Option.some.inj h]
    exact put_swap (fun e => (List.nodup_cons.mp hn).1 (by rw [e]; exact .head _)) z
  · obtain ⟨a, b, c, rfl⟩ := len_three hl
    obtain ⟨u, v, q, rfl⟩ := len_three (hlen.symm.trans hl)
    refine ⟨_, rfl, fun z => ?_⟩
    rw [← Option.some.inj h]
    have n1 := List.nodup_cons.mp hn
    have n2 := List.nodup_cons.mp n1.2
    have ab : a ≠ b := fun e => n1.1 (by rw [e]; exact .head _)
    have ac : a ≠ c := fun e => n1.1 (by rw [e]; exact .tail _ (.head _))
    have bc : b ≠ c := fun e => n2.1 (by rw [e]; exact .head _)
    exact (put_same (put_swap ab) z).trans ((put_swap ac z).trans (put_same (put_swap bc) z))
section
variable {I : Cx} {E : Value → Shared → Prop} {env : PySem.Env} {ρ : Env}
theorem rowB_snd : ∀ {xs : List Nat} {vs : List V} {ys : List Value} {ρ : Env} {H : MH} {S : St I.Γ H} {Q : Unit → Shared → Prop},
    (∀ z ∈ xs, StoreIn env (owns env) z) → FR env ρ S → S.rels vs ys → Gp (putAll xs vs ρ) (fun ρ' => StTo S (owns env) [] env ρ' Q) → wp I (assignInOrder (xs.map fun z => bindName env (nm z)) ys) Q E S.s
  | [], vs, ys, ρ, _, S, Q, hk, F, r, h => by
    cases vs with
    | nil => exact wpAny_pure (h S (.refl S) F)
    | cons _ _ => exact False.elim h
  | y :: xs, vs, ys, ρ, _, S, Q, hk, F, r, h => by
    cases vs with
    | nil => exact False.elim h
    | cons v vs =>
      exact r.elim fun z r => r.elim fun zs r => by
        rw [r.1]
        exact wpAny_bind (wpAny_holding (wpAny_bindName (store_snd F (hk y (.head _)) r.2.1 fun S' t F' =>
          rowB_snd (vs := vs) (fun z hz => hk z (.tail _ hz)) F' (t.vs F.bare r.2.2) (h.mono fun ρ' hQ S2 t2 F2 => hQ S2 (t.trans t2) F2))))
variable {H : MH} {S : St I.Γ H} {t : MT} {m : ME} {tg e : PySem.Expr} {pos : Pos} {Q : Flow → Shared → Prop}
theorem each_tg (t : MT) (tg : PySem.Expr) : (assignEach [emTg t tg] env).map (·.2) = [assign (emTg t tg) env] := by
  cases t with
  | _ => rfl
noncomputable abbrev asgR (I : Cx) (t : MT) (m : ME) (ρ : Env) (H : MH) : R (Fl × Env) := andThen (evE I.C false m ρ H) fun v h1 => andThen (assignT I.C t v ρ h1) fun r2 h2 => some ((.next, r2), h2)
theorem kA_of {r : R Env} (h : Gd (kS env Q) S (andThen r fun r2 h2 => some ((.next, r2), h2))) : Gd (kA env fun _ => Q .next) S r := (gp_then h).mono fun p h S' t F => h S' _ t F rfl
theorem asg_plain (F : FR env ρ S) (ok : okTg t tg env.scope = true) (oe : okE m e (kap env.scope) = true) (hs : swapsWithSole [emTg t tg] (em m e) pos.line env = pure false) (hw : swappedStores [emTg t tg] (em m e) env = pure none) (h : Gd (kS env Q) S (asgR I t m ρ H)) :
    wp I (exec (.Assign [emTg t tg] (em m e) pos) env) Q E S.s :=
  wpAny_Assign_stores (evE_snd I m false oe F _ _ (thenV h fun v H1 S1 y t1 r h => by rw [each_tg]; exact assignT_snd ok (F.to t1) r (kA_of h))) hs hw
theorem asg_swap {xs : List Nat} (F : FR env ρ S) (ok : okTg (.vars xs) tg env.scope = true) (oe : okE m e (kap env.scope) = true) (hs : swapsWithSole [emTg (.vars xs) tg] (em m e) pos.line env = pure false) (h23 : xs.length = 2 ∨ xs.length = 3)
    (hw : swappedStores [emTg (.vars xs) tg] (em m e) env = pure (some (xs.map nm))) (h : Gd (kS env Q) S (asgR I (.vars xs) m ρ H)) : wp I (exec (.Assign [emTg (.vars xs) tg] (em m e) pos) env) Q E S.s :=
  Assign_Tuple_swapped (names := xs.map nm) (evE_snd I m false oe F _ _ (thenV h fun v H1 S1 y t1 r h => tupE r (gp_map (gp_then h)) fun vs a ys _ ht rs h => by
    have F1 := F.to t1
    refine Gp.elim h fun ρ' h3 _ => ?_
    have hz : (xs.map nm).length = ys.toArray.size := by rw [List.length_map, List.size_toArray, rs.length, putAll_len h3]
    rw [hz]
    refine wpAny_unpackItems_tuple I.room.handled ht fun h' hex => ?_
    have all : ∀ b o, S1.s.heap.get? b = some o → h'.get? b = some o := fun b o e => hex b o (fun q => by rw [q] at e; exact nsm ((size_none _).symm.trans e)) e
    have t2 := S1.to_grow (s' := { S1.s with heap := h' }) (X := []) all
    obtain ⟨ρ₃, h5, h6⟩ := put_rev (noDupN_ok (andR ok)) h23 h3
    have e1 : ((xs.map nm).reverse.map fun z => bindName env z) = xs.reverse.map fun z => bindName env (nm z) := by rw [← List.map_reverse, List.map_map]; rfl
    rw [e1]
    rw [h3] at h
    refine rowB_snd (S := S1.grow { S1.s with heap := h' } all) (vs := vs.reverse) (fun z hz => stor_in (List.all_eq_true.mp (andL ok) z (List.mem_reverse.mp hz))) (F1.to t2) (VRs.rev (t2.vs (bare_nil _) rs)) ?_
    rw [h5]
    exact fun S3 t3 F3 => h S3 _ (t2.w.trans t3) (F3.congr h6) rfl)) hs hw
end
end Mine
set_option maxRecDepth 100000
set_option autoImplicit false
namespace Mine
open PySem PySem.W PyProof.Rows PySem.Calls PySem.SeqAt
theorem FRz.own_live {Γ : Gam} {H : MH} {S : St Γ H} {env : PySem.Env} {ρ : Env} {Z : List Nat} (F : FRz Z env ρ S) {a : Addr} (h : a ∈ owns env) : ∃ o, S.s.heap.get? a = some o := (List.mem_cons.mp h).elim (fun e => e ▸ F.live) fun h => (F.mine a h).elim fun n e => F.liveC e
section
variable {I : Cx} {E : Value → Shared → Prop} {env : PySem.Env} {ρ : Env} {H : MH} {S : St I.Γ H} {tg e : PySem.Expr} {pos : Pos} {Q : Flow → Shared → Prop}
theorem FRz.beside {Z : List Nat} (F : FRz Z env ρ S) {a : Addr} {h' : Heap} (k : Heap.SameBut a S.s.heap h') (hb : Bare S.s.heap [a]) (hn : a ∉ S.μ.flatten) (h0 : I.Γ.h₀.get? a = none) (no : a ∉ owns env) : FRz Z env ρ (S.turn { S.s with heap := h' } (SameBut.keepsL k) hb hn h0) :=
  F.toX (X := [a]) ⟨⟨[], (List.append_nil _).symm, fun _ m => (nomatch m)⟩, (SameBut.keepsL k).mono fun _ m => List.mem_append_left _ m⟩ hb (fun m => no (List.mem_singleton.mp m ▸ .head _)) fun n c e m => no (List.mem_singleton.mp m ▸ mem_owns e)
theorem asg_comp {el it : ME} {tgt : List Nat} {one : Bool} {ifs : List ME} {z : Nat} (F : FR env ρ S) (ok : okTg (.var z) tg env.scope = true) (oe : okE (.comp el tgt one it ifs) e (kap env.scope) = true)
    (hs : swapsWithSole [emTg (.var z) tg] (em (.comp el tgt one it ifs) e) pos.line env = pure true) (h : Gd (kS env Q) S (asgR I (.var z) (.comp el tgt one it ifs) ρ H)) : wp I (exec (.Assign [emTg (.var z) tg] (em (.comp el tgt one it ifs) e) pos) env) Q E S.s := by
  have o1 := andR oe
  have o2 := andR o1
  have o3 := andR o2
  rw [exec_Assign_arm, hs]
  refine wpAny_bind (wpAny_standAt (wpAny_bind (wpAny_pure ?_)))
  rw [if_pos rfl]
  refine wpAny_bind ?_
  show wp I (evalThenUse (.ListComp (em el (kid e 0)) [⟨emT tgt one (kid e 1), em it (kid e 2), ems ifs ((kids e).drop 3), 0⟩] (scOf e) e.pos) env _) _ E S.s
  rw [arm_evalThenUse_ListComp]
  refine wpAny_bind (comp_snd F (scE (andL o3)) (fun Q E h => evE_snd I it false (andL oe) F Q E h) (fun hk F h => evAll_snd (evEs_all I ifs) (hk ▸ andL o2) F h) (fun hk F h => evE_snd I el false (hk ▸ andL o1) F _ _ h) (gp_then h) fun p S' D Cc hp t r hd hC hns => ?_)
  have no : Cc ∉ owns env := fun m => (F.own_live m).elim fun o q => nsm (hd.symm.trans q)
  refine wpAny_assign_Name (store_snd (F.to t) (stor_in ok) r fun S2 t2 F2 => hns.imp fun m hm => ?_)
  have hm2 : S2.s.heap.Ns Cc m := ns_at hm fun o ho => t2.keeps _ _ ho fun q => (List.mem_append.mp q).elim no hC
  have hC2 := t2.toTk.out hC (ns_get hm)
  exact ⟨hm2, fun h' hsb => wpAny_pure (wpAny_pure (hp _ _ ((t.w.trans t2).beside hd (ns_bare hm2) hC2 hsb) (F2.beside hsb (ns_bare hm2) hC2 (S.dead0 hd) no) rfl))⟩
theorem asg_snd {t : MT} {m : ME} (F : FR env ρ S) (ok : (okTg t tg env.scope && (okE m e (kap env.scope) && (!(kindM m == 1) || okTup (em m e)))) = true) (h : Gd (kS env Q) S (asgR I t m ρ H)) : wp I (exec (.Assign [emTg t tg] (em m e) pos) env) Q E S.s := by
  have oe := andL (andR ok)
  cases h1 : kindM m == 1 with
  | true =>
    obtain ⟨ms, rfl⟩ := tup_of h1
    cases t with
    | vars xs =>
      rcases stores_is (env := env) (xs := xs) (tg := tg) (andR (andR ok)) with hw | ⟨h23, hw⟩
      · exact asg_plain F (andL ok) oe rfl hw h
      · exact asg_swap F (andL ok) oe rfl h23 hw h
    | _ => exact asg_plain F (andL ok) oe rfl rfl h
  | false =>
    have hw := stores_no (env := env) (t := t) (e := e) (tg := tg) h1
    cases h2 : kindM m == 2 with
    | false => exact asg_plain F (andL ok) oe (swaps_sole h2) hw h
    | true =>
      obtain ⟨el, tgt, one, it, ifs, rfl⟩ := comp_of h2
      cases t with
      | var z =>
        have hs : ∃ b, swapsWithSole [emTg (.var z) tg] (em (.comp el tgt one it ifs) e) pos.line env = pure b := ⟨_, rfl⟩
        obtain ⟨b, hs⟩ := hs
        cases b with
        | false => exact asg_plain F (andL ok) oe hs hw h
        | true => exact asg_comp F (andL ok) oe hs h
      | _ => exact asg_plain F (andL ok) oe rfl hw h
theorem aug_slice {m : ME} {i : PySem.Expr} {ov iv new : Value} : augStore (em m i) ov iv new = (do holding [new, ov, iv] (setItem ov iv new); release [new, ov, iv] []; pure .next) := by
  cases m with
  | c v => rw [em_c]; cases isName i <;> rfl
  | _ => rfl
theorem stor_kap {sc : Scope} {x : Nat} (h : stor sc x = true) : (kap sc (nm x) == 1 || kap sc (nm x) == 2) = true := (Bool.or_eq_true_iff.mp h).elim (fun h => by rw [kap, beq_iff_eq.mp h]; rfl) fun h => by rw [kap, beq_iff_eq.mp (andL h)]; rfl
theorem kU_next {H' : MH} {Q : Flow → Shared → Prop} {o : Option MH} {S : St I.Γ H'} (F : FR env ρ S) (h : Gd (kS env Q) S (o.map ((Fl.next, ρ), ·))) : Gd (kU (Q .next)) S o := (gp_map h).mono fun H2 h S2 t2 => h S2 _ t2.w (F.to t2) rfl
theorem aug_snd {t : MT} {op : BOp} {m : ME} (F : FR env ρ S) (ok : (okTg t tg env.scope && (okE m e (kap env.scope) && okAug t)) = true) (h : Gd (kS env Q) S (evS I.C (.aug t op m) ρ H)) : wp I (exec (.AugAssign (emTg t tg) (opOf op) (em m e) pos) env) Q E S.s := by
  have oe := andL (andR ok)
  have ox := andR (andR ok)
  cases t with
  | var z => exact wpAny_AugAssign_Name (bindE h fun a ha h => load_snd F (stor_kap (andL ok)) (ne_of (andR ox)) (notF (andL ox)) ha fun y r =>
      evE_snd I m false oe F _ _ (thenV h fun b H1 S1 yb t1 r1 h => augop_snd (t1.v0 r) r1 (thenV h fun c H2 S2 yc t2 r2 h => store_snd ((F.to t1).to t2) (stor_in (andL ok)) r2 fun S3 t3 F3 => kS_next h t3 F3)))
  | attr o a => exact wpAny_AugAssign_AttributeAny (evE_snd I o false (andL ok) F _ _ (thenV h fun u H1 S1 yo t1 r1 h => getAttr_snd r1 ((gp_bind h).mono fun y h tk yy ry =>
      evE_snd I m false oe ((F.to t1).to (S1.to_toks (n := tk))) _ _ (thenV (S := S1.toks tk) (Gd.up h S1.to_toks) fun b H2 S2 yb t2 r2 h => augop_snd (t2.v0 ry) r2 (thenV h fun c H3 S3 yc t3 r3 h =>
        setAttr_snd ((t2.trans t3).v0 r1) r3 (kU_next ((((F.to t1).to (S1.to_toks (n := tk))).to t2).to t3) h))))))
  | sub o i => exact wpAny_AugAssign_SubscriptAny (evE_snd I o false (andL (andL ok)) F _ _ (thenV h fun u H1 S1 yo t1 r1 h => evE_snd I i false (andR (andL ok)) (F.to t1) _ _ (thenV h fun k H2 S2 yi t2 r2 h =>
      (subscript_snd (I := I) (t2.v0 r1) r2 ((gp_bind h).mono fun y h tk yy ry =>
        evE_snd I m false oe (((F.to t1).to t2).to (S2.to_toks (n := tk))) _ _ (thenV (S := S2.toks tk) (Gd.up h S2.to_toks) fun b H3 S3 yb t3 r3 h => augop_snd (t3.v0 ry) r3 (thenV h fun c H4 S4 yc t4 r4 h =>
          setSub_snd ((t3.trans t4).v0 (t2.v0 r1)) ((t3.trans t4).v0 r2) r4 (kU_next (((((F.to t1).to t2).to (S2.to_toks (n := tk))).to t3).to t4) h))))).elim fun _ x => x.elim fun _ x => x.2.2))) (fun _ _ _ => aug_slice)
  | vars xs => exact ff ox
end
end Mine
set_option maxRecDepth 100000
set_option autoImplicit false
namespace Mine
open PySem PySem.W PyProof.Rows PySem.Calls PySem.SeqAt
section
variable (M : Model) (A : Around) (E : Value → Shared → Prop) (target : PySem.Expr) (body : List Stmt) (it : Value) (env : PySem.Env) (R : Flow → Shared → Prop) (J : Shared → Prop)
noncomputable def fq3 (f : Flow) (s : Shared) : Prop := match f with
  | .next => J s
  | .cont => J s
  | .brk => R .next s
  | .ret v => R (.ret v) s
noncomputable def fq2 (_ : Unit) (s : Shared) : Prop := wpAny M A (execs body env) (fq3 R J) E s
noncomputable def fq1 (v : Value) (_ : Unit) (s : Shared) : Prop := wpAny M A (assign target env v) (fq2 M A E body env R J) E s
noncomputable def fq0 (r : Option Value) (s : Shared) : Prop := match r with
  | none => R .next s
  | some v => wpAny M A (letOwnedTupleGo target it v) (fq1 M A E target body env R J v) E s
noncomputable def wq (b : Bool) (s : Shared) : Prop := match b with
  | true => wpAny M A (execs body env) (fq3 R J) E s
  | false => R .next s
end
section
variable {prog : Program} {w : World} {A : Around} {E : Value → Shared → Prop}
theorem for_loop {Q : Flow → Shared → Prop} {s : Shared} {target iter : PySem.Expr} {body : List Stmt} {it : Value} {env : PySem.Env} (J : Nat → Shared → Prop)
    (turn : ∀ n s E, J n s → wpAny (model prog w) A (pyNext it) (fq0 (model prog w) A E target body it env Q fun s => ∃ m, m < n ∧ J m s) E s) (n : Nat) (h : J n s) :
    codeAny (model prog w) A (.forLoop target it body [] env) (fun r s' => match r with | .ok f => Q f s' | .error e => cameBackBy (model prog w) A env E e s') s :=
  codeAny_forLoop_any J (fun n s hJ => wpAny_mono (turn n s _ hJ) (fun r s h => by
    cases r with
    | none => exact wpAny_execs_nil h
    | some v => exact wpAny_mono h (fun _ s h => wpAny_mono h (fun _ s h => wpAny_mono h (fun f s h => by cases f <;> exact h) fun _ _ h => h) fun _ _ h => h) fun _ _ h => h) fun _ _ h => h) n h
theorem while_loop {Q : Flow → Shared → Prop} {s : Shared} {test : PySem.Expr} {body : List Stmt} {env : PySem.Env} (J : Nat → Shared → Prop)
    (turn : ∀ n s E, J n s → wpAny (model prog w) A (PySem.isTrue test env (eval test env)) (wq (model prog w) A E body env Q fun s => ∃ m, m < n ∧ J m s) E s) (n : Nat) (h : J n s) :
    codeAny (model prog w) A (.whileLoop test body [] env) (fun r s' => match r with | .ok f => Q f s' | .error e => cameBackBy (model prog w) A env E e s') s :=
  codeAny_whileLoop J (fun n s hJ => wpAny_mono (turn n s _ hJ) (fun b s h => by
    cases b with
    | true => exact wpAny_mono h (fun f s h => by cases f <;> exact h) fun _ _ h => h
    | false => exact wpAny_execs_nil h) fun _ _ h => h) n h
end
section
variable {Γ : Gam} {H : MH} {S : St Γ H} {env : PySem.Env} {β : Type} {K : Kn Γ ((Fl × Env) × MH)}
theorem thenS {r : R (Fl × Env)} {k : Fl × Env → MH → R (Fl × Env)} {Q Q1 : Flow → Shared → Prop} (h : Gd (kS env Q) S (andThen r k))
    (c : ∀ fl ρ' H1 (S1 : St Γ H1) f, To (owns env) S S1 → FR env ρ' S1 → FlR S1 fl f → Gd (kS env Q) S1 (k (fl, ρ') H1) → Q1 f S1.s) : Gd (kS env Q1) S r :=
  (gp_then h).mono fun p h S1 f t F r => c p.1.1 p.1.2 p.2 S1 f t F r (kS.upW h t)
theorem To.drop {H' : MH} {S' : St Γ H'} {a : Addr} {X : List Addr} (t : Tk (a :: X) S S') (h : S.s.heap.get? a = none) : Tk X S S' :=
  ⟨t.ext, fun b o e n => t.keeps b o e fun m => (List.mem_cons.mp m).elim (fun q => by rw [q, h] at e; exact nsm e) n⟩
end
section
variable {I : Cx} {env : PySem.Env}
noncomputable def TestOK (I : Cx) (env : PySem.Env) (gt : Env → MH → R Bool) (test : PySem.Expr) : Prop := ∀ {ρ : Env} {H : MH} {S : St I.Γ H} {Q : Bool → Shared → Prop} {E : Value → Shared → Prop}, FR env ρ S → Gd (kO Q) S (gt ρ H) → wp I (PySem.isTrue test env (eval test env)) Q E S.s
noncomputable def BlockOK (I : Cx) (env : PySem.Env) (gb : Env → MH → R (Fl × Env)) (body : List Stmt) : Prop := ∀ {ρ : Env} {H : MH} {S : St I.Γ H} {Q : Flow → Shared → Prop} {E : Value → Shared → Prop}, FR env ρ S → Gd (kS env Q) S (gb ρ H) → wp I (execs body env) Q E S.s
theorem turnS {ρ : Env} {H : MH} {S : St I.Γ H} {fl : Fl} {f : Flow} {Q : Flow → Shared → Prop} {J : Shared → Prop} {k : Env → MH → R (Fl × Env)} (F : FR env ρ S) (r : FlR S fl f) (h : Gd (kS env Q) S (onTurn (fl, ρ) H k)) (c : Gd (kS env Q) S (k ρ H) → J S.s) : fq3 Q J f S.s := by
  cases fl with
  | next => rw [show f = .next from r]; exact c h
  | brk => rw [show f = .brk from r]; exact h S .next (.refl S) F rfl
  | ret v => exact r.elim fun y r => by rw [r.1]; exact h S (.ret y) (.refl S) F ⟨y, rfl, r.2⟩
theorem turnF {fl : Fl} {ρ : Env} {H : MH} {S : St I.Γ H} {f : Flow} {Q : Flow → Shared → Prop} {J : Shared → Prop} {k : Env → MH → R (Fl × Env)} {P : (Fl × Env) × MH → Prop} (r : FlR S fl f) (h : Gp (onTurn (fl, ρ) H k) P) (c : Gp (k ρ H) P → J S.s) (d : ∀ {fl f}, FlR S fl f → P ((fl, ρ), H) → Q f S.s) : fq3 Q J f S.s := by
  cases fl with
  | next => rw [show f = .next from r]; exact c h
  | brk => rw [show f = .brk from r]; exact d (fl := .next) rfl h
  | ret v => exact r.elim fun y q => by rw [q.1]; exact d (fl := .ret v) ⟨y, rfl, q.2⟩ h
noncomputable def WJ (I : Cx) (env : PySem.Env) (gt : Env → MH → R Bool) (gb : Env → MH → R (Fl × Env)) (Q : Flow → Shared → Prop) (n : Nat) (s : Shared) : Prop := ∃ (ρ : Env) (H : MH) (S : St I.Γ H), s = S.s ∧ FR env ρ S ∧ Gd (kS env Q) S (whileGo gt gb n ρ H)
theorem while_snd {gt : Env → MH → R Bool} {gb : Env → MH → R (Fl × Env)} {test : PySem.Expr} {body : List Stmt} {k : Nat} {ρ : Env} {H : MH} {S : St I.Γ H} {Q : Flow → Shared → Prop} {E : Value → Shared → Prop} {pos : Pos} (ht : TestOK I env gt test) (hb : BlockOK I env gb body) (F : FR env ρ S) (h : Gd (kS env Q) S (whileGo gt gb k ρ H)) :
    wp I (exec (.While test body [] pos) env) Q E S.s :=
  wpAny_While (while_loop (WJ I env gt gb Q) (fun n s E hJ => hJ.elim fun ρ hJ => hJ.elim fun H hJ => hJ.elim fun S hJ => by
    rw [hJ.1]
    cases n with
    | zero => exact False.elim hJ.2.2
    | succ m =>
      refine ht hJ.2.1 (thenO (S := S) hJ.2.2 fun b H1 S1 t h => ?_)
      have F1 := hJ.2.1.to t
      cases b with
      | false => exact h S1 .next (.refl S1) F1 rfl
      | true => exact hb F1 (thenS h fun fl ρ' H2 S2 f t2 F2 r h => turnS F2 r h fun h => ⟨m, Nat.lt_succ_self m, ρ', H2, S2, rfl, F2, h⟩)) k ⟨ρ, H, S, rfl, F, h⟩)
theorem forGo_still {src : V} {items : List V} {bnd : V → Env → Option Env} {gb : Env → MH → R (Fl × Env)} {l : List V} {ρ : Env} {H : MH} {P : (Fl × Env) × MH → Prop} (h : Gp (forGo src items bnd gb l ρ H) P) : still src items H = true := by
  cases l with
  | nil => exact ifE h fun e _ => e
  | cons v r => exact ifE h fun e _ => e
theorem bindT_snd {t : MT} {tg : PySem.Expr} {v : V} {y : Value} {ρ : Env} {H : MH} {S : St I.Γ H} {Q : Unit → Shared → Prop} {E : Value → Shared → Prop} {it : Value} {ia : Addr} (ho : ItObj S.s.heap ia) (ok : okTg t tg env.scope = true) (F : FR env ρ S) (r : S.rel v y) (h : Gp (bindT t v ρ) fun ρ' => StTo S (owns env) [] env ρ' Q) :
    wp I (letOwnedTupleGo (emTg t tg) (.ref ia) y) (fun _ s => wp I (assign (emTg t tg) env y) Q E s) E S.s := by
  cases t with
  | var z => exact owned_snd (xs := [z]) (single := true) ho (wpAny_assign_Name (store_snd F (stor_in ok) r fun S' t F' => h S' t F'))
  | vars xs => exact owned_snd (xs := xs) (single := false) ho (bind_snd (single := false) (fun _ h => h) (fun z hz => stor_in (List.all_eq_true.mp (andL ok) z hz)) F r (h.mono fun ρ' h S' t F' => h S' t F'))
  | attr o a => exact False.elim h
  | sub o i => exact False.elim h
variable {H0 : MH} {S0 : St I.Γ H0} {src : V} {items : List V} {x : Value} {ia : Addr} {W : Iter I src items x ia} {gb : Env → MH → R (Fl × Env)} {t : MT} {tg : PySem.Expr} {body : List Stmt}
noncomputable def FJ {H0 : MH} (S0 : St I.Γ H0) (W : Iter I src items x ia) (env : PySem.Env) (gb : Env → MH → R (Fl × Env)) (t : MT) (Q : Flow → Shared → Prop) (n : Nat) (s : Shared) : Prop := ∃ (k : Nat) (ρ : Env) (H : MH) (S : St I.Γ H), s = S.s ∧ n + k = items.length + 1 ∧ Gp (forGo src items (bindT t) gb (items.drop k) ρ H) ((kS env Q).P S0) ∧ LI S0 W (owns env) env [] ρ k S
theorem for_snd {ρ : Env} {H : MH} {S : St I.Γ H} {Q : Flow → Shared → Prop} {E : Value → Shared → Prop} (L : LC I S0 ia (owns env) env) (ok : okTg t tg env.scope = true) (hb : BlockOK I env gb body) (li : LI S0 W (owns env) env [] ρ 0 S) (h : Gp (forGo src items (bindT t) gb items ρ H) ((kS env Q).P S0)) :
    codeAny (model I.Γ.prog I.Γ.w) I.A (.forLoop (emTg t tg) (.ref ia) body [] env) (fun r s' => match r with | .ok f => Q f s' | .error e => cameBackBy (model I.Γ.prog I.Γ.w) I.A env E e s') S.s :=
  for_loop (iter := default) (FJ S0 W env gb t Q) (fun n s E hJ => hJ.elim fun k hJ => hJ.elim fun ρ hJ => hJ.elim fun H hJ => hJ.elim fun S hJ => by
    rw [hJ.1]
    have go := hJ.2.2.1
    have li := hJ.2.2.2
    refine li.next L (forGo_still go) (fun v hv S1 y li1 r up => ?_) fun hn S1 t1 lv g d o F up => ?_
    · have di := drop_item hv
      rw [di.1] at go
      refine bindT_snd (it := .ref ia) (W.obj li1.it) ok li1.fr r (ifE go fun _ go => (gp_bind go).mono fun ρ' go S2 t2 F2 => ?_)
      have li2 := li1.step L t2 F2
      have fin : ∀ {fl : Fl} {f : Flow} {ρ2 : Env} {H3 : MH} {S3 : St I.Γ H3}, LI S0 W (owns env) env [] ρ2 (k + 1) S3 → FlR S3 fl f → (kS env Q).P S0 ((fl, ρ2), H3) → Q f S3.s := fun {fl f ρ2 H3 S3} li3 r h => h S3 f ⟨To.drop li3.to.toTk L.dead, li3.to.live, li3.to.gens, li3.to.drawn, li3.to.os⟩ li3.fr r
      refine hb F2 ((gp_then go).mono fun p go S3 f t3 F3 r3 => ?_)
      have li3 := li2.step L t3 F3
      have hc := cnt_on hJ.2.1 di.2
      exact turnF r3 go (fun go => ⟨n - 1, hc.1, k + 1, p.1.2, p.2, S3, rfl, hc.2, go, li3⟩) fun r h => fin li3 r h
    · rw [List.drop_eq_nil_of_le (List.getElem?_eq_none_iff.mp hn)] at go
      exact ifE go fun _ h => h S1 .next ⟨t1, lv, g, d, o⟩ F rfl) (items.length + 1) ⟨0, ρ, H, S, rfl, rfl, h, li⟩
end
end Mine
set_option maxRecDepth 100000
set_option autoImplicit false
namespace Mine
open PySem PySem.W PyProof.Rows PySem.Calls PySem.SeqAt
section
variable {I : Cx}
noncomputable def OkSt (I : Cx) (m : MS) : Prop := ∀ {s : Stmt} {env : PySem.Env} {ρ : Env} {H : MH} {S : St I.Γ H} {Q : Flow → Shared → Prop} {E : Value → Shared → Prop}, okS m s env.scope = true → FR env ρ S → Gd (kS env Q) S (evS I.C m ρ H) → wp I (exec (emS m s) env) Q E S.s
noncomputable def OkSts (I : Cx) (ms : List MS) : Prop := ∀ {l : List Stmt} {env : PySem.Env} {ρ : Env} {H : MH} {S : St I.Γ H} {Q : Flow → Shared → Prop} {E : Value → Shared → Prop}, okSs ms l env.scope = true → FR env ρ S → Gd (kS env Q) S (evSs I.C ms ρ H) → wp I (execs (emSs ms l) env) Q E S.s
theorem test_of {env : PySem.Env} {c : ME} {e : PySem.Expr} (ok : okE c e (kap env.scope) = true) : TestOK I env (evT I.C c) (em c e) := fun F h => evE_snd I c true ok F _ _ ((gp_then h).mono fun p h => mapE h fun b e h => ⟨b, e, h⟩)
theorem expr_st (e : ME) : OkSt I (.expr e) := fun {s env ρ H S Q E} ok F h => wpAny_Expr_any (evE_snd I e false (andL ok) F _ _ (thenV h fun v H1 S1 z t r h => h S1 .next (.refl S1) (F.to t) rfl)) (by unfold interactive; rw [F.kind]; rfl) (swaps_no (notF (andR ok)))
theorem ret_st (e : ME) : OkSt I (.ret e) := fun {s env ρ H S Q E} ok F h => by
  have ok : okO (okE e) e (prS s).2.1 (kap env.scope) = true := ok
  show wp I (exec (.Return ((prS s).2.1.map (em e)) s.pos) env) Q E S.s
  cases ho : (prS s).2.1 with
  | some x =>
    rw [ho] at ok
    exact wpAny_Return_some (evE_snd I e false ok F _ _ (thenV h fun v H1 S1 z t r h => h S1 (.ret z) (.refl S1) (F.to t) ⟨z, rfl, r⟩))
  | none =>
    rw [ho] at ok
    rw [okO_none ok] at h
    exact wpAny_Return_none (h S (.ret .none) (.refl S) F ⟨_, rfl, rfl⟩)
theorem asg_st (t : MT) (e : ME) : OkSt I (.asg t e) := fun ok F h => asg_snd F ok h
theorem aug_st (t : MT) (op : BOp) (e : ME) : OkSt I (.aug t op e) := fun ok F h => aug_snd F ok h
theorem ite_st {c : ME} {a b : List MS} (ha : OkSts I a) (hb : OkSts I b) : OkSt I (.ite c a b) := fun ok F h => wpAny_If (test_of (andL ok) F (thenO h fun q H1 S1 t h => by
  cases q with
  | true => exact ha (andL (andR ok)) (F.to t) h
  | false => exact hb (andR (andR ok)) (F.to t) h))
theorem whl_st {c : ME} {b : List MS} (hb : OkSts I b) : OkSt I (.whl c b) := fun ok F h => while_snd (test_of (andL ok)) (fun F h => hb (andR ok) F h) F h
theorem for_st {t : MT} {it : ME} {b : List MS} (hb : OkSts I b) : OkSt I (.for_ t it b) := fun {s env ρ H S Q E} ok F h => wpAny_For (evE_snd I it false (andL (andR ok)) F _ _ ((gp_then h).mono fun p h S1 y t1 r1 => iter_snd r1 (gp_bind h) fun items o W e hp h => by
    have d : S.s.heap.get? S1.s.heap.objs.size = none := dead_of t1.live (size_none _)
    have ne : S1.s.heap.objs.size ∉ owns env := fun m => (F.own_live m).elim fun o q => nsm (d.symm.trans q)
    have t2 := S1.to_more (o := o) (X := [])
    exact for_snd (S0 := S) (S := S1.more o) ⟨d, fun _ h => h, ne⟩ (andL (andL ok)) (fun F h => hb (andR (andR ok)) F h) ⟨(t1.trans t2).w, hp, S1.hr.ne (size_none _), (F.to t1).to t2, t2.v0 r1⟩ h)) (fun _ => em_iter ..)
theorem cons_st {m : MS} {ms : List MS} (hm : OkSt I m) (hs : OkSts I ms) : OkSts I (m :: ms) := fun {l env ρ H S Q E} ok F h => wpAny_execs_cons (hm (andL ok) F (thenS h fun fl ρ' H1 S1 f t F1 r h => by
  cases fl with
  | next => rw [show f = .next from r]; exact hs (andR ok) F1 h
  | brk => rw [show f = .brk from r]; exact h S1 .brk (.refl S1) F1 rfl
  | ret v => exact r.elim fun y r => by rw [r.1]; exact h S1 (.ret y) (.refl S1) F1 ⟨y, rfl, r.2⟩))
theorem brk_st : OkSt I .brk := fun {_ _ _ _ S _ _} _ F h => wpAny_Break (h S .brk (.refl S) F rfl)
theorem nil_st : OkSts I [] := fun {_ _ _ _ S _ _} _ F h => wpAny_execs_nil (h S .next (.refl S) F rfl)
theorem bad_st : OkSt I .bad := fun _ _ h => False.elim h
mutual
theorem evS_snd (I : Cx) : ∀ m : MS, OkSt I m
  | .expr e => expr_st e
  | .ret e => ret_st e
  | .asg t e => asg_st t e
  | .aug t op e => aug_st t op e
  | .ite _ a b => ite_st (evSs_snd I a) (evSs_snd I b)
  | .whl _ b => whl_st (evSs_snd I b)
  | .for_ _ _ b => for_st (evSs_snd I b)
  | .brk => brk_st
  | .bad => bad_st
theorem evSs_snd (I : Cx) : ∀ ms : List MS, OkSts I ms
  | [] => nil_st
  | m :: ms => cons_st (evS_snd I m) (evSs_snd I ms)
end
end
end Mine
set_option maxRecDepth 100000
set_option autoImplicit false
namespace Mine
open PySem PySem.W PyProof.Rows PySem.Calls PySem.SeqAt
noncomputable def DefaultsAre (h : Heap) (v : Value) (ds : List Value) : Prop := (v = .none ∧ ds = []) ∨ ∃ T o n, v = .ref T ∧ h.get? T = some o ∧ o.data = .seq ds.toArray n
noncomputable def stepD (S : List (Str × Value)) (p : Str × Value) : List (Str × Value) := if (S.lookup p.1).isNone = true then S ++ [p] else S
theorem fold_lookup : ∀ (L S : List (Str × Value)) (x : Str), (L.foldl stepD S).lookup x = (S.lookup x).or (L.lookup x)
  | [], S, x => (Option.or_none).symm
  | (a, b) :: L, S, x => by
    rw [List.foldl_cons, fold_lookup L, List.lookup_cons]
    unfold stepD
    cases hs : S.lookup a with
    | none =>
      rw [if_pos (show (none : Option Value).isNone = true from rfl), List.lookup_append, Option.or_assoc]
      congr 1
      rw [List.lookup_cons]
      cases x == a <;> rfl
    | some v =>
      rw [if_neg (show ¬ (some v).isNone = true from nofun)]
      cases hx : x == a with
      | true => rw [beq_iff_eq.mp hx, hs]; rfl
      | false => rfl
theorem lookup_zip {β : Type} : ∀ (names : List Str) (vs : List β) (i : Nat) (x : Str), names.Nodup → names[i]? = some x → (names.zip vs).lookup x = vs[i]?
  | [], _, _, _, _, h => nsm h
  | n :: names, [], i, x, _, _ => rfl
  | n :: names, v :: vs, 0, x, _, h => by rw [← Option.some.inj h, List.zip_cons_cons, List.lookup_cons, beq_self_eq_true]; rfl
  | n :: names, v :: vs, i + 1, x, hn, h => by
    have hn := List.nodup_cons.mp hn
    have h : names[i]? = some x := h
    have hx : (x == n) = false := beq_false_of_ne fun e => hn.1 (e ▸ List.mem_of_getElem? h)
    rw [List.zip_cons_cons, List.lookup_cons, hx]
    exact lookup_zip names vs i x hn.2 h
theorem filterMap_zip {f : Str → Option Value} : ∀ (names : List Str) (vs : List Value), names.length = vs.length → (∀ (i : Nat) (x : Str), names[i]? = some x → f x = vs[i]?) → names.filterMap (fun n => (f n).map (n, ·)) = names.zip vs
  | [], _, _, _ => rfl
  | _ :: _, [], h, _ => nomatch h
  | n :: names, v :: vs, hl, h => by
    rw [List.filterMap_cons_some (b := (n, v)) (by rw [h 0 n rfl]; rfl), List.zip_cons_cons]
    exact congrArg _ (filterMap_zip names vs (Nat.succ.inj hl) fun i x hx => h (i + 1) x hx)
section
variable {M : Model} {A : Around} {E : Value → Shared → Prop} {s : Shared}
theorem wp_ifF {α : Type} {c : Prop} [Decidable c] {a b : Sem α} {Q : α → Shared → Prop} (h : ¬c) (hb : wpAny M A b Q E s) : wpAny M A (if c then a else b) Q E s := by rwa [if_neg h]
theorem wpAny_defaults {v : Value} {ds : List Value} (hd : DefaultsAre s.heap v ds) {Q : Option (Array Value) → Shared → Prop} (hQ : ∀ r, (r.getD #[]).toList = ds → Q r s) : wpAny M A (seqItems? v) Q E s := by
  rcases hd with ⟨rfl, rfl⟩ | ⟨T, o, n, rfl, ho, hs⟩
  · exact wpAny_bind (wpAny_pure (wpAny_pure (hQ none rfl)))
  · exact wpAny_seqItems ho hs (hQ _ rfl)
theorem wpAny_fold : ∀ (L S : List (Str × Value)) {Q : List (Str × Value) → Shared → Prop}, Q (L.foldl stepD S) s →
    wpAny M A (forIn L S fun x r => if (List.lookup x.1 r).isNone = true then pure (ForInStep.yield (r ++ [(x.1, x.2)])) else pure (ForInStep.yield r)) Q E s
  | [], S, Q, h => wpAny_pure h
  | (a, b) :: L, S, Q, h => by
    rw [List.forIn_cons]
    rw [List.foldl_cons, stepD] at h
    by_cases hc : (List.lookup a S).isNone = true
    · rw [if_pos hc] at h ⊢
      exact wpAny_bind (wpAny_pure (wpAny_fold L _ h))
    · rw [if_neg hc] at h ⊢
      exact wpAny_bind (wpAny_pure (wpAny_fold L _ h))
theorem nat_a {n x d i : Nat} (h2 : n ≤ x + d) (h3 : d ≤ n) (hi : i < min (n - (d - (d - n))) n) : i < x := by
  rw [Nat.sub_eq_zero_of_le h3, Nat.sub_zero] at hi
  exact Nat.lt_of_lt_of_le (Nat.lt_of_lt_of_le hi (Nat.min_le_left ..)) (Nat.sub_le_iff_le_add.mpr h2)
theorem nat_c {n x d : Nat} (h1 : x ≤ n) (h2 : n ≤ x + d) : n = x + (d - (x + d - n)) := (Nat.le.dest h1).elim fun j e => by
  rw [← e] at h2 ⊢
  rw [Nat.add_sub_add_left, Nat.sub_sub_self (Nat.le_of_add_le_add_left h2)]
theorem nat_e {n x d i : Nat} (h1 : x ≤ i) (h2 : n ≤ x + d) (h3 : d ≤ n) : n - d ≤ i ∧ x + d - n + (i - x) = i - (n - d) := (Nat.le.dest h3).elim fun a e => by
  have ha : a ≤ x := Nat.le_of_add_le_add_left (a := d) (by rw [e, Nat.add_comm d x]; exact h2)
  rw [← e, Nat.add_sub_cancel_left, Nat.add_comm x d, Nat.add_sub_add_left, Nat.add_comm, Nat.sub_add_sub_cancel h1 ha]
  exact ⟨Nat.le_trans ha h1, rfl⟩
theorem slots_is {names : List Str} {xs ds : List Value} (hn : names.Nodup) (h1 : xs.length ≤ names.length) (h2 : names.length ≤ xs.length + ds.length) (h3 : ds.length ≤ names.length) :
    ((names ++ []).filterMap fun n => (List.lookup n (((names.drop (names.length - (ds.drop (ds.length - names.length)).length)).zip (ds.drop (ds.length - names.length))).foldl stepD (names.zip xs))).map (n, ·)) = names.zip (xs ++ ds.drop (xs.length + ds.length - names.length)) := by
  rw [Nat.sub_eq_zero_of_le h3, List.drop_zero, List.append_nil]
  refine filterMap_zip names _ (by rw [List.length_append, List.length_drop]; exact nat_c h1 h2) fun i x hx => ?_
  rw [fold_lookup, lookup_zip names xs i x hn hx]
  have hi := (List.getElem?_eq_some_iff.mp hx).1
  by_cases h : i < xs.length
  · rw [List.getElem?_append_left h, List.getElem?_eq_getElem h]; rfl
  · have h := Nat.le_of_not_lt h
    have e := nat_e h h2 h3
    rw [List.getElem?_append_right h, List.getElem?_eq_none h, Option.none_or]
    have hx' : (names.drop (names.length - ds.length))[i - (names.length - ds.length)]? = some x := by
      rw [List.getElem?_drop, Nat.add_sub_cancel' e.1]; exact hx
    rw [lookup_zip _ ds _ x (hn.sublist (List.drop_sublist _ _)) hx', List.getElem?_drop, e.2]
theorem missing_is {names : List Str} {xs ds : List Value} (hn : names.Nodup) (h2 : names.length ≤ xs.length + ds.length) (h3 : ds.length ≤ names.length) : (!((names.take (names.length - (ds.drop (ds.length - names.length)).length)).filter fun n => (List.lookup n (names.zip xs)).isNone).isEmpty) = false := by
  refine congrArg (!·) (List.isEmpty_iff.mpr (List.filter_eq_nil_iff.mpr ?_))
  intro x hx
  obtain ⟨i, hi, rfl⟩ := List.getElem_of_mem hx
  rw [List.length_take, List.length_drop] at hi
  rw [List.getElem_take, lookup_zip names xs i _ hn (List.getElem?_eq_getElem _), List.getElem?_eq_getElem (nat_a h2 h3 hi)]
  exact nofun
theorem binds_snd {fd : FuncData} {as : List Arg} {kd : List (Option PySem.Expr)} {dd : List PySem.Expr} {xs ds : List Value} (hp : fd.params = ⟨[], as, none, [], kd, none, dd⟩) (hd : DefaultsAre s.heap fd.defaults ds) (hn : (as.map (·.arg)).Nodup)
    (h1 : xs.length ≤ as.length) (h2 : as.length ≤ xs.length + ds.length) (h3 : ds.length ≤ as.length) {Q : List (Str × Value) → Shared → Prop} (hQ : Q ((as.map (·.arg)).zip (xs ++ ds.drop (xs.length + ds.length - as.length))) s) :
    wpAny M A (PySem.bindArgs fd ⟨xs, []⟩) Q E s := by
  have l : (as.map (·.arg)).length = as.length := List.length_map _
  rw [← l] at h1 h2 h3 hQ
  rw [← slots_is hn h1 h2 h3] at hQ
  have hm := missing_is (xs := xs) (ds := ds) hn h2 h3
  unfold PySem.bindArgs
  rw [hp]
  refine wpAny_bind (wpAny_pure (wpAny_bind (wpAny_defaults hd fun r hr => ?_)))
  subst hr
  exact wp_ifF (fun h => absurd (of_decide_eq_true (andL h)) (Nat.not_lt.mpr h1)) (wp_ifF (fun h => ff (hm.symm.trans h)) (wpAny_bind (wpAny_fold _ _ (wpAny_bind (wpAny_pure (wp_ifF nofun (wpAny_pure hQ)))))))
end
end Mine
set_option maxRecDepth 100000
set_option autoImplicit false
namespace Mine
open PySem PySem.W PyProof.Rows PySem.Calls PySem.SeqAt
theorem cells_keys : ∀ (names : List (Str × NameKind)) (k : Nat) (acc : List (Str × Addr)), (cellsFrom k names acc).map (·.1) = ((names.filter fun p => p.2 == .cell).map (·.1)).reverse ++ acc.map (·.1)
  | [], _, _ => rfl
  | (n, kd) :: r, k, acc => by
    rw [List.filter_cons]
    show (if (kd == NameKind.cell) = true then cellsFrom (k + 1) r ((n, k) :: acc) else cellsFrom k r acc).map (·.1) = ((if (kd == NameKind.cell) = true then _ else _ : List (Str × NameKind)).map (·.1)).reverse ++ _
    cases kd == NameKind.cell with
    | true => rw [if_pos rfl, if_pos rfl, cells_keys r, List.map_cons, List.map_cons, List.reverse_cons, List.append_assoc]; rfl
    | false => rw [if_neg nofun, if_neg nofun, cells_keys r]
theorem mem_lookup_nodup {β : Type} {l : List (Str × β)} {n : Str} {c : β} (hn : (l.map (·.1)).Nodup) (h : (n, c) ∈ l) : l.lookup n = some c := by
  induction l with
  | nil => cases h
  | cons p r ih =>
    have hn := List.nodup_cons.mp hn
    rw [List.lookup_cons]
    rcases List.mem_cons.mp h with e | e
    · rw [← e, beq_self_eq_true]
    · rw [beq_false_of_ne fun q => hn.1 (List.mem_map.mpr ⟨_, e, q⟩)]; exact ih hn.2 e
theorem bind_at {f : List (Str × Value) → (Str → Option Value) → Str → Option Value} {st : (Str → Option Value) → Str → Value → Str → Option Value} (e0 : ∀ m, f [] m = m) (e1 : ∀ a b r m, f ((a, b) :: r) m = f r (st m a b)) {n : Str} {v : Value}
    (h0 : ∀ m a b, n ≠ a → st m a b n = m n) (h1 : ∀ m, st m n v n = some v) : ∀ {binds : List (Str × Value)} {m : Str → Option Value}, (binds.map (·.1)).Nodup → (n, v) ∈ binds → f binds m n = some v := by
  have other : ∀ (binds : List (Str × Value)) (m : Str → Option Value), (∀ u, (n, u) ∉ binds) → f binds m n = m n := fun binds => by
    induction binds with
    | nil => exact fun m _ => by rw [e0]
    | cons q r ih =>
      exact fun m h => by
        rw [show q = (q.1, q.2) from rfl, e1, ih _ fun u hu => h u (.tail _ hu), h0 _ _ _ fun e => h q.2 (by rw [e]; exact .head _)]
  intro binds
  induction binds with
  | nil => exact fun _ h => nomatch h
  | cons q r ih =>
    intro m hn h
    have hn := List.nodup_cons.mp hn
    rcases List.mem_cons.mp h with e | e
    · rw [← e, e1, other r _ fun u hu => hn.1 (List.mem_map.mpr ⟨_, hu, congrArg (·.1) e⟩), h1]
    · rw [show q = (q.1, q.2) from rfl, e1]; exact ih hn.2 e
section
variable {kf : Str → Option NameKind} {binds : List (Str × Value)} {m : Str → Option Value} {n : Str} {v : Value}
theorem bindL_at (hn : (binds.map (·.1)).Nodup) (hk : kf n = some .local) (h : (n, v) ∈ binds) : bindL kf binds m n = some v :=
  bind_at (f := bindL kf) (st := fun m a b => if kf a = some .local then fun y => if y = a then some b else m y else m) (fun _ => rfl) (fun _ _ _ _ => rfl) (fun m a b e => by
    by_cases hk : kf a = some .local
    · exact (congrFun (if_pos hk) n).trans (if_neg e)
    · exact congrFun (if_neg hk) n) (fun m => (congrFun (if_pos hk) n).trans (if_pos rfl)) hn h
theorem bindC_at (hn : (binds.map (·.1)).Nodup) (hk : kf n ≠ some .local) (h : (n, v) ∈ binds) : bindC kf binds m n = some v :=
  bind_at (f := bindC kf) (st := fun m a b => if kf a = some .local then m else fun y => if y = a then some b else m y) (fun _ => rfl) (fun _ _ _ _ => rfl) (fun m a b e => by
    by_cases hk : kf a = some .local
    · exact congrFun (if_pos hk) n
    · exact (congrFun (if_neg hk) n).trans (if_neg e)) (fun m => (congrFun (if_neg hk) n).trans (if_pos rfl)) hn h
end
theorem zip_get : ∀ {xs : List Nat} {vs : List V} {x : Nat} {v : V}, Env.get (xs.zip vs) x = some v → ∃ i : Nat, xs[i]? = some x ∧ vs[i]? = some v
  | [], _, _, _, h => nsm h
  | _ :: _, [], _, _, h => nsm h
  | a :: r, b :: q, x, v, h => by
    have h : (if a = x then some b else Env.get (r.zip q) x) = some v := h
    by_cases e : a = x
    · rw [if_pos e] at h; exact ⟨0, congrArg some e, h⟩
    · rw [if_neg e] at h; exact (zip_get h).elim fun i h => ⟨i + 1, h⟩
theorem VRs.drop {h : Heap} {μ : Mu} : ∀ {vs : List V} {ys : List Value} (k : Nat), VRs h μ vs ys → VRs h μ (vs.drop k) (ys.drop k)
  | _, _, 0, e => e
  | [], _, k + 1, e => by cases e; exact rfl
  | v :: vs, _, k + 1, e => e.elim fun y e => e.elim fun ys e => by rw [e.1]; exact VRs.drop k e.2.2
noncomputable def stor0 (sc : Scope) (x : Nat) : Prop := sc.names.lookup (nm x) = some .local ∨ sc.names.lookup (nm x) = some .cell
structure FnHas (h₀ : Heap) (f : Nat) (ps : List Nat) (dfl : List V) (fd : FuncData) (body : List Stmt) : Prop where
  at_ : ∃ o, h₀.get? f = some o ∧ o.data = .func fd
  co : fd.scope.isCoroutine = false
  ge : fd.scope.isGenerator = false
  kind : fd.scope.kind = .function
  body : fd.body = .stmts body
  code : h₀.CodeRec fd.code fd.qualname
  clos : fd.closure = []
  globals : fd.globals = mainGlobals
  blt : fd.builtins = builtinsNs
  params : ∃ as kd dd, fd.params = ⟨[], as, none, [], kd, none, dd⟩ ∧ as.map (·.arg) = ps.map nm
  dflt : ∃ ds, DefaultsAre h₀ fd.defaults ds ∧ VRs h₀ [] dfl ds
  len : dfl.length ≤ ps.length
  nodup : ps.Nodup
  stor : ∀ p ∈ ps, stor0 fd.scope p
  keys : (fd.scope.names.map (·.1)).Nodup
  free : ∀ y ∈ fd.scope.names, y.2 ≠ .free
section
variable (Γ : Gam)
noncomputable def kR {Γ : Gam} (env : PySem.Env) (Q : Flow → Shared → Prop) : Kn Γ (V × MH) := ⟨fun S p => ∀ (S' : St Γ p.2) (y : Value) (fw : Flow), To (owns env) S S' → S'.rel p.1 y → (fw = .ret y ∨ (fw = .next ∧ y = .none)) → Q fw S'.s, fun t h S' y fw p => h S' y fw (t.w.trans p)⟩
noncomputable def BodyOK (n : Nat) (fd : FuncData) (body : List Stmt) (ρ : Env) (H : MH) (r : R V) : Prop :=
  ∀ (A : Around) (env : PySem.Env) (S : St Γ H) (Q : Flow → Shared → Prop) (E : Value → Shared → Prop), Room n A → env.scope = fd.scope → env.code = fd.code → S.s.heap.NoLimit → FR env ρ S → Gd (kR env Q) S r → wpAny Γ.M A (execs body env) Q E S.s
end
theorem DefaultsAre.up {h h' : Heap} {v : Value} {ds : List Value} (k : ∀ b o, h.get? b = some o → h'.get? b = some o) (x : DefaultsAre h v ds) : DefaultsAre h' v ds := x.imp_right fun x => x.imp fun _ x => x.imp fun _ x => x.imp fun _ x => ⟨x.1, k _ _ x.2.1, x.2.2⟩
section
variable {Γ : Gam} {H : MH} {S : St Γ H} {fd : FuncData} {ps : List Nat} {vals : List V} {ys : List Value} {env : PySem.Env} {qual : Str} {a : Addr} {s1 : Shared}
theorem lookup_cells {names : List (Str × NameKind)} {y : Str} {k : Nat} (h : names.lookup y = some .cell) : ∃ c, (cellsFrom k names []).lookup y = some c := by
  have h1 : y ∈ (cellsFrom k names []).map (·.1) := by
    rw [cells_keys, List.map_nil, List.append_nil, List.mem_reverse]
    exact List.mem_map.mpr ⟨_, List.mem_filter.mpr ⟨lookup_mem h, rfl⟩, rfl⟩
  obtain ⟨⟨b, c⟩, hp, e⟩ := List.mem_map.mp h1
  exact mem_lookup (show (y, c) ∈ _ from (show b = y from e) ▸ hp)
theorem zip_mem {ps : List Nat} {ys : List Value} {i z : Nat} {X : Value} (h1 : ps[i]? = some z) (h2 : ys[i]? = some X) : (nm z, X) ∈ (ps.map nm).zip ys :=
  List.mem_of_getElem? (List.getElem?_zip_eq_some.mpr ⟨by rw [List.getElem?_map, h1]; rfl, h2⟩)
theorem callFrame {body : List Stmt} {dfl : List V} {f : Nat} (hf : FnHas Γ.h₀ f ps dfl fd body) (hl : ys.length = ps.length) (r : S.rels vals ys) (henv : env = newEnv fd.scope S.s.heap.objs.size mainGlobals (cellsFrom (S.s.heap.objs.size + 1) fd.scope.names []) qual (some a) fd.code none builtinsNs)
    (ic : InCallC S.s env.locals (bindL env.kindOf ((ps.map nm).zip ys) fun _ => none) env.cells (bindC env.kindOf ((ps.map nm).zip ys) fun _ => none) s1) (keep : ∀ b o, S.s.heap.get? b = some o → s1.heap.get? b = some o) : FR env (ps.zip vals) (S.grow s1 keep) := by
  have hloc : env.locals = S.s.heap.objs.size := by rw [henv]; rfl
  have hce : env.cells = cellsFrom (S.s.heap.objs.size + 1) fd.scope.names [] := by rw [henv]; rfl
  have kof : ∀ y, env.kindOf y = fd.scope.names.lookup y := fun y => by rw [henv]; rfl
  have cd : ∀ {y c}, cellAt env y c → S.s.heap.get? c = none := fun {y c} h => by
    cases e : S.s.heap.get? c with
    | none => rfl
    | some o => exact absurd (Heap.lt_size e) (Nat.not_lt.mpr (Nat.le_of_lt (hloc ▸ ic.above y c (lookup_mem h))))
  have bn : (((ps.map nm).zip ys).map (·.1)).Nodup := by
    rw [List.map_fst_zip (by rw [List.length_map, hl]; exact Nat.le_refl _), List.Nodup, List.pairwise_map]
    exact hf.nodup.imp fun h e => h (nm_inj e)
  have inz : ∀ {y u}, Env.get (ps.zip vals) y = some u → ∃ X, (nm y, X) ∈ (ps.map nm).zip ys ∧ (S.grow s1 keep).rel u X := fun {y u} hg => (zip_get hg).elim fun i e => (r.get e.2).elim fun X q => ⟨X, zip_mem e.1 q.1, VR.stay (W := []) (fun b o e _ => keep b o e) (bare_nil _) q.2⟩
  exact ⟨by rw [henv]; exact hf.kind, by rw [henv]; rfl, by rw [henv]; rfl, ⟨_, ic.toInCall.ns, fun y u _ hk _ hg => (inz hg).imp fun X q => ⟨bindL_at bn hk q.1, q.2⟩⟩,
    fun y hy => hy.elim (fun hy => by simp only [cellAt, hce]; exact lookup_cells ((kof y).symm.trans hy)) fun hy => absurd rfl (hf.free _ (lookup_mem ((kof y).symm.trans hy))),
    fun y u c hk hc hg => (inz hg).imp fun X q => ⟨by
      have := ic.cell _ c hc
      rwa [bindC_at bn (fun e => hk.elim (fun k => nomatch e.symm.trans k) fun k => nomatch e.symm.trans k) q.1] at this, q.2⟩,
    fun y c h => ⟨_, ic.cell y c h⟩, by rw [hloc]; exact ⟨S.hr.ne (size_none _), S.dead0 (size_none _)⟩, fun y c h => ⟨S.hr.ne (cd h), fun _ => S.dead0 (cd h)⟩, fun y y' c h h' => name_of_addr ic.apart (lookup_mem h) (lookup_mem h'),
    fun c hc => (List.mem_map.mp hc).elim fun p q => ⟨p.1, by
      have : (env.cells.map (·.1)).Nodup := by
        rw [hce, cells_keys, List.map_nil, List.append_nil, List.Nodup, List.pairwise_reverse]
        exact (hf.keys.sublist (List.filter_sublist.map _)).imp fun h e => h e.symm
      exact mem_lookup_nodup this (q.2 ▸ q.1)⟩⟩
theorem FRz.owns_dead {Z : List Nat} {env : PySem.Env} {ρ : Env} {S1 : St Γ H} (F : FRz Z env ρ S1) (h1 : S.s.heap.get? env.locals = none) (h2 : ∀ y c, cellAt env y c → S.s.heap.get? c = none) : ∀ b ∈ owns env, S.s.heap.get? b = none := fun b hb => (List.mem_cons.mp hb).elim (fun e => e ▸ h1) fun h => (F.mine b h).elim fun n e => h2 n b e
end
end Mine
set_option maxRecDepth 100000
set_option autoImplicit false
namespace Mine
open PySem PySem.W PyProof.Rows PySem.Calls PySem.SeqAt
section
variable {Γ : Gam} {C : Ctx} {n : Nat}
theorem bind_len {mf : MF} {args : List V} {ρ : Env} (h : Mine.bindArgs mf args = some ρ) : (args.length ≤ mf.params.length ∧ mf.params.length ≤ args.length + mf.dflts.length) ∧ ρ = mf.params.zip (args ++ mf.dflts.drop (args.length + mf.dflts.length - mf.params.length)) := by
  unfold Mine.bindArgs at h
  by_cases c : args.length ≤ mf.params.length ∧ mf.params.length ≤ args.length + mf.dflts.length
  · rw [if_pos c] at h; exact ⟨c, (Option.some.inj h).symm⟩
  · rw [if_neg c] at h; exact nsm h
theorem call_gen {f : Nat} {mf : MF} {fd : FuncData} {body : List Stmt} {args : List V} {H : MH} {g : Env → R V} (hf : FnHas Γ.h₀ f mf.params mf.dflts fd body) (hlim : Γ.h₀.NoLimit) (hB : ∀ ρ, Mine.bindArgs mf args = some ρ → BodyOK Γ n fd body ρ H (g ρ)) : CallOK Γ (n + 1) f args H ((Mine.bindArgs mf args).bind g) :=
  fun A S xs R room rs h => bindE h fun ρ hρ h => by
    obtain ⟨⟨h1, h2⟩, eρ⟩ := bind_len hρ
    obtain ⟨o, ho, hd⟩ := hf.at_
    obtain ⟨as, kd, dd, hp, hn⟩ := hf.params
    obtain ⟨ds, hdef, hds⟩ := hf.dflt
    have l1 := rs.length
    have l2 := hds.length
    have l3 : as.length = mf.params.length := by have := congrArg List.length hn; rwa [List.length_map, List.length_map] at this
    have hinj : (as.map (·.arg)).Nodup := by
      rw [hn, List.Nodup, List.pairwise_map]
      exact hf.nodup.imp fun h e => h (nm_inj e)
    refine codeAny_call_function (Nat.lt_of_le_of_lt (Nat.le_trans (Nat.le_add_right _ _) (Nat.le_add_right _ _)) room.depth) (S.hr.base _ _ ho) hd hf.co hf.ge hf.body (hf.code.keeps S.hr.base) ?_
    refine binds_snd hp (hdef.up S.hr.base) hinj (by rw [l1, l3]; exact h1) (by rw [l1, l2, l3]; exact h2) (by rw [l2, l3]; exact hf.len) ?_
    rw [hn, hf.globals, hf.clos, hf.blt, l1, l2, l3]
    have rys : S.rels (args ++ mf.dflts.drop (args.length + mf.dflts.length - mf.params.length)) (xs ++ ds.drop (args.length + mf.dflts.length - mf.params.length)) := rs.append ((S.vs0 hds).drop _)
    have lys : (xs ++ ds.drop (args.length + mf.dflts.length - mf.params.length)).length = mf.params.length := by rw [List.length_append, List.length_drop, l1, l2]; exact (nat_c h1 h2).symm
    generalize xs ++ ds.drop (args.length + mf.dflts.length - mf.params.length) = ys at rys lys ⊢
    rw [eρ] at hρ h
    refine wpAny_newFunctionEnv_cells hf.kind (fun p hp => ?_) fun env henv s1 ic => ?_
    · obtain ⟨i, hi, e⟩ := List.getElem_of_mem (List.of_mem_zip (show (p.1, p.2) ∈ _ from hp)).1
      rw [List.getElem_map] at e
      rcases hf.stor _ (List.getElem_mem (by rwa [List.length_map] at hi)) with h | h
      · exact .inl (e ▸ h)
      · exact .inr (e ▸ ⟨h, (lookup_cells h).elim fun c hc => by rw [hc]; rfl⟩)
    obtain ⟨h', tk, hs1, keep⟩ := ic.done
    have keep1 : ∀ b o, S.s.heap.get? b = some o → s1.heap.get? b = some o := by rw [hs1]; exact keep
    have t1 : To [] S (S.grow s1 keep1) := S.to_grow keep1 (by rw [hs1]) (by rw [hs1]) (by rw [hs1])
    have F1 := callFrame hf lys rys henv ic keep1
    have lim := (hlim.keeps S.hr.base).keeps keep1
    have hloc : env.locals = S.s.heap.objs.size := by rw [henv]; rfl
    have dset := F1.owns_dead (S := S) (by rw [hloc]; exact size_none _) fun y c e => by
      cases q : S.s.heap.get? c with
      | none => rfl
      | some o => exact absurd (Heap.lt_size q) (Nat.not_lt.mpr (Nat.le_of_lt (hloc ▸ ic.above y c (lookup_mem e))))
    refine ⟨lim, codeAny_func ?_⟩
    refine hB _ hρ (A.deeper env) env (S.grow s1 keep1) _ _ room.deeper (by rw [henv]; rfl) (by rw [henv]; rfl) lim F1 (h.mono fun p h S2 y fw t r hfw => ?_)
    have t2 : To (owns env) S S2 := t1.w.trans t
    have fin := h S2 y ⟨t2.toTk.dead dset, t2.live, t2.gens, t2.drawn, t2.os⟩ r
    rcases hfw with e | ⟨e, e'⟩
    · rw [e]; exact fin
    · rw [e]; rw [e'] at fin; exact fin
noncomputable def FnRep (h₀ : Heap) (f : Nat) (mf : MF) : Prop := ∃ fd body, FnHas h₀ f mf.params mf.dflts fd body ∧ emSs mf.body body = body ∧ okSs mf.body body fd.scope = true
theorem call_fn {f : Nat} {mf : MF} {args : List V} {H : MH} (hf : FnRep Γ.h₀ f mf) (hlim : Γ.h₀.NoLimit) (tabs : Tabs Γ C) (glob : GlobOK Γ.h₀) (cs : CSound Γ n C) : CallOK Γ (n + 1) f args H (runF C mf args H) :=
  hf.elim fun fd hf => hf.elim fun body hf => call_gen hf.1 hlim fun ρ _ A env S Q E room hsc _ _ F h => by
    rw [← hf.2.1]
    refine evSs_snd ⟨Γ, C, n, A, room, tabs, glob, cs⟩ mf.body (hsc ▸ hf.2.2) F ((gp_then h).mono fun p h S2 fw t F2 r => mapE h fun u e h => ?_)
    have h : (kR env Q).P S (u, p.2) := h
    obtain ⟨⟨fl, ρ'⟩, H2⟩ := p
    cases fl with
    | next => rw [show fw = .next from r]; rw [← Option.some.inj e] at h; exact h S2 _ _ t rfl (.inr ⟨rfl, rfl⟩)
    | brk => exact nsm e
    | ret v => exact r.elim fun y r => by rw [← Option.some.inj e] at h; exact h S2 y _ t r.2 (.inl r.1)
end
end Mine
set_option maxRecDepth 100000
set_option autoImplicit false
namespace Mine
open PySem PySem.W PyProof.Rows PySem.Calls PySem.SeqAt
section
variable {Γ : Gam} {n : Nat} {H : MH}
theorem call_cls_snd {c fI : Nat} {args : List V} {r : R V} (X : Γ.K.In Γ.h₀) (hm : makesIn Γ.K c = true) (hi : findIn Γ.K (.ref c) "__init__" = some (some (.ref fI))) (hf : isFn Γ.K (.ref fI) = true)
    (ho : CallOK Γ n fI (.loc H.length :: args) (H ++ [.inst c []]) r) : CallOK Γ (n + 1) c args H (r.bind fun p => if isNo p.1 then some (.loc H.length, p.2) else none) := by
  intro A S xs R room rs h
  obtain ⟨⟨hh, g, d, t, os⟩, μ, hr⟩ := S
  refine make_core (makes_of (X.keeps hr.base) hm) (looks_findIn (X.keeps hr.base) hi) (fun self => bind_fn (X.keeps hr.base) self (beq_iff_eq.mp hf)) (.inl rfl) ?_
  have n2 : hh.get? (hh.objs.size + 1) = none := by
    cases e : hh.get? (hh.objs.size + 1) with
    | none => rfl
    | some o' => exact absurd (Heap.lt_size e) (Nat.not_lt.mpr (Nat.le_succ _))
  let S1 : St Γ (H ++ [.inst c []]) := St.put ⟨⟨hh, g, d, t, os⟩, μ, hr⟩ ⟨(hh.push emptyDict).push (instObj c hh.objs.size), g, d, t, os⟩ [hh.objs.size + 1, hh.objs.size] (fun b o hb => Heap.get?_push_of_some _ (Heap.get?_push_of_some _ hb))
    (List.nodup_cons.mpr ⟨fun m => absurd (List.mem_singleton.mp m) (Nat.succ_ne_self _), List.nodup_cons.mpr ⟨nofun, List.nodup_nil⟩⟩) (fun a ha => (List.mem_cons.mp ha).elim (fun e => e ▸ n2) fun ha => by rw [List.mem_singleton.mp ha]; exact size_none hh)
    ⟨hh.objs.size + 1, hh.objs.size, [], 0, rfl, Heap.size_push hh emptyDict ▸ Heap.get?_push_size (hh.push emptyDict) (o := instObj c hh.objs.size) rfl, Heap.get?_push_of_some _ (Heap.get?_push_size _ rfl), rfl⟩
  have t1 : To [] (⟨⟨hh, g, d, t, os⟩, μ, hr⟩ : St Γ H) S1 := St.to_put _
  have rl : S1.rel (.loc H.length) (.ref (hh.objs.size + 1)) := ⟨_, [hh.objs.size], St.put_loc (S := ⟨⟨hh, g, d, t, os⟩, μ, hr⟩), rfl⟩
  exact ho _ S1 (.ref (hh.objs.size + 1) :: xs) _ room.make ⟨_, _, rfl, rl, t1.vs (bare_nil _) rs⟩ ((gp_bind h).mono fun p h S2 y t2 r2 => ifE h fun e h => by
    rw [isNo_eq e] at r2
    exact ⟨r2, h S2 _ (t1.trans t2) (t2.v0 rl)⟩)
theorem get_front {μ ν : Mu} {i : Nat} {x : List Addr} (h : ν[i]? = some x) : (μ ++ ν)[μ.length + i]? = some x := by
  rw [List.getElem?_append_right (Nat.le_add_right _ _), Nat.add_sub_cancel_left]; exact h
mutual
theorem VR.shift {h : Heap} {μ ν : Mu} : ∀ {v : V} {y : Value}, VR h ν v y → VR h (μ ++ ν) (shV μ.length v) y
  | .none, _, e => e
  | .bool _, _, e => e
  | .int _, _, e => e
  | .str _, _, e => e
  | .ref _, _, e => e
  | .bi _, _, e => e
  | .rng _, _, e => e
  | .loc i, _, e => e.elim fun a e => e.elim fun r e => ⟨a, r, get_front e.1, e.2⟩
  | .tup vs, _, e => e.elim fun a e => e.elim fun xs e => ⟨a, xs, e.1, e.2.1, VRs.shift e.2.2⟩
theorem VRs.shift {h : Heap} {μ ν : Mu} : ∀ {vs : List V} {ys : List Value}, VRs h ν vs ys → VRs h (μ ++ ν) (shVs μ.length vs) ys
  | [], _, e => e
  | v :: vs, _, e => e.elim fun y e => e.elim fun ys e => ⟨y, ys, e.1, VR.shift e.2.1, VRs.shift e.2.2⟩
end
theorem shVs_length (k : Nat) : ∀ vs : List V, (shVs k vs).length = vs.length
  | [] => rfl
  | _ :: r => congrArg (· + 1) (shVs_length k r)
mutual
theorem VR.any {h : Heap} {μ ν : Mu} : ∀ {v : V} {y : Value}, noLoc v = true → VR h μ v y → VR h ν v y
  | .none, _, _, e => e
  | .bool _, _, _, e => e
  | .int _, _, _, e => e
  | .str _, _, _, e => e
  | .ref _, _, _, e => e
  | .bi _, _, _, e => e
  | .rng _, _, _, e => e
  | .loc i, _, n, e => ff n
  | .tup vs, _, n, e => e.elim fun a e => e.elim fun xs e => ⟨a, xs, e.1, e.2.1, VRs.any n e.2.2⟩
theorem VRs.any {h : Heap} {μ ν : Mu} : ∀ {vs : List V} {ys : List Value}, noLocs vs = true → VRs h μ vs ys → VRs h ν vs ys
  | [], _, _, e => e
  | v :: vs, _, n, e => e.elim fun y e => e.elim fun ys e => ⟨y, ys, e.1, VR.any (Bool.and_eq_true_iff.mp n).1 e.2.1, VRs.any (Bool.and_eq_true_iff.mp n).2 e.2.2⟩
end
theorem ARs.shift {h : Heap} {μ ν : Mu} : ∀ {as : List (Nat × V)} {es : List DictEntry}, ARs h ν as es → ARs h (μ ++ ν) (as.map fun p => (p.1, shV μ.length p.2)) es
  | [], _, e => e
  | (_, _) :: _, _, e => e.elim fun y e => e.elim fun q e => ⟨y, q, e.1, e.2.1, VR.shift e.2.2.1, ARs.shift e.2.2.2⟩
theorem inDict_sh (k : Nat) (s : List Nat) : ∀ es : List (List Nat × V), inDict s (es.map fun p => (p.1, shV k p.2)) = (inDict s es).map (shV k)
  | [] => rfl
  | p :: r => by
    show (if p.1 = s then some (shV k p.2) else inDict s (r.map _)) = (if p.1 = s then some p.2 else inDict s r).map (shV k)
    by_cases h : p.1 = s
    · rw [if_pos h, if_pos h]; rfl
    · rw [if_neg h, if_neg h]; exact inDict_sh k s r
theorem ORel.shift {h : Heap} {μ ν : Mu} {o : O} {l : List Addr} (x : ORel Γ h ν o l) : ORel Γ h (μ ++ ν) (shO μ.length o) l := by
  cases o with
  | list vs => exact x.elim fun a x => x.elim fun xs x => x.elim fun n x => ⟨a, xs, n, x.1, x.2.1, x.2.2.1.shift, by rw [shVs_length]; exact x.2.2.2⟩
  | inst c as => exact x.elim fun a x => x.elim fun d x => x.elim fun es x => x.elim fun n x => ⟨a, d, es, n, x.1, x.2.1, x.2.2.1, x.2.2.2.shift⟩
  | dict es => exact x.elim fun a x => x.elim fun f x => ⟨a, f, x.1, x.2.1, fun key => by
      have := x.2.2 key
      rw [inDict_sh]
      cases hi : inDict key.cps.toList es with
      | some v => rw [hi] at this; exact this.elim fun y h => ⟨y, h.1, h.2.shift⟩
      | none => rw [hi] at this; exact this⟩
  | tab b => exact x
theorem HR.beside {μ ν : Mu} {H0 : MH} {h h' : Heap} (x : HR Γ μ H h) (y : HR Γ ν H0 h') (k : ∀ b o, h.get? b = some o → h'.get? b = some o) (d : ∀ a ∈ ν.flatten, h.get? a = none) : HR Γ (μ ++ ν) (H ++ H0.map (shO H.length)) h' where
  len := by rw [List.length_append, List.length_append, List.length_map, x.len, y.len]
  nodup := by
    rw [List.flatten_append, List.nodup_append]
    exact ⟨x.nodup, y.nodup, fun a ha b hb e => x.ne (d b hb) (e ▸ ha)⟩
  fresh := fun a ha => by
    rw [List.flatten_append] at ha
    exact (List.mem_append.mp ha).elim (x.fresh a) (y.fresh a)
  base := fun b o e => k b o (x.base b o e)
  obj := fun i o l h1 h2 => by
    rw [List.getElem?_append] at h1 h2
    rw [x.len] at h2
    by_cases hi : i < H.length
    · rw [if_pos hi] at h1 h2
      exact (x.obj i o l h1 h2).keeps Γ (W := []) (fun b o e _ => k b o e) (bare_nil _) fun _ _ m => nomatch m
    · rw [if_neg hi] at h1 h2
      rw [List.getElem?_map] at h1
      obtain ⟨o', h3, rfl⟩ := Option.map_eq_some_iff.mp h1
      exact x.len ▸ (y.obj _ o' l h3 h2).shift (μ := μ)
theorem CallOK.framed {f : Nat} {args : List V} {r : R V} (c : CallOK Γ n f args [] r) (hn : noLocs args = true) : CallOK Γ n f args H (r.map fun r => (shV H.length r.1, H ++ r.2.map (shO H.length))) := by
  intro A S xs R room rs h
  let S0 : St Γ [] := ⟨S.s, [], ⟨rfl, List.nodup_nil, fun _ m => (nomatch m), S.hr.base, fun _ _ _ e => nsm e⟩⟩
  refine c A S0 xs R room (rs.any hn) ((gp_map h).mono fun p h S1 y t r => ?_)
  obtain ⟨ν, e1, e2⟩ := t.ext
  have e1 : S1.μ = ν := e1
  have k : ∀ b o, S.s.heap.get? b = some o → S1.s.heap.get? b = some o := fun b o e => t.keeps b o e fun m => nomatch m
  have r' : S1.rel p.1 y := r
  rw [← e1] at e2
  have rs' := VR.shift (μ := S.μ) r'
  rw [S.hr.len] at rs'
  exact h ⟨S1.s, S.μ ++ S1.μ, S.hr.beside S1.hr k e2⟩ y ⟨⟨⟨S1.μ, rfl, e2⟩, fun b o e _ => k b o e⟩, fun b o e => ⟨o, k b o e⟩, t.gens, t.drawn, t.os⟩ rs'
end
structure PrgOK (Γ : Gam) (P : Prg) : Prop where
  lim : Γ.h₀.NoLimit
  glob : GlobOK Γ.h₀
  tabs : Tabs Γ (P.ctx 0)
  fns : ∀ f mf, P.fns f = some mf → FnRep Γ.h₀ f mf ∧ keepIn Γ.K (.ref f) = true
  cls : ∀ c i, P.cls c = some i → makesIn Γ.K c = true ∧ findIn Γ.K (.ref c) "__init__" = some (some (.ref i)) ∧ isFn Γ.K (.ref i) = true ∧ keepIn Γ.K (.ref c) = true
  nat : ∀ f o, P.nat f = some o → (∀ n H, CallOK Γ (n + 1) f [] H (some (.loc H.length, H ++ [o]))) ∧ keepIn Γ.K (.ref f) = true
  ora : ∀ n f args H, (CSound Γ n (P.ctx n) → CallOK Γ (n + 1) f args H (P.ora n f args H)) ∧ ∀ p, P.ora n f args H = some p → KeepOK Γ f
section
variable {Γ : Gam} {P : Prg}
theorem tabs_ctx (T : Tabs Γ (P.ctx 0)) : ∀ n, Tabs Γ (P.ctx n)
  | 0 => T
  | _ + 1 => ⟨T.X, T.sys, T.clist, T.cdict, T.attr, T.meth⟩
theorem PrgOK.keep (x : PrgOK Γ P) {f : Nat} (h : keepIn Γ.K (.ref f) = true) : KeepOK Γ f := fun hh b => keeps_K h hh (x.tabs.X.keeps b)
noncomputable def SndC (Γ : Gam) (n f : Nat) (args : List V) (H : MH) (r : R V) : Prop := CallOK Γ (n + 1) f args H r ∧ ∀ p, r = some p → KeepOK Γ f
theorem SndC.mk {n f : Nat} {args : List V} {H : MH} {r : R V} (c : CallOK Γ (n + 1) f args H r) (k : KeepOK Γ f) : SndC Γ n f args H r := ⟨c, fun _ _ => k⟩
theorem PrgOK.sound (x : PrgOK Γ P) : ∀ n, CSound Γ n (P.ctx n)
  | 0 => fun f args H => ⟨fun _ _ _ _ _ _ h => False.elim h, fun p e => nsm e⟩
  | n + 1 => fun f args H => by
    have ih := PrgOK.sound x n
    show SndC Γ n f args H (match P.fns f with
      | some mf => if P.fr f && noLocs args then (runF (P.ctx n) mf args []).map fun r => (shV H.length r.1, H ++ r.2.map (shO H.length)) else runF (P.ctx n) mf args H
      | none => match P.cls f with
        | some i => ((P.ctx n).call i (.loc H.length :: args) (H ++ [.inst f []])).bind fun p => if isNo p.1 then some (.loc H.length, p.2) else none
        | none => match P.nat f with
          | some o => if args.isEmpty then some (.loc H.length, H ++ [o]) else none
          | none => P.ora n f args H)
    cases hf : P.fns f with
    | some mf =>
      have q := x.fns f mf hf
      have go : ∀ H, CallOK Γ (n + 1) f args H (runF (P.ctx n) mf args H) := fun H => call_fn q.1 x.lim (tabs_ctx x.tabs n) x.glob ih
      cases hc : (P.fr f && noLocs args) with
      | true => exact .mk ((go []).framed (andR hc)) (x.keep q.2)
      | false => exact .mk (go H) (x.keep q.2)
    | none =>
      cases hc : P.cls f with
      | some i =>
        have q := x.cls f i hc
        exact .mk (call_cls_snd x.tabs.X q.1 q.2.1 q.2.2.1 (ih _ _ _).1) (x.keep q.2.2.2)
      | none =>
        cases hn : P.nat f with
        | some o =>
          have q := x.nat f o hn
          cases args with
          | nil => exact .mk (q.1 n H) (x.keep q.2)
          | cons _ _ => exact ⟨fun _ _ _ _ _ _ h => False.elim h, fun p e => nsm e⟩
        | none => exact ⟨(x.ora n f args H).1 ih, (x.ora n f args H).2⟩
end
end Mine
set_option maxRecDepth 100000
set_option autoImplicit false
namespace Mine
open PySem PySem.W PyProof.Rows PySem.Calls PySem.SeqAt
mutual
theorem VR.cut {h h' : Heap} {μ ν : Mu} : ∀ {v : V} {y x : Value}, VR h μ v y → VR h' (μ ++ ν) v x → VR h' μ v x
  | .none, _, _, _, e => e
  | .bool _, _, _, _, e => e
  | .int _, _, _, _, e => e
  | .str _, _, _, _, e => e
  | .ref _, _, _, _, e => e
  | .bi _, _, _, _, e => e
  | .rng _, _, _, _, e => e
  | .loc i, _, _, d, e => d.elim fun a d => d.elim fun r d => e.elim fun b e => e.elim fun q e => ⟨b, q, d.1.trans ((getElem?_append_some d.1).symm.trans e.1), e.2⟩
  | .tup vs, _, _, d, e => d.elim fun _ d => d.elim fun ys d => e.elim fun b e => e.elim fun xs e => ⟨b, xs, e.1, e.2.1, VRs.cut d.2.2 e.2.2⟩
theorem VRs.cut {h h' : Heap} {μ ν : Mu} : ∀ {v : List V} {y x : List Value}, VRs h μ v y → VRs h' (μ ++ ν) v x → VRs h' μ v x
  | [], _, _, _, e => e
  | _ :: _, _, _, d, e => d.elim fun _ d => d.elim fun _ d => e.elim fun y e => e.elim fun ys e => ⟨y, ys, e.1, VR.cut d.2.1 e.2.1, VRs.cut d.2.2 e.2.2⟩
end
theorem ARs.cut {h h' : Heap} {μ ν : Mu} : ∀ {as : List (Nat × V)} {y x : List DictEntry}, ARs h μ as y → ARs h' (μ ++ ν) as x → ARs h' μ as x
  | [], _, _, _, e => e
  | (_, _) :: _, _, _, d, e => d.elim fun _ d => d.elim fun _ d => e.elim fun y e => e.elim fun ys e => ⟨y, ys, e.1, e.2.1, d.2.2.1.cut e.2.2.1, ARs.cut d.2.2.2 e.2.2.2⟩
noncomputable abbrev Gam.at (Γ : Gam) (h : Heap) : Gam := ⟨Γ.prog, Γ.w, h⟩
section
variable {Γ : Gam} {h₁ : Heap}
theorem ORel.cut {h h' : Heap} {μ ν : Mu} {o : O} {l : List Addr} (d : ORel Γ h μ o l) (e : ORel Γ h' (μ ++ ν) o l) : ORel Γ h' μ o l := by
  cases o with
  | list vs => exact d.elim fun _ d => d.elim fun _ d => d.elim fun _ d => e.elim fun a e => e.elim fun xs e => e.elim fun n e => ⟨a, xs, n, e.1, e.2.1, d.2.2.1.cut e.2.2.1, e.2.2.2⟩
  | inst c as => exact d.elim fun _ d => d.elim fun _ d => d.elim fun _ d => d.elim fun _ d => e.elim fun a e => e.elim fun b e => e.elim fun es e => e.elim fun n e => ⟨a, b, es, n, e.1, e.2.1, e.2.2.1, d.2.2.2.cut e.2.2.2⟩
  | dict es => exact d.elim fun _ d => d.elim fun g d => e.elim fun a e => e.elim fun f e => ⟨a, f, e.1, e.2.1, fun k => by
      have p := d.2.2 k
      have q := e.2.2 k
      cases hi : inDict k.cps.toList es with
      | none => rw [hi] at q; exact q
      | some v => rw [hi] at p q; exact p.elim fun _ p => q.elim fun x q => ⟨x, q.1, p.2.cut q.2⟩⟩
  | tab b => exact e
theorem HR.cut {μ ν : Mu} {H H' : MH} {h h' : Heap} (x : HR Γ μ H h) (y : HR Γ (μ ++ ν) H' h') (g : ∀ (i : Nat) (o : O), H[i]? = some o → H'[i]? = some o) : HR Γ μ H h' :=
  ⟨x.len, x.nodup, x.fresh, y.base, fun i o l e1 e2 => (x.obj i o l e1 e2).cut (y.obj i o l (g i o e1) (getElem?_append_some e2))⟩
theorem HR.up {μ : Mu} {H : MH} {h : Heap} (x : HR Γ μ H h) (X : List Addr) (hX : ∀ a ∈ μ.flatten, a ∈ X) : HR (Γ.at (hideAll h X)) μ H h :=
  ⟨x.len, x.nodup, fun a ha => hideAll_none X (hX a ha), fun _ _ e => of_hideAll X e, x.obj⟩
theorem dead_up (k : ∀ b o, Γ.h₀.get? b = some o → h₁.get? b = some o) {a : Addr} (h : h₁.get? a = none) : Γ.h₀.get? a = none := dead_of (fun b o e => ⟨o, k b o e⟩) h
theorem HR.down {μ : Mu} {H : MH} {h : Heap} (k : ∀ b o, Γ.h₀.get? b = some o → h₁.get? b = some o) (y : HR (Γ.at h₁) μ H h) : HR Γ μ H h :=
  ⟨y.len, y.nodup, fun a ha => dead_up k (y.fresh a ha), fun b o e => y.base b o (k b o e), y.obj⟩
theorem VR.up (k : ∀ b o, Γ.h₀.get? b = some o → h₁.get? b = some o) {v : V} {x : Value} (e : VR Γ.h₀ [] v x) : VR h₁ [] v x := e.stay (W := []) (fun b o e _ => k b o e) (bare_nil _)
theorem VRs.up (k : ∀ b o, Γ.h₀.get? b = some o → h₁.get? b = some o) {v : List V} {x : List Value} (e : VRs Γ.h₀ [] v x) : VRs h₁ [] v x := e.stay (W := []) (fun b o e _ => k b o e) (bare_nil _)
theorem FnHas.up (k : ∀ b o, Γ.h₀.get? b = some o → h₁.get? b = some o) {f : Nat} {ps : List Nat} {dfl : List V} {fd : FuncData} {body : List Stmt} (x : FnHas Γ.h₀ f ps dfl fd body) : FnHas h₁ f ps dfl fd body :=
  ⟨x.at_.imp fun o e => ⟨k _ _ e.1, e.2⟩, x.co, x.ge, x.kind, x.body, x.code.keeps k, x.clos, x.globals, x.blt, x.params, x.dflt.imp fun ds e => ⟨e.1.up k, VRs.up k e.2⟩, x.len, x.nodup, x.stor, x.keys, x.free⟩
theorem GlobOK.up (k : ∀ b o, Γ.h₀.get? b = some o → h₁.get? b = some o) (x : GlobOK Γ.h₀) : GlobOK h₁ :=
  x.imp fun mg x => x.imp fun mb x => ⟨x.1.keeps k, x.2.1.keeps k, fun y v e => (x.2.2 y v e).imp fun X q => ⟨VR.up k q.1, q.2⟩⟩
theorem Tabs.up {C : Ctx} (k : ∀ b o, Γ.h₀.get? b = some o → h₁.get? b = some o) (x : Tabs Γ C) : Tabs (Γ.at h₁) C where
  X := fun a o e => k a o (x.X a o e)
  sys := x.sys.imp fun o e => k _ _ e
  clist := fun a vs e => (x.clist a vs e).imp_right fun q => q.imp fun xs q => ⟨q.1.imp fun o r => ⟨k _ _ r.1, r.2⟩, VRs.up k q.2⟩
  cdict := fun d es e => (x.cdict d es e).imp_right fun q => q.imp fun f q => ⟨q.1.imp fun o q => q.imp fun es' q => q.imp fun ep q => ⟨k _ _ q.1, q.2⟩, q.2.map fun _ _ => VR.up k⟩
  attr := x.attr
  meth := x.meth
noncomputable def Prg.oraIs (P : Prg) (ora : Nat → Nat → List V → MH → R V) : Prg := { P with ora := ora }
theorem PrgOK.up {P : Prg} {ora : Nat → Nat → List V → MH → R V} (x : PrgOK Γ P) (k : ∀ b o, Γ.h₀.get? b = some o → h₁.get? b = some o)
    (hn : ∀ f o, P.nat f = some o → ∀ n H, CallOK (Γ.at h₁) (n + 1) f [] H (some (.loc H.length, H ++ [o])))
    (ho : ∀ n f args H, (CSound (Γ.at h₁) n ((P.oraIs ora).ctx n) → CallOK (Γ.at h₁) (n + 1) f args H (ora n f args H)) ∧ ∀ p, ora n f args H = some p → KeepOK (Γ.at h₁) f) : PrgOK (Γ.at h₁) (P.oraIs ora) where
  lim := x.lim.keeps k
  glob := x.glob.up k
  tabs := x.tabs.up k
  fns := fun f mf e => (x.fns f mf e).imp_left fun q => q.imp fun fd q => q.imp fun body q => ⟨q.1.up k, q.2⟩
  cls := x.cls
  nat := fun f o e => ⟨hn f o e, (x.nat f o e).2⟩
  ora := ho
end
end Mine
set_option maxRecDepth 100000
set_option autoImplicit false
set_option linter.unusedSimpArgs false
set_option linter.unusedVariables false
namespace Mine
noncomputable def RH (H : MH) (r : Nat) (o : O) (T : MH) : MH := H.set r o ++ T
@[simp] theorem RH_r {H : MH} {r : Nat} {o : O} {T : MH} (h : r < H.length) : (RH H r o T)[r]? = some o := by
  unfold RH
  rw [List.getElem?_append_left (by simpa using h), List.getElem?_set_self h]
@[simp] theorem RH_old {H : MH} {r j : Nat} {o : O} {T : MH} (h : j < H.length) (hj : j ≠ r) : (RH H r o T)[j]? = H[j]? := by
  unfold RH
  rw [List.getElem?_append_left (by simpa using h), List.getElem?_set_ne (fun e => hj e.symm)]
@[simp] theorem RH_new {H : MH} {r i : Nat} {o : O} {T : MH} : (RH H r o T)[H.length + i]? = T[i]? := by
  unfold RH
  rw [List.getElem?_append_right (by simp)]; simp
@[simp] theorem RH_new0 {H : MH} {r : Nat} {o : O} {T : MH} : (RH H r o T)[H.length]? = T[0]? := by
  have := RH_new (H := H) (r := r) (o := o) (T := T) (i := 0); simpa using this
@[simp] theorem RH_set_r {H : MH} {r : Nat} {o o' : O} {T : MH} (h : r < H.length) : (RH H r o T).set r o' = RH H r o' T := by
  unfold RH
  rw [List.set_append_left _ _ (by simpa using h)]; simp
@[simp] theorem RH_set_new {H : MH} {r i : Nat} {o o' : O} {T : MH} : (RH H r o T).set (H.length + i) o' = RH H r o (T.set i o') := by
  unfold RH
  rw [List.set_append_right _ _ (by simp)]; simp
@[simp] theorem RH_set_new0 {H : MH} {r : Nat} {o o' : O} {T : MH} : (RH H r o T).set H.length o' = RH H r o (T.set 0 o') := by
  have := RH_set_new (H := H) (r := r) (o := o) (T := T) (i := 0) (o' := o'); simpa using this
theorem RH_len {H : MH} {r : Nat} {o : O} {T : MH} : (RH H r o T).length = H.length + T.length := by
  unfold RH; simp
@[simp] theorem RH_app {H : MH} {r : Nat} {o : O} {T U : MH} : RH H r o T ++ U = RH H r o (T ++ U) := by
  unfold RH; rw [List.append_assoc]
section
variable {C : Ctx} {t : Bool} {ρ : Env} {h : MH}
@[simp] theorem e_c {v : V} : evE C t (.c v) ρ h = some (v, h) := rfl
@[simp] theorem e_var {x : Nat} : evE C t (.var x) ρ h = (Env.get ρ x).map (·, h) := rfl
@[simp] theorem e_tup {es : List ME} : evE C t (.tup es) ρ h = andThen (evEs C es ρ h) fun vs h1 => some (.tup vs, h1) := rfl
@[simp] theorem e_list {es : List ME} : evE C t (.list es) ρ h = andThen (evEs C es ρ h) fun vs h1 => some (.loc h1.length, h1 ++ [.list vs]) := rfl
@[simp] theorem e_bin {op : BOp} {a b : ME} : evE C t (.bin op a b) ρ h = andThen (evE C false a ρ h) fun x h1 => andThen (evE C false b ρ h1) fun y h2 => binop op x y h2 := rfl
@[simp] theorem e_neg {a : ME} : evE C t (.neg a) ρ h = andThen (evE C false a ρ h) fun x h1 => (asI x).map fun i => (.int (-i), h1) := rfl
@[simp] theorem e_not {a : ME} : evE C t (.not a) ρ h = andThen (evE C t a ρ h) fun x h1 => (asB x).map fun b => (.bool (!b), h1) := rfl
@[simp] theorem e_bop {k : Bool} {es : List ME} : evE C t (.bop k es) ρ h = evB C t k es ρ h := rfl
@[simp] theorem e_ite {c a b : ME} : evE C t (.ite c a b) ρ h = andThen (evE C true c ρ h) fun x h1 => (asB x).bind fun q => if q then evE C t a ρ h1 else evE C t b ρ h1 := rfl
@[simp] theorem e_cmp {a : ME} {ops : List COp} {es : List ME} : evE C t (.cmp a ops es) ρ h = andThen (evE C false a ρ h) fun x h1 => evC C es ops x ρ h1 := rfl
@[simp] theorem e_attr {o : ME} {a : Nat} : evE C t (.attr o a) ρ h = andThen (evE C false o ρ h) fun x h1 => (getAttr C x a h1).map (·, h1) := rfl
@[simp] theorem e_sub {o i : ME} : evE C t (.sub o i) ρ h = andThen (evE C false o ρ h) fun x h1 => andThen (evE C false i ρ h1) fun k h2 => (subscript C x k h2).map (·, h2) := rfl
@[simp] theorem e_slice {o lo hi st : ME} : evE C t (.slice o lo hi st) ρ h = andThen (evE C false o ρ h) fun x h1 => andThen (evE C false lo ρ h1) fun l h2 => andThen (evE C false hi ρ h2) fun u h3 => andThen (evE C false st ρ h3) fun s h4 => slicing C x l u s h4 := rfl
@[simp] theorem e_call {f : ME} {as : List ME} : evE C t (.call f as) ρ h = andThen (evE C false f ρ h) fun g h1 => andThen (evEs C as ρ h1) fun vs h2 => applyV C g vs h2 := rfl
@[simp] theorem e_meth {o : ME} {m : Nat} {as : List ME} : evE C t (.meth o m as) ρ h = andThen (evE C false o ρ h) fun x h1 => (method C x m h1).bind fun k => andThen (evEs C as ρ h1) fun vs h2 => applyM C k vs h2 := rfl
@[simp] theorem es_nil : evEs C [] ρ h = some ([], h) := rfl
@[simp] theorem es_cons {e : ME} {es : List ME} : evEs C (e :: es) ρ h = andThen (evE C false e ρ h) fun v h1 => andThen (evEs C es ρ h1) fun vs h2 => some (v :: vs, h2) := rfl
@[simp] theorem eb_one {k : Bool} {e : ME} : evB C t k [e] ρ h = evE C t e ρ h := rfl
@[simp] theorem eb_cons {k : Bool} {e f : ME} {es : List ME} : evB C t k (e :: f :: es) ρ h = andThen (evE C t e ρ h) fun v h1 => (asB v).bind fun b => if b = k then evB C t k (f :: es) ρ h1 else some (.bool b, h1) := rfl
@[simp] theorem ec_one {op : COp} {e : ME} {x : V} : evC C [e] [op] x ρ h = andThen (evE C false e ρ h) fun y h1 => (compare C op x y h1).bind fun q => if q then some (.bool true, h1) else some (.bool false, h1) := rfl
@[simp] theorem ec_cons {op : COp} {ops : List COp} {e f : ME} {es : List ME} {x : V} : evC C (e :: f :: es) (op :: ops) x ρ h = andThen (evE C false e ρ h) fun y h1 => (compare C op x y h1).bind fun q => if q then evC C (f :: es) ops y ρ h1 else some (.bool false, h1) := rfl
@[simp] theorem s_expr {e : ME} : evS C (.expr e) ρ h = andThen (evE C false e ρ h) fun _ h1 => some ((.next, ρ), h1) := rfl
@[simp] theorem s_ret {e : ME} : evS C (.ret e) ρ h = andThen (evE C false e ρ h) fun v h1 => some ((.ret v, ρ), h1) := rfl
@[simp] theorem s_asg {t : MT} {e : ME} : evS C (.asg t e) ρ h = andThen (evE C false e ρ h) fun v h1 => andThen (assignT C t v ρ h1) fun r2 h2 => some ((.next, r2), h2) := rfl
@[simp] theorem s_augv {x : Nat} {op : BOp} {e : ME} : evS C (.aug (.var x) op e) ρ h = (Env.get ρ x).bind fun a => andThen (evE C false e ρ h) fun b h1 => andThen (augop op a b h1) fun c h2 => some ((.next, ρ.put x c), h2) := rfl
@[simp] theorem s_auga {o : ME} {a : Nat} {op : BOp} {e : ME} : evS C (.aug (.attr o a) op e) ρ h = andThen (evE C false o ρ h) fun x h1 => (getAttr C x a h1).bind fun y => andThen (evE C false e ρ h1) fun b h2 => andThen (augop op y b h2) fun c h3 => (setAttr C x a c h3).map ((.next, ρ), ·) := rfl
@[simp] theorem s_ite {c : ME} {a b : List MS} : evS C (.ite c a b) ρ h = andThen (evT C c ρ h) fun t h1 => if t then evSs C a ρ h1 else evSs C b ρ h1 := rfl
@[simp] theorem s_whl {c : ME} {b : List MS} : evS C (.whl c b) ρ h = whileGo (evT C c) (evSs C b) turns ρ h := rfl
@[simp] theorem s_for {t : MT} {it : ME} {b : List MS} : evS C (.for_ t it b) ρ h = andThen (evE C false it ρ h) fun src h1 => (itemsOf C src h1).bind fun items => forGo src items (bindT t) (evSs C b) items ρ h1 := rfl
@[simp] theorem s_brk : evS C .brk ρ h = some ((.brk, ρ), h) := rfl
@[simp] theorem ss_nil : evSs C [] ρ h = some ((.next, ρ), h) := rfl
@[simp] theorem ss_cons {s : MS} {ss : List MS} : evSs C (s :: ss) ρ h = andThen (evS C s ρ h) fun p h2 => onNext p h2 (evSs C ss) := rfl
@[simp] theorem t_eq {e : ME} : evT C e ρ h = andThen (evE C true e ρ h) asBool := rfl
@[simp] theorem asBool_b {b : Bool} : asBool (.bool b) h = some (b, h) := rfl
@[simp] theorem get_cons {x y : Nat} {v : V} {r : Env} : Env.get ((x, v) :: r) y = if x = y then some v else Env.get r y := rfl
@[simp] theorem put_cons {x y : Nat} {v u : V} {r : Env} : Env.put ((x, v) :: r) y u = if x = y then (y, u) :: r else (x, v) :: Env.put r y u := rfl
@[simp] theorem put_nil {y : Nat} {u : V} : Env.put [] y u = [(y, u)] := rfl
@[simp] theorem nAppend_ : nAppend = 110425311047777 := rfl
@[simp] theorem nExtend_ : nExtend = 110425311311973 := rfl
@[simp] theorem nPop_ : nPop = 7368560 := rfl
@[simp] theorem nJoin_ : nJoin = 1852403562 := rfl
@[simp] theorem nGet_ : nGet = 7628135 := rfl
end
noncomputable def aok (c a : Nat) : Bool := match look attrTab c with
  | some l => l.contains a
  | none => false
section
variable {L : Nat} {sc : List V} {ora : Nat → Nat → List V → MH → R V}
@[simp] theorem ctx_attr {n : Nat} : ((prg L sc ora).ctx n).attrOk = aok := by cases n <;> rfl
@[simp] theorem ctx_dict {n : Nat} : ((prg L sc ora).ctx n).cdict = look dictTab := by cases n <;> rfl
@[simp] theorem ctx_meth {n : Nat} : ((prg L sc ora).ctx n).meth = look2 methTab := by cases n <;> rfl
theorem call_eq' {n f : Nat} {mf : MF} {args : List V} {H : MH} (h : look fnTab f = some mf) (hf : f ≠ 923) : ((prg L sc ora).ctx (n + 1)).call f args H = runF ((prg L sc ora).ctx n) mf args H := by
  simp [Prg.ctx, prg, h, hf]
end
noncomputable def runAs (p : Nat) (t : List Nat) (b le most steps at_ row : Int) (g q l : Nat) : List (Nat × V) :=
  [(30787916450984560, .loc p), (1954047348, .str t), (474214786402, .int b), (1852629276641531618668, .int le), (1953722221, .int most), (495806936179, .int steps), (29793, .int at_), (7827314, .int row), (126926843769447, .loc g), (2129618691208608441714, .loc q), (1701603696, .loc l)]
@[simp] theorem aok_run_steps : aok 212 495806936179 = true := rfl
@[simp] theorem aok_run_at : aok 212 29793 = true := rfl
@[simp] theorem aok_run_row : aok 212 7827314 = true := rfl
@[simp] theorem aok_run_text : aok 212 1954047348 = true := rfl
@[simp] theorem aok_run_program : aok 212 30787916450984560 = true := rfl
@[simp] theorem aok_run_begin : aok 212 474214786402 = true := rfl
@[simp] theorem aok_run_le : aok 212 1852629276641531618668 = true := rfl
@[simp] theorem aok_run_most : aok 212 1953722221 = true := rfl
@[simp] theorem aok_run_groups : aok 212 126926843769447 = true := rfl
@[simp] theorem aok_run_registers : aok 212 2129618691208608441714 = true := rfl
@[simp] theorem aok_run_pile : aok 212 1701603696 = true := rfl
noncomputable def LH (H : MH) (r p : Nat) (t : List Nat) (b le most steps at_ row : Int) (pile gs rs : List V) (G : MH) : MH :=
  RH H r (.inst 212 (runAs p t b le most steps at_ row (H.length + 2) (H.length + 4) H.length)) (.list pile :: .list [.none] :: .list gs :: .list [.int (-1)] :: .list rs :: G)
theorem seqIndex_nat {a n : Nat} (h : a < n) : PySem.seqIndex? (a : Int) n = some a := by
  unfold PySem.seqIndex?
  have h0 : ¬ ((a : Int) < 0) := by lia
  simp only [h0, if_false]
  simp [h]
theorem gp_eq {ρ : Env} {x : Nat} {v : V} : Env.get (Env.put ρ x v) x = some v := by
  induction ρ with
  | nil => exact if_pos rfl
  | cons p r ih =>
    unfold Env.put
    by_cases h : p.1 = x
    · rw [if_pos h]; exact if_pos rfl
    · rw [if_neg h]; exact (if_neg h).trans ih
theorem gp_ne {ρ : Env} {x y : Nat} {v : V} {o : Option V} (h : Nat.beq x y = false) (g : Env.get ρ y = o) : Env.get (Env.put ρ x v) y = o := by
  have hn : ¬ x = y := Nat.ne_of_beq_eq_false h
  induction ρ generalizing o with
  | nil => exact (if_neg hn).trans g
  | cons p r ih =>
    unfold Env.put
    by_cases h : p.1 = x
    · rw [if_pos h]
      have h2 : ¬ p.1 = y := fun e => hn (h.symm.trans e)
      exact (if_neg hn).trans ((if_neg h2).symm.trans g)
    · rw [if_neg h]
      by_cases h2 : p.1 = y
      · exact (if_pos h2).trans ((if_pos h2).symm.trans g)
      · exact (if_neg h2).trans (ih ((if_neg h2).symm.trans g))
section
variable {C : Ctx} {t : Bool} {ρ ρ1 : Env} {h h1 h2 h3 h4 : MH}
theorem at1 {α β : Type} {m : R α} {x : α} {h1 : MH} {f : α → MH → R β} {r : R β} (e : m = some (x, h1)) (k : f x h1 = r) : andThen m f = r := by subst e; exact k
theorem bn1 {α β : Type} {o : Option α} {x : α} {f : α → Option β} {r : Option β} (e : o = some x) (k : f x = r) : o.bind f = r := by subst e; exact k
theorem mp1 {α β : Type} {o : Option α} {x : α} {f : α → β} (e : o = some x) : o.map f = some (f x) := by subst e; rfl
theorem if1 {α : Type} {q : Bool} {x y r : α} (e : q = true) (k : x = r) : (if q then x else y) = r := by subst e; exact k
theorem if0 {α : Type} {q : Bool} {x y r : α} (e : q = false) (k : y = r) : (if q then x else y) = r := by subst e; exact k
theorem r_var {x : Nat} {v : V} (g : Env.get ρ x = some v) : evE C t (.var x) ρ h = some (v, h) := mp1 g
theorem r_tup {es : List ME} {vs : List V} (a : evEs C es ρ h = some (vs, h1)) : evE C t (.tup es) ρ h = some (.tup vs, h1) := at1 a rfl
theorem r_list {es : List ME} {vs : List V} (a : evEs C es ρ h = some (vs, h1)) : evE C t (.list es) ρ h = some (.loc h1.length, h1 ++ [.list vs]) := at1 a rfl
theorem r_listA {H T : MH} {es : List ME} {vs : List V} (a : evEs C es ρ (H ++ T) = some (vs, H ++ T)) : evE C t (.list es) ρ (H ++ T) = some (.loc (H.length + T.length), H ++ (T ++ [.list vs])) := by
  rw [r_list a, List.append_assoc, List.length_append]
theorem r_bin {op : BOp} {a b : ME} {x y : V} {r : V × MH} (i : evE C false a ρ h = some (x, h1)) (j : evE C false b ρ h1 = some (y, h2)) (k : binop op x y h2 = some r) : evE C t (.bin op a b) ρ h = some r := at1 i (at1 j k)
theorem r_neg {a : ME} {i : Int} (e : evE C false a ρ h = some (.int i, h1)) : evE C t (.neg a) ρ h = some (.int (-i), h1) := at1 e rfl
theorem r_not {a : ME} {b : Bool} (e : evE C t a ρ h = some (.bool b, h1)) : evE C t (.not a) ρ h = some (.bool (!b), h1) := at1 e rfl
theorem r_bop {k : Bool} {es : List ME} {r : V × MH} (e : evB C t k es ρ h = some r) : evE C t (.bop k es) ρ h = some r := e
theorem rb_one {k : Bool} {e : ME} {r : V × MH} (i : evE C t e ρ h = some r) : evB C t k [e] ρ h = some r := i
theorem rb_go {k b : Bool} {e f : ME} {es : List ME} {r : V × MH} (i : evE C t e ρ h = some (.bool b, h1)) (hb : b = k) (j : evB C t k (f :: es) ρ h1 = some r) : evB C t k (e :: f :: es) ρ h = some r := at1 i ((if_pos hb).trans j)
theorem rb_or {b : Bool} {e f : ME} {es : List ME} (i : evE C t e ρ h = some (.bool b, h1)) (hb : b = true) : evB C t false (e :: f :: es) ρ h = some (.bool true, h1) := by subst hb; exact at1 i rfl
theorem rb_and {b : Bool} {e f : ME} {es : List ME} (i : evE C t e ρ h = some (.bool b, h1)) (hb : b = false) : evB C t true (e :: f :: es) ρ h = some (.bool false, h1) := by subst hb; exact at1 i rfl
theorem r_ite_t {c a b : ME} {q : Bool} {r : V × MH} (i : evE C true c ρ h = some (.bool q, h1)) (hq : q = true) (j : evE C t a ρ h1 = some r) : evE C t (.ite c a b) ρ h = some r := at1 i (if1 hq j)
theorem r_ite_f {c a b : ME} {q : Bool} {r : V × MH} (i : evE C true c ρ h = some (.bool q, h1)) (hq : q = false) (j : evE C t b ρ h1 = some r) : evE C t (.ite c a b) ρ h = some r := at1 i (if0 hq j)
theorem r_cmp {a b : ME} {op : COp} {x y : V} {q : Bool} (i : evE C false a ρ h = some (x, h1)) (j : evE C false b ρ h1 = some (y, h2)) (k : compare C op x y h2 = some q) : evE C t (.cmp a [op] [b]) ρ h = some (.bool q, h2) :=
  at1 i (at1 j (bn1 k (by cases q <;> rfl)))
theorem r_cmp2 {a b c : ME} {op op' : COp} {x y z : V} {q q' : Bool} (i : evE C false a ρ h = some (x, h1)) (j : evE C false b ρ h1 = some (y, h2)) (k : compare C op x y h2 = some q) (hq : q = true) (l : evE C false c ρ h2 = some (z, h3)) (m : compare C op' y z h3 = some q') : evE C t (.cmp a [op, op'] [b, c]) ρ h = some (.bool q', h3) :=
  at1 i (at1 j (bn1 k (if1 hq (at1 l (bn1 m (by cases q' <;> rfl))))))
theorem r_cmp2f {a b c : ME} {op op' : COp} {x y : V} {q : Bool} (i : evE C false a ρ h = some (x, h1)) (j : evE C false b ρ h1 = some (y, h2)) (k : compare C op x y h2 = some q) (hq : q = false) : evE C t (.cmp a [op, op'] [b, c]) ρ h = some (.bool false, h2) :=
  at1 i (at1 j (bn1 k (if0 hq rfl)))
theorem r_attr {o : ME} {a : Nat} {x v : V} (i : evE C false o ρ h = some (x, h1)) (g : getAttr C x a h1 = some v) : evE C t (.attr o a) ρ h = some (v, h1) := at1 i (mp1 g)
theorem r_sub {o i : ME} {x k v : V} (a : evE C false o ρ h = some (x, h1)) (b : evE C false i ρ h1 = some (k, h2)) (g : subscript C x k h2 = some v) : evE C t (.sub o i) ρ h = some (v, h2) := at1 a (at1 b (mp1 g))
theorem r_slice {o lo hi st : ME} {x l u s : V} {r : V × MH} (a : evE C false o ρ h = some (x, h1)) (b : evE C false lo ρ h1 = some (l, h2)) (c : evE C false hi ρ h2 = some (u, h3)) (d : evE C false st ρ h3 = some (s, h4)) (g : slicing C x l u s h4 = some r) : evE C t (.slice o lo hi st) ρ h = some r := at1 a (at1 b (at1 c (at1 d g)))
theorem r_call {f : Nat} {as : List ME} {vs : List V} {r : V × MH} (b : evEs C as ρ h = some (vs, h2)) (g : C.call f vs h2 = some r) : evE C t (.call (.c (.ref f)) as) ρ h = some r := at1 (e_c (v := .ref f)) (at1 b g)
theorem r_bi {f : BI} {as : List ME} {vs : List V} {r : V × MH} (b : evEs C as ρ h = some (vs, h2)) (g : builtin f vs h2 = some r) : evE C t (.call (.c (.bi f)) as) ρ h = some r := at1 (e_c (v := .bi f)) (at1 b g)
theorem r_callx {f : ME} {g : Nat} {as : List ME} {vs : List V} {r : V × MH} (a : evE C false f ρ h = some (.ref g, h1)) (b : evEs C as ρ h1 = some (vs, h2)) (k : C.call g vs h2 = some r) : evE C t (.call f as) ρ h = some r := at1 a (at1 b k)
theorem r_meth {o : ME} {m : Nat} {as : List ME} {x : V} {k : Mth} {vs : List V} {r : V × MH} (a : evE C false o ρ h = some (x, h1)) (j : method C x m h1 = some k) (b : evEs C as ρ h1 = some (vs, h2)) (g : applyM C k vs h2 = some r) : evE C t (.meth o m as) ρ h = some r := at1 a (bn1 j (at1 b g))
theorem rs_cons {e : ME} {es : List ME} {v : V} {vs : List V} (a : evE C false e ρ h = some (v, h1)) (b : evEs C es ρ h1 = some (vs, h2)) : evEs C (e :: es) ρ h = some (v :: vs, h2) := at1 a (at1 b rfl)
theorem t_expr {e : ME} {v : V} (a : evE C false e ρ h = some (v, h1)) : evS C (.expr e) ρ h = some ((.next, ρ), h1) := at1 a rfl
theorem t_ret {e : ME} {v : V} (a : evE C false e ρ h = some (v, h1)) : evS C (.ret e) ρ h = some ((.ret v, ρ), h1) := at1 a rfl
theorem t_asg {x : Nat} {e : ME} {v : V} (a : evE C false e ρ h = some (v, h1)) : evS C (.asg (.var x) e) ρ h = some ((.next, ρ.put x v), h1) := at1 a rfl
theorem t_asgs {xs : List Nat} {e : ME} {v : V} {ρ1 : Env} (a : evE C false e ρ h = some (v, h1)) (b : bindVars xs false v ρ = some ρ1) : evS C (.asg (.vars xs) e) ρ h = some ((.next, ρ1), h1) := at1 a (at1 (mp1 b) rfl)
theorem t_asga {o e : ME} {a : Nat} {v x : V} (i : evE C false e ρ h = some (v, h1)) (j : evE C false o ρ h1 = some (x, h2)) (k : setAttr C x a v h2 = some h3) : evS C (.asg (.attr o a) e) ρ h = some ((.next, ρ), h3) := at1 i (at1 (at1 j (mp1 k)) rfl)
theorem t_asgi {o i e : ME} {v x k : V} (a : evE C false e ρ h = some (v, h1)) (b : evE C false o ρ h1 = some (x, h2)) (c : evE C false i ρ h2 = some (k, h3)) (d : setSub x k v h3 = some h4) : evS C (.asg (.sub o i) e) ρ h = some ((.next, ρ), h4) := at1 a (at1 (at1 b (at1 c (mp1 d))) rfl)
theorem t_aug {x : Nat} {op : BOp} {e : ME} {a b c : V} (g : Env.get ρ x = some a) (i : evE C false e ρ h = some (b, h1)) (j : augop op a b h1 = some (c, h2)) : evS C (.aug (.var x) op e) ρ h = some ((.next, ρ.put x c), h2) := bn1 g (at1 i (at1 j rfl))
theorem t_auga {o e : ME} {a : Nat} {op : BOp} {x y b c : V} (i : evE C false o ρ h = some (x, h1)) (g : getAttr C x a h1 = some y) (j : evE C false e ρ h1 = some (b, h2)) (k : augop op y b h2 = some (c, h3)) (l : setAttr C x a c h3 = some h4) : evS C (.aug (.attr o a) op e) ρ h = some ((.next, ρ), h4) := at1 i (bn1 g (at1 j (at1 k (mp1 l))))
theorem t_if_t {c : ME} {a b : List MS} {q : Bool} {r : (Fl × Env) × MH} (i : evE C true c ρ h = some (.bool q, h1)) (hq : q = true) (j : evSs C a ρ h1 = some r) : evS C (.ite c a b) ρ h = some r := at1 (at1 i rfl) (if1 hq j)
theorem t_if_f {c : ME} {a b : List MS} {q : Bool} {r : (Fl × Env) × MH} (i : evE C true c ρ h = some (.bool q, h1)) (hq : q = false) (j : evSs C b ρ h1 = some r) : evS C (.ite c a b) ρ h = some r := at1 (at1 i rfl) (if0 hq j)
theorem t_whl {c : ME} {b : List MS} {r : (Fl × Env) × MH} (i : whileGo (evT C c) (evSs C b) turns ρ h = some r) : evS C (.whl c b) ρ h = some r := i
theorem t_for {t : MT} {it : ME} {b : List MS} {src : V} {items : List V} {r : (Fl × Env) × MH} (i : evE C false it ρ h = some (src, h1)) (j : itemsOf C src h1 = some items) (k : forGo src items (bindT t) (evSs C b) items ρ h1 = some r) : evS C (.for_ t it b) ρ h = some r := at1 i (bn1 j k)
theorem for_end {src : V} {items : List V} {bnd : V → Env → Option Env} {body : Env → MH → R (Fl × Env)} (s : still src items h = true) : forGo src items bnd body [] ρ h = some ((.next, ρ), h) := if_pos s
theorem for_go {src v : V} {items vs : List V} {bnd : V → Env → Option Env} {body : Env → MH → R (Fl × Env)} {ρ2 : Env} {r : (Fl × Env) × MH} (s : still src items h = true) (b : bnd v ρ = some ρ1) (i : body ρ1 h = some ((.next, ρ2), h1)) (j : forGo src items bnd body vs ρ2 h1 = some r) : forGo src items bnd body (v :: vs) ρ h = some r := if1 s (bn1 b (at1 i j))
theorem for_ret {src v u : V} {items vs : List V} {bnd : V → Env → Option Env} {body : Env → MH → R (Fl × Env)} {ρ2 : Env} (s : still src items h = true) (b : bnd v ρ = some ρ1) (i : body ρ1 h = some ((.ret u, ρ2), h1)) : forGo src items bnd body (v :: vs) ρ h = some ((.ret u, ρ2), h1) := if1 s (bn1 b (at1 i rfl))
theorem w_go {test : Env → MH → R Bool} {body : Env → MH → R (Fl × Env)} {k : Nat} {r : (Fl × Env) × MH} (i : test ρ h = some (true, h1)) (j : body ρ h1 = some ((.next, ρ1), h2)) (l : whileGo test body k ρ1 h2 = some r) : whileGo test body (k + 1) ρ h = some r := at1 i (at1 j l)
theorem w_ret {test : Env → MH → R Bool} {body : Env → MH → R (Fl × Env)} {k : Nat} {u : V} (i : test ρ h = some (true, h1)) (j : body ρ h1 = some ((.ret u, ρ1), h2)) : whileGo test body (k + 1) ρ h = some ((.ret u, ρ1), h2) := at1 i (at1 j rfl)
theorem w_brk {test : Env → MH → R Bool} {body : Env → MH → R (Fl × Env)} {k : Nat} (i : test ρ h = some (true, h1)) (j : body ρ h1 = some ((.brk, ρ1), h2)) : whileGo test body (k + 1) ρ h = some ((.next, ρ1), h2) := at1 i (at1 j rfl)
theorem w_step {test : Env → MH → R Bool} {body : Env → MH → R (Fl × Env)} {k : Nat} (i : test ρ h = some (true, h1)) (j : body ρ h1 = some ((.next, ρ1), h2)) : whileGo test body (k + 1) ρ h = whileGo test body k ρ1 h2 := at1 i (at1 j rfl)
theorem w_end {test : Env → MH → R Bool} {body : Env → MH → R (Fl × Env)} {k : Nat} (i : test ρ h = some (false, h1)) : whileGo test body (k + 1) ρ h = some ((.next, ρ), h1) := at1 i rfl
theorem t_test {c : ME} {q b : Bool} (i : evE C true c ρ h = some (.bool q, h1)) (e : q = b) : evT C c ρ h = some (b, h1) := by subst e; exact at1 i rfl
theorem ts_go {s : MS} {ss : List MS} {r : (Fl × Env) × MH} (i : evS C s ρ h = some ((.next, ρ1), h1)) (j : evSs C ss ρ1 h1 = some r) : evSs C (s :: ss) ρ h = some r := at1 i j
theorem ts_ret {s : MS} {ss : List MS} {v : V} (i : evS C s ρ h = some ((.ret v, ρ1), h1)) : evSs C (s :: ss) ρ h = some ((.ret v, ρ1), h1) := at1 i rfl
theorem ts_brk {s : MS} {ss : List MS} (i : evS C s ρ h = some ((.brk, ρ1), h1)) : evSs C (s :: ss) ρ h = some ((.brk, ρ1), h1) := at1 i rfl
theorem ts_app : ∀ {a b : List MS} {ρ ρ1 : Env} {h h1 : MH} {r : (Fl × Env) × MH}, evSs C a ρ h = some ((.next, ρ1), h1) → evSs C b ρ1 h1 = some r → evSs C (a ++ b) ρ h = some r
  | [], b, ρ, ρ1, h, h1, r, i, j => by cases i; exact j
  | s :: a, b, ρ, ρ1, h, h1, r, i, j => by
    cases hs : evS C s ρ h with
    | none => rw [ss_cons, hs] at i; cases i
    | some x =>
      obtain ⟨⟨fl, ρ2⟩, h2⟩ := x
      rw [ss_cons, hs] at i
      cases fl with
      | next => exact at1 hs (ts_app i j)
      | brk => cases i
      | ret v => cases i
theorem f_ret {f : MF} {args : List V} {v : V} (a : bindArgs f args = some ρ) (b : evSs C f.body ρ h = some ((.ret v, ρ1), h1)) : runF C f args h = some (v, h1) := bn1 a (at1 b rfl)
theorem f_next {f : MF} {args : List V} (a : bindArgs f args = some ρ) (b : evSs C f.body ρ h = some ((.next, ρ1), h1)) : runF C f args h = some (.none, h1) := bn1 a (at1 b rfl)
end
section
variable {L : Nat} {sc : List V} {ora : Nat → Nat → List V → MH → R V} {n : Nat} {ρ ρ1 : Env} {h h1 h2 : MH}
noncomputable def Zp (ps : List Nat) (vs : List V) (ρ : Env) : Prop := ps.zip vs = ρ ∧ vs.length = ps.length
theorem zp_nil : Zp [] [] [] := ⟨rfl, rfl⟩
theorem zp_cons {p : Nat} {ps : List Nat} {v : V} {vs : List V} {ρ : Env} (z : Zp ps vs ρ) : Zp (p :: ps) (v :: vs) ((p, v) :: ρ) := ⟨congrArg ((p, v) :: ·) z.1, congrArg (· + 1) z.2⟩
theorem Zp.bind {ps : List Nat} {ds : List V} {b : List MS} {vs : List V} {ρ : Env} (z : Zp ps vs ρ) : Mine.bindArgs ⟨ps, ds, b⟩ vs = some ρ := by
  unfold Mine.bindArgs
  simp only []
  rw [if_pos ⟨Nat.le_of_eq z.2, by have := z.2; lia⟩, show vs.length + ds.length - ps.length = ds.length by have := z.2; lia, List.drop_length, List.append_nil, z.1]
theorem c_ret {f : Nat} {ps : List Nat} {ds : List V} {bd : List MS} {args : List V} {v : V} (a : look fnTab f = some ⟨ps, ds, bd⟩) (hf : Nat.beq f 923 = false) (b : Zp ps args ρ) (c : evSs ((prg L sc ora).ctx n) bd ρ h = some ((.ret v, ρ1), h1)) : ((prg L sc ora).ctx (n + 1)).call f args h = some (v, h1) :=
  (call_eq' a (Nat.ne_of_beq_eq_false hf)).trans (f_ret b.bind c)
theorem c_next {f : Nat} {ps : List Nat} {ds : List V} {bd : List MS} {args : List V} (a : look fnTab f = some ⟨ps, ds, bd⟩) (hf : Nat.beq f 923 = false) (b : Zp ps args ρ) (c : evSs ((prg L sc ora).ctx n) bd ρ h = some ((.next, ρ1), h1)) : ((prg L sc ora).ctx (n + 1)).call f args h = some (.none, h1) :=
  (call_eq' a (Nat.ne_of_beq_eq_false hf)).trans (f_next b.bind c)
theorem lst_is {i : Nat} {vs : List V} (hi : h[i]? = some (.list vs)) : lst h i = some vs := bn1 hi rfl
theorem a_cat {i j : Nat} {xs ys : List V} (hi : h[i]? = some (.list xs)) (hj : h[j]? = some (.list ys)) (hl : xs.length + ys.length ≤ top) : binop .add (.loc i) (.loc j) h = some (.loc h.length, h ++ [.list (xs ++ ys)]) :=
  bn1 (lst_is hi) (bn1 (x := j) rfl (bn1 (lst_is hj) (if_pos hl)))
theorem a_ext {C : Ctx} {i j : Nat} {xs ys : List V} (hi : h[i]? = some (.list xs)) (hj : h[j]? = some (.list ys)) (hl : xs.length + ys.length ≤ top) : applyM C (.extend i) [.loc j] h = some (.none, h.set i (.list (xs ++ ys))) :=
  bn1 (lst_is hi) (bn1 (lst_is hj) (if_pos hl))
theorem m_ext {C : Ctx} {i : Nat} {vs : List V} (hi : h[i]? = some (.list vs)) : method C (.loc i) 110425311311973 h = some (.extend i) := bn1 hi rfl
theorem p_list {i : Nat} {vs : List V} {v : V} (hi : h[i]? = some (.list vs)) (hl : vs.length < top) : push i v h = some (h.set i (.list (vs ++ [v]))) := bn1 (lst_is hi) (if_pos hl)
theorem a_join {C : Ctx} {i : Nat} {vs : List V} {s t : List Nat} (hi : h[i]? = some (.list vs)) (hc : joinCost s vs ≤ top) (hj : joinTexts s vs = some t) : applyM C (.join s) [.loc i] h = some (.str t, h) :=
  bn1 (lst_is hi) ((if_pos hc).trans (mp1 hj))
theorem b_sum {i : Nat} {vs : List V} {s : Int} (hi : h[i]? = some (.list vs)) (hs : sumInts vs = some s) : builtin .sum [.loc i] h = some (.int s, h) := bn1 (lst_is hi) (mp1 hs)
theorem it_list {C : Ctx} {i : Nat} {vs : List V} (hi : h[i]? = some (.list vs)) : itemsOf C (.loc i) h = some vs := lst_is hi
theorem st_list {i : Nat} {vs : List V} (hi : h[i]? = some (.list vs)) : still (.loc i) vs h = true := decide_eq_true (lst_is hi)
theorem eq_locs {i j : Nat} {xs ys : List V} (hi : h[i]? = some (.list xs)) (hj : h[j]? = some (.list ys)) (hx : xs.all flat1 = true) (hy : ys.all flat1 = true) : eqV (.loc i) (.loc j) h = some (decide (xs = ys)) :=
  bn1 (lst_is hi) (bn1 (lst_is hj) (if_pos (by rw [hx, hy]; rfl)))
theorem len_list {i : Nat} {vs : List V} (hi : h[i]? = some (.list vs)) : builtin .len [.loc i] h = some (.int vs.length, h) := mp1 (mp1 (lst_is hi))
theorem cls_new {f i : Nat} {args : List V} {h1 : MH} (a : look fnTab f = none) (b : look clsTab f = some i) (k : ((prg L sc ora).ctx n).call i (.loc h.length :: args) (h ++ [.inst f []]) = some (.none, h1)) : ((prg L sc ora).ctx (n + 1)).call f args h = some (.loc h.length, h1) := by
  have e1 : (prg L sc ora).fns f = none := a
  have e2 : (prg L sc ora).cls f = some i := b
  simp only [Prg.ctx, e1, e2]
  exact bn1 k rfl
theorem in_is {i c : Nat} {as : List (Nat × V)} (hi : h[i]? = some (.inst c as)) : inst h (.loc i) = some (c, as) := bn1 (x := i) rfl (bn1 hi rfl)
theorem g_inst {i c a : Nat} {as : List (Nat × V)} {v : V} (hi : h[i]? = some (.inst c as)) (ha : aok c a = true) (g : Env.get as a = some v) : getAttr ((prg L sc ora).ctx n) (.loc i) a h = some v :=
  bn1 (in_is hi) (if1 (by rw [ctx_attr]; exact ha) g)
theorem g_set {i c a : Nat} {as : List (Nat × V)} {v : V} (hi : h[i]? = some (.inst c as)) (ha : aok c a = true) (hl : as.length ≤ 100) : setAttr ((prg L sc ora).ctx n) (.loc i) a v h = some (h.set i (.inst c (Env.put as a v))) :=
  bn1 (in_is hi) (bn1 (x := i) rfl (if1 (by rw [ctx_attr, Bool.and_eq_true]; exact ⟨ha, decide_eq_true hl⟩) rfl))
theorem g_setR {H T : MH} {r c a : Nat} {as : List (Nat × V)} {v : V} (hr : r < H.length) (ha : aok c a = true) (hl : Nat.ble as.length 100 = true) : setAttr ((prg L sc ora).ctx n) (.loc r) a v (RH H r (.inst c as) T) = some (RH H r (.inst c (Env.put as a v)) T) :=
  (g_set (RH_r hr) ha (Nat.le_of_ble_eq_true hl)).trans (congrArg some (RH_set_r hr))
theorem r_listR {C : Ctx} {t : Bool} {H T : MH} {r : Nat} {o : O} {es : List ME} {vs : List V} (he : ∀ h, evEs C es ρ h = some (vs, h)) : evE C t (.list es) ρ (RH H r o T) = some (.loc (H.length + T.length), RH H r o (T ++ [.list vs])) := by
  rw [← RH_app, ← RH_len]; exact r_list (he _)
variable {H : MH} {r p : Nat} {t : List Nat} {b le most steps at_ row : Int} {pile gs rs : List V} {G : MH}
theorem LH_r (hr : r < H.length) : (LH H r p t b le most steps at_ row pile gs rs G)[r]? = some (.inst 212 (runAs p t b le most steps at_ row (H.length + 2) (H.length + 4) H.length)) := RH_r hr
theorem LH_pile : (LH H r p t b le most steps at_ row pile gs rs G)[H.length]? = some (.list pile) := RH_new0
theorem LH_gs : (LH H r p t b le most steps at_ row pile gs rs G)[H.length + 2]? = some (.list gs) := RH_new
theorem LH_rs : (LH H r p t b le most steps at_ row pile gs rs G)[H.length + 4]? = some (.list rs) := RH_new
theorem LH_set {a : Nat} {v : V} (hr : r < H.length) (ha : aok 212 a = true) : setAttr ((prg L sc ora).ctx n) (.loc r) a v (LH H r p t b le most steps at_ row pile gs rs G) = some (RH H r (.inst 212 (Env.put (runAs p t b le most steps at_ row (H.length + 2) (H.length + 4) H.length) a v)) (.list pile :: .list [.none] :: .list gs :: .list [.int (-1)] :: .list rs :: G)) :=
  (g_set (LH_r hr) ha (by decide : (11 : Nat) ≤ 100)).trans (congrArg some (RH_set_r hr))
theorem LH_at {v : Int} (hr : r < H.length) : setAttr ((prg L sc ora).ctx n) (.loc r) 29793 (.int v) (LH H r p t b le most steps at_ row pile gs rs G) = some (LH H r p t b le most steps v row pile gs rs G) := LH_set hr rfl
theorem LH_row {v : Int} (hr : r < H.length) : setAttr ((prg L sc ora).ctx n) (.loc r) 7827314 (.int v) (LH H r p t b le most steps at_ row pile gs rs G) = some (LH H r p t b le most steps at_ v pile gs rs G) := LH_set hr rfl
theorem LH_steps {v : Int} (hr : r < H.length) : setAttr ((prg L sc ora).ctx n) (.loc r) 495806936179 (.int v) (LH H r p t b le most steps at_ row pile gs rs G) = some (LH H r p t b le most v at_ row pile gs rs G) := LH_set hr rfl
theorem m_append {C : Ctx} {i : Nat} {vs : List V} (hi : h[i]? = some (.list vs)) : method C (.loc i) 110425311047777 h = some (.append i) := bn1 hi rfl
theorem m_pop {C : Ctx} {i : Nat} {vs : List V} (hi : h[i]? = some (.list vs)) : method C (.loc i) 7368560 h = some (.pop i) := bn1 hi rfl
theorem a_append {C : Ctx} {i : Nat} {vs : List V} {v : V} (hi : h[i]? = some (.list vs)) (hl : vs.length < top) : applyM C (.append i) [v] h = some (.none, h.set i (.list (vs ++ [v]))) := mp1 (bn1 (lst_is hi) (if_pos hl))
theorem LH_push {C : Ctx} {v : V} (hl : pile.length < top) : applyM C (.append H.length) [v] (LH H r p t b le most steps at_ row pile gs rs G) = some (.none, LH H r p t b le most steps at_ row (pile ++ [v]) gs rs G) :=
  (a_append LH_pile hl).trans (congrArg (fun z => some (V.none, z)) RH_set_new0)
theorem LH_pop {C : Ctx} {e : V} : applyM C (.pop H.length) [] (LH H r p t b le most steps at_ row (pile ++ [e]) gs rs G) = some (e, LH H r p t b le most steps at_ row pile gs rs G) := bn1 (lst_is LH_pile) ((mp1 List.getLast?_concat).trans (by rw [List.dropLast_concat]; exact congrArg (fun z => some (e, z)) RH_set_new0))
theorem s_int {C : Ctx} {i k : Nat} {vs : List V} {v : V} (hi : h[i]? = some (.list vs)) (hk : vs[k]? = some v) : subscript C (.loc i) (.int k) h = some v := bn1 (lst_is hi) (bn1 (seqIndex_nat (List.getElem?_eq_some_iff.mp hk).1) hk)
theorem s_int0 {C : Ctx} {i : Nat} {v : V} {vs : List V} (hi : h[i]? = some (.list (v :: vs))) : subscript C (.loc i) (.int 0) h = some v := s_int (k := 0) hi rfl
theorem s_int1 {C : Ctx} {i : Nat} {u v : V} {vs : List V} (hi : h[i]? = some (.list (u :: v :: vs))) : subscript C (.loc i) (.int 1) h = some v := s_int (k := 1) hi rfl
theorem s_str {C : Ctx} {s : List Nat} {k : Nat} (hk : k < s.length) : subscript C (.str s) (.int k) h = some (.str [s[k]]) := bn1 (seqIndex_nat hk) (mp1 (List.getElem?_eq_getElem hk))
theorem s_tup {C : Ctx} {vs : List V} {i : Int} {k : Nat} {v : V} (hl : Nat.ble vs.length top = true) (hi : PySem.seqIndex? i vs.length = some k) (hk : vs[k]? = some v) : subscript C (.tup vs) (.int i) h = some v := (if_pos (Nat.le_of_ble_eq_true hl)).trans (bn1 hi hk)
theorem s_dict {C : Ctx} {i : Nat} {es : List (List Nat × V)} {k : List Nat} {v : V} (hi : h[i]? = some (.dict es)) (hk : inDict k es = some v) : subscript C (.loc i) (.str k) h = some v := bn1 (bn1 hi rfl) hk
theorem sl_str {C : Ctx} {s w : List Nat} {lo hi : V} {l u : Option Int} (a : asPart lo = some l) (b : asPart hi = some u) (c : cut s l u none = w) : slicing C (.str s) lo hi .none h = some (.str w, h) := bn1 a (bn1 b (by rw [← c]; rfl))
theorem sl_list {C : Ctx} {i : Nat} {vs ws : List V} {lo hi : V} {l u : Option Int} (d : h[i]? = some (.list vs)) (a : asPart lo = some l) (b : asPart hi = some u) (c : cut vs l u none = ws) : slicing C (.loc i) lo hi .none h = some (.loc h.length, h ++ [.list ws]) := bn1 a (bn1 b (bn1 (x := none) rfl ((if_pos (.inl rfl)).trans (bn1 (lst_is d) (by rw [← c]; rfl)))))
theorem sl_list2 {C : Ctx} {i : Nat} {vs ws : List V} {lo hi : V} {l u : Option Int} (d : h[i]? = some (.list vs)) (a : asPart lo = some l) (b : asPart hi = some u) (c : cut vs l u (some 2) = ws) : slicing C (.loc i) lo hi (.int 2) h = some (.loc h.length, h ++ [.list ws]) :=
  bn1 a (bn1 b (bn1 (x := some 2) rfl ((if_pos (.inr rfl)).trans (bn1 (lst_is d) (by rw [← c]; rfl)))))
theorem ne_str {C : Ctx} {a b : List Nat} (e : a ≠ b) : compare C .ne (.str a) (.str b) h = some true := congrArg (fun q => some (!q)) (decide_eq_false e)
theorem ne_same {C : Ctx} {a : List Nat} : compare C .ne (.str a) (.str a) h = some false := congrArg (fun q => some (!q)) (decide_eq_true rfl)
theorem ne_int {C : Ctx} {i j : Int} (e : i = j) : compare C .ne (.int i) (.int j) h = some false := congrArg (fun q => some (!q)) (decide_eq_true e)
theorem b_min {i j k : Int} (e : min i j = k) : builtin .min [.int i, .int j] h = some (.int k, h) := e ▸ rfl
theorem b_max {i j k : Int} (e : max i j = k) : builtin .max [.int i, .int j] h = some (.int k, h) := e ▸ rfl
theorem eq_str {C : Ctx} {a b : List Nat} : compare C .eq (.str a) (.str b) h = some (decide (a = b)) := rfl
theorem ne_list {C : Ctx} {i j : Nat} {α : Type} [DecidableEq α] {a : α} (e : eqV (.loc i) (.loc j) h = some (decide (a = a))) : compare C .ne (.loc i) (.loc j) h = some false := (mp1 e).trans (congrArg (fun q => some (!q)) (decide_eq_true rfl))
theorem u_sub {i k : Nat} {vs : List V} {v : V} (hi : h[i]? = some (.list vs)) (hk : k < vs.length) : setSub (.loc i) (.int k) v h = some (h.set i (.list (vs.set k v))) := bn1 (x := i) rfl (bn1 (x := (k : Int)) rfl (bn1 (lst_is hi) (if_pos ⟨Int.natCast_nonneg k, Int.ofNat_lt.mpr hk⟩)))
theorem LH_sub_rs {k : Nat} {v : V} (hk : k < rs.length) : setSub (.loc (H.length + 4)) (.int k) v (LH H r p t b le most steps at_ row pile gs rs G) = some (LH H r p t b le most steps at_ row pile gs (rs.set k v) G) :=
  (u_sub LH_rs hk).trans (congrArg some RH_set_new)
theorem LH_sub_gs {k : Nat} {v : V} (hk : k < gs.length) : setSub (.loc (H.length + 2)) (.int k) v (LH H r p t b le most steps at_ row pile gs rs G) = some (LH H r p t b le most steps at_ row pile (gs.set k v) rs G) :=
  (u_sub LH_gs hk).trans (congrArg some RH_set_new)
end
local macro_rules
  | `(tactic| wtm_at $s:str) => do
    let t := match s.getString with
      | "r" => "R"
      | "o" => "A"
      | "g" => "R|A|E gp_eq|P gp_ne r g"
      | "h" => "A|B LH_r|E LH_pile|E LH_gs|E LH_rs"
      | "q" => "R|B decide_eq_true|B decide_eq_false|A"
      | "l" => "A|R"
      | "k" => "R|A"
      | "i" => "A|P s_tup r r r|P s_int0 h|P s_int1 h|P s_int h l|B s_str|P s_dict h o|R"
      | "a" => "P g_inst h r k"
      | "s" => "B LH_at|B LH_row|B LH_steps|A"
      | "m" => "P m_append h|P m_pop h|R|A"
      | "p" => "B LH_push|E LH_pop|A|R"
      | "sl" => "A|P sl_str r r o|P sl_list o r r o"
      | "es" => "W es_nil|W rs_cons e es"
      | "eb" => "W rb_one e|W rb_go e q eb|W rb_or e q|W rb_and e q"
      | "e" => "W e_c|W r_var g|A|W r_attr e a|W r_sub e e i|W r_bin e e l|W r_call es l|W r_bi es l|W r_cmp e e l|W r_tup es|W r_list es|W r_neg e|W r_not e|W r_bop eb|W r_ite_t e q e|W r_ite_f e q e|W r_meth e m es p|W r_slice e e e e sl|W r_callx e es l|W r_cmp2 e e l q e l|W r_cmp2f e e l q"
      | "t" => "A|W s_brk|W t_ret e|W t_expr e|W t_asg e|W t_asgs e r|W t_asga e e s|W t_asgi e e e u|W t_aug g e l|W t_auga e a e l s|W t_if_t e q ts|W t_if_f e q ts|W t_whl o"
      | "ts" => "W ss_nil|W ts_go t ts|W ts_ret t|W ts_brk t"
      | "u" => "A|B LH_sub_rs|B LH_sub_gs|P u_sub h l"
      | "z" => "E zp_nil|P zp_cons z"
      | "c" => "C c_ret z ts|C c_next z ts"
      | _ => ""
    if t == "" then Lean.Macro.throwUnsupported
    let ts ← (t.splitOn "|").mapM fun a => do
      let ws := a.splitOn " "
      let n := Lean.mkIdent (Lean.Name.mkSimple (ws.getD 1 ""))
      let r ← match ws.headD "" with
        | "A" => `(tactic| with_reducible assumption)
        | "R" => `(tactic| exact rfl)
        | "E" => `(tactic| exact $n)
        | "B" => `(tactic| exact $n (by assumption))
        | "P" => `(tactic| apply $n)
        | "C" => `(tactic| apply $n rfl rfl)
        | _ => `(tactic| with_reducible apply $n)
      let k ← (ws.drop 2).mapM fun x => `(tactic| wtm_at $(Lean.Syntax.mkStrLit x))
      `(Lean.Parser.Tactic.tacticSeq| $[$((r :: k).toArray)];*)
    `(tactic| first $[| $(ts.toArray)]*)
section
variable {L : Nat} {sc : List V} {ora : Nat → Nat → List V → MH → R V} {n : Nat} {H : MH} {r p : Nat} {t : List Nat} {b le most steps at_ row : Int} {pile gs rs : List V} {G : MH}
theorem go_on_c (hr : r < H.length) : ((prg L sc ora).ctx (n + 1)).call 230 [.loc r] (LH H r p t b le most steps at_ row pile gs rs G) = some (.bool true, LH H r p t b le most steps at_ (row + 1) pile gs rs G) := by
  wtm_at "c"
theorem set_register_c (hr : r < H.length) {k : Nat} {old v : V} (hk : rs[k]? = some old) (hp : pile.length < top) :
    ((prg L sc ora).ctx (n + 1)).call 223 [.loc r, .int k, v] (LH H r p t b le most steps at_ row pile gs rs G) = some (.none, LH H r p t b le most steps at_ row (pile ++ [.tup [.str [114, 101, 103, 105, 115, 116, 101, 114], .int k, old]]) gs (rs.set k v) G) := by
  have hlt : k < rs.length := (List.getElem?_eq_some_iff.mp hk).1
  wtm_at "c"
end
@[simp] theorem getput (ρ : Env) (x y : Nat) (v : V) : Env.get (Env.put ρ x v) y = if x = y then some v else Env.get ρ y := by
  induction ρ with
  | nil => simp [Env.put, Env.get]
  | cons p r ih =>
    unfold Env.put
    by_cases h : p.1 = x
    · rw [if_pos h]
      simp only [Env.get, h]
      by_cases h2 : x = y <;> simp [h2]
    · rw [if_neg h]
      unfold Env.get
      rw [ih]
      by_cases h2 : p.1 = y
      · have : ¬ x = y := fun e => h (h2.trans e.symm)
        rw [if_pos h2, if_neg this, if_pos h2]
      · rw [if_neg h2, if_neg h2]
noncomputable abbrev sSign : V := .str [115, 105, 103, 110]
noncomputable abbrev sSet : V := .str [115, 101, 116]
noncomputable abbrev sRange : V := .str [114, 97, 110, 103, 101]
section
variable {L : Nat} {sc : List V} {ora : Nat → Nat → List V → MH → R V} {n : Nat} {H : MH} {r p : Nat} {t : List Nat} {b le most steps at_ row : Int} {pile gs rs : List V} {G : MH}
theorem same_sign_c {x y : Nat} : ((prg L sc ora).ctx (n + 1)).call 162 [.str [x], .str [y], .bool false] H = some (.bool (x == y), H) := by
  by_cases h : x = y
  · subst h
    have e : decide ([x] = [x]) = true := decide_eq_true rfl
    rw [show (x == x) = true from beq_self_eq_true x]
    wtm_at "c"
  · have e : decide ([x] = [y]) = false := decide_eq_false (by simpa using h)
    rw [show (x == y) = false from beq_eq_false_iff_ne.mpr h]
    wtm_at "c"
theorem sign_fits_sign {c s : Nat} : ((prg L sc ora).ctx (n + 2)).call 195 [.tup [sSign, .str [s], .bool false], .str [c]] H = some (.bool (c == s), H) := by
  have e := same_sign_c (L := L) (sc := sc) (ora := ora) (n := n) (x := c) (y := s) (H := H)
  wtm_at "c"
theorem item_holds_c {a z : Int} {c : Nat} : ((prg L sc ora).ctx (n + 1)).call 174 [.tup [sRange, .int a, .int z], .str [c]] H = some (.bool (decide (a ≤ c) && decide ((c : Int) ≤ z)), H) := by
  by_cases h : a ≤ c
  · rw [decide_eq_true h, Bool.true_and]
    wtm_at "c"
  · rw [decide_eq_false h, Bool.false_and]
    wtm_at "c"
theorem items_hold_c {i c : Nat} {a z a' z' : Int} (h : H[i]? = some (.list [.tup [sRange, .int a, .int z], .tup [sRange, .int a', .int z']])) :
    ((prg L sc ora).ctx (n + 2)).call 181 [.loc i, .str [c]] H = some (.bool ((decide (a ≤ c) && decide ((c : Int) ≤ z)) || (decide (a' ≤ c) && decide ((c : Int) ≤ z'))), H) := by
  have e1 := item_holds_c (L := L) (sc := sc) (ora := ora) (n := n) (H := H) (a := a) (z := z) (c := c)
  have e2 := item_holds_c (L := L) (sc := sc) (ora := ora) (n := n) (H := H) (a := a') (z := z') (c := c)
  generalize (decide (a ≤ c) && decide ((c : Int) ≤ z)) = q at e1 ⊢
  generalize (decide (a' ≤ c) && decide ((c : Int) ≤ z')) = q' at e2 ⊢
  have hi : itemsOf ((prg L sc ora).ctx (n + 1)) (.loc i) H = some [.tup [sRange, .int a, .int z], .tup [sRange, .int a', .int z']] := it_list h
  have hs : still (.loc i) [.tup [sRange, .int a, .int z], .tup [sRange, .int a', .int z']] H = true := st_list h
  cases q with
  | true =>
    show _ = some (V.bool true, H)
    apply c_ret rfl rfl (zp_cons (zp_cons zp_nil)); apply ts_ret; apply t_for (r_var rfl) hi; apply for_ret hs rfl; wtm_at "ts"
  | false =>
    cases q' with
    | true =>
      show _ = some (V.bool true, H)
      apply c_ret rfl rfl (zp_cons (zp_cons zp_nil)); apply ts_ret; apply t_for (r_var rfl) hi; apply for_go hs rfl; wtm_at "ts"; apply for_ret hs rfl; wtm_at "ts"
    | false =>
      show _ = some (V.bool false, H)
      apply c_ret rfl rfl (zp_cons (zp_cons zp_nil)); apply ts_go; apply t_for (r_var rfl) hi; apply for_go hs rfl; wtm_at "ts"; apply for_go hs rfl; wtm_at "ts"; apply for_end hs; wtm_at "ts"
theorem set_holds_c {i c : Nat} {a z a' z' : Int} (h : H[i]? = some (.list [.tup [sRange, .int a, .int z], .tup [sRange, .int a', .int z']])) :
    ((prg L sc ora).ctx (n + 3)).call 188 [.loc i, .bool false, .bool false, .str [c]] H = some (.bool ((decide (a ≤ c) && decide ((c : Int) ≤ z)) || (decide (a' ≤ c) && decide ((c : Int) ≤ z'))), H) := by
  have hi := items_hold_c (L := L) (sc := sc) (ora := ora) (n := n) (c := c) h
  generalize ((decide (a ≤ c) && decide ((c : Int) ≤ z)) || (decide (a' ≤ c) && decide ((c : Int) ≤ z'))) = bb at hi
  cases bb <;> wtm_at "c"
theorem sign_fits_set {i c : Nat} {a z a' z' : Int} (h : H[i]? = some (.list [.tup [sRange, .int a, .int z], .tup [sRange, .int a', .int z']])) :
    ((prg L sc ora).ctx (n + 4)).call 195 [.tup [sSet, .loc i, .bool false, .bool false], .str [c]] H = some (.bool ((decide (a ≤ c) && decide ((c : Int) ≤ z)) || (decide (a' ≤ c) && decide ((c : Int) ≤ z'))), H) := by
  have e := set_holds_c (L := L) (sc := sc) (ora := ora) (n := n) (c := c) h
  wtm_at "c"
noncomputable def FitOK (L : Nat) (sc : List V) (ora : Nat → Nat → List V → MH → R V) (H : MH) (r : Nat) (rowV : V) (fit : Nat → Bool) : Prop :=
  ∀ n o T c, ((prg L sc ora).ctx (n + 4)).call 195 [rowV, .str [c]] (RH H r o T) = some (.bool (fit c), RH H r o T)
theorem row_test_ok {rowV : V} {fit : Nat → Bool} {a : Nat} (hr : r < H.length) (hf : FitOK L sc ora H r rowV fit) (ha : a < t.length) (hfit : fit t[a] = true) :
    ((prg L sc ora).ctx (n + 5)).call 237 [.loc r, rowV] (LH H r p t b le most steps a row pile gs rs G) = some (.bool true, LH H r p t b le most steps (a + 1 : Nat) (row + 1) pile gs rs G) := by
  have hg := go_on_c (L := L) (sc := sc) (ora := ora) (n := n + 3) (p := p) (t := t) (b := b) (le := le) (most := most) (steps := steps) (at_ := (a : Int) + 1) (row := row) (pile := pile) (gs := gs) (rs := rs) (G := G) hr
  have hlt : ¬ (a : Int) ≥ (t.length : Int) := by lia
  have hh : ((prg L sc ora).ctx (n + 4)).call 195 [rowV, .str [t[a]]] (LH H r p t b le most steps a row pile gs rs G) = some (.bool true, LH H r p t b le most steps a row pile gs rs G) := hfit ▸ hf n _ _ t[a]
  have e : ((prg L sc ora).ctx (n + 5)).call 237 [.loc r, rowV] (LH H r p t b le most steps a row pile gs rs G) = some (.bool true, LH H r p t b le most steps ((a : Int) + 1) (row + 1) pile gs rs G) := by wtm_at "c"
  exact e
theorem row_test_no {rowV : V} {fit : Nat → Bool} {a : Nat} (hr : r < H.length) (hf : FitOK L sc ora H r rowV fit) (h : ∀ ha : a < t.length, fit t[a] = false) :
    ((prg L sc ora).ctx (n + 5)).call 237 [.loc r, rowV] (LH H r p t b le most steps a row pile gs rs G) = some (.bool false, LH H r p t b le most steps a row pile gs rs G) := by
  by_cases ha : a < t.length
  · have hlt : ¬ (a : Int) ≥ (t.length : Int) := by lia
    have hh : ((prg L sc ora).ctx (n + 4)).call 195 [rowV, .str [t[a]]] (LH H r p t b le most steps a row pile gs rs G) = some (.bool false, LH H r p t b le most steps a row pile gs rs G) := h ha ▸ hf n _ _ t[a]
    wtm_at "c"
  · have hlt : (a : Int) ≥ (t.length : Int) := by lia
    wtm_at "c"
end
noncomputable def runTo (fit : Nat → Bool) (t : List Nat) : Nat → Nat → Nat
  | 0, a => a
  | k + 1, a => match t[a]? with
    | some c => if fit c then runTo fit t k (a + 1) else a
    | none => a
noncomputable abbrev sRun : V := .str [114, 117, 110]
noncomputable abbrev sTry : V := .str [116, 114, 121]
noncomputable abbrev sLess : V := .str [108, 101, 115, 115]
noncomputable abbrev sGroup : V := .str [103, 114, 111, 117, 112]
noncomputable abbrev sRegister : V := .str [114, 101, 103, 105, 115, 116, 101, 114]
section
variable {L : Nat} {sc : List V} {ora : Nat → Nat → List V → MH → R V} {n : Nat} {H : MH} {r p : Nat} {t : List Nat} {b le most steps at_ row : Int} {pile gs rs : List V} {G : MH}
theorem run_end_loop {rowV : V} {fit : Nat → Bool} (hr : r < H.length) (hf : FitOK L sc ora H r rowV fit) {m : Int} {o : O} {T : MH} (ho : ∃ as, o = .inst 212 as ∧ Env.get as 1954047348 = some (.str t)) :
    ∀ (d a stop k : Nat), stop ≤ t.length → stop - a = d → d < k → a ≤ stop →
      whileGo (evT ((prg L sc ora).ctx (n + 4)) (.bop true [(.cmp (.var 29793) [.lt] [(.var 1886352499)]), (.call (.c (.ref 195)) [(.var 1953719668), (.sub (.attr (.var 7239026) 1954047348) (.var 29793))])]))
        (evSs ((prg L sc ora).ctx (n + 4)) [.aug (.var 29793) .add (.c (.int 1))]) k [(7239026, .loc r), (1953719668, rowV), (29793, .int a), (1953722221, .int m), (1886352499, .int stop)] (RH H r o T) =
      some ((.next, [(7239026, .loc r), (1953719668, rowV), (29793, .int (runTo fit t (stop - a) a : Nat)), (1953722221, .int m), (1886352499, .int stop)]), RH H r o T) := by
  obtain ⟨as, rfl, has⟩ := ho
  have hro : (RH H r (.inst 212 as) T)[r]? = some (.inst 212 as) := RH_r hr
  intro d
  induction d with
  | zero =>
    intro a stop k h1 h2 h3 h4
    obtain ⟨k, rfl⟩ : ∃ j, k = j + 1 := ⟨k - 1, by lia⟩
    have hn : ¬ (a : Int) < (stop : Int) := by lia
    rw [h2]
    apply w_end
    apply t_test
    wtm_at "e"
    exact rfl
  | succ d ih =>
    intro a stop k h1 h2 h3 h4
    obtain ⟨k, rfl⟩ : ∃ j, k = j + 1 := ⟨k - 1, by lia⟩
    have hlt : (a : Int) < (stop : Int) := by lia
    have ha : a < t.length := by lia
    have hh := hf n (.inst 212 as) T t[a]
    have hru : runTo fit t (d + 1) a = if fit t[a] then runTo fit t d (a + 1) else a := by simp only [runTo, List.getElem?_eq_getElem ha]
    rw [h2, hru]
    cases hc : fit t[a] with
    | true =>
      rw [hc] at hh
      have hih := ih (a + 1) stop k h1 (by lia) (by lia) (by lia)
      rw [show stop - (a + 1) = d by lia] at hih
      apply w_go
      · apply t_test
        wtm_at "e"
        exact rfl
      · wtm_at "ts"
      · exact hih
    | false =>
      rw [hc] at hh
      apply w_end
      apply t_test
      wtm_at "e"
      exact rfl
theorem run_end_c {rowV : V} {fit : Nat → Bool} {a : Nat} {m : Int} {stop : Nat} (hr : r < H.length) (hf : FitOK L sc ora H r rowV fit) (ha : a ≤ stop) (hs : stop ≤ t.length) (hm : (m < 0 ∧ stop = t.length) ∨ (0 ≤ m ∧ (stop : Int) = min (t.length : Int) (a + m))) (hl : t.length < 1000) :
    ((prg L sc ora).ctx (n + 5)).call 244 [.loc r, rowV, .int a, .int m] (LH H r p t b le most steps at_ row pile gs rs G) = some (.int (runTo fit t (stop - a) a : Nat), LH H r p t b le most steps at_ row pile gs rs G) := by
  have loop := run_end_loop (L := L) (sc := sc) (ora := ora) (n := n) (r := r) (t := t) (m := m) hr hf (o := .inst 212 (runAs p t b le most steps at_ row (H.length + 2) (H.length + 4) H.length)) (T := .list pile :: .list [.none] :: .list gs :: .list [.int (-1)] :: .list rs :: G) ⟨_, rfl, rfl⟩ (stop - a) a stop turns hs rfl (by unfold turns; lia) ha
  rcases hm with ⟨h1, rfl⟩ | ⟨h1, h2⟩
  · apply c_ret rfl rfl; wtm_at "z"; apply ts_go; wtm_at "t"; apply ts_go; apply t_whl; exact loop; exact ts_ret (t_ret (r_var rfl))
  · have h1' : ¬ m < 0 := by lia
    have h3 : builtin .min [.int (t.length : Int), .int ((a : Int) + m)] (LH H r p t b le most steps at_ row pile gs rs G) = some (.int stop, LH H r p t b le most steps at_ row pile gs rs G) := by rw [h2]; rfl
    apply c_ret rfl rfl; wtm_at "z"; apply ts_go; wtm_at "t"; apply ts_go; apply t_whl; exact loop; exact ts_ret (t_ret (r_var rfl))
theorem row_jump_c (hr : r < H.length) {k : Int} : ((prg L sc ora).ctx (n + 1)).call 293 [.loc r, .tup [.str [106, 117, 109, 112], .int k]] (LH H r p t b le most steps at_ row pile gs rs G) = some (.bool true, LH H r p t b le most steps at_ k pile gs rs G) := by
  wtm_at "c"
theorem row_split_c (hr : r < H.length) {x y : Int} (hp : pile.length < top) : ((prg L sc ora).ctx (n + 1)).call 300 [.loc r, .tup [.str [115, 112, 108, 105, 116], .int x, .int y]] (LH H r p t b le most steps at_ row pile gs rs G) = some (.bool true, LH H r p t b le most steps at_ x (pile ++ [.tup [sTry, .int y, .int at_]]) gs rs G) := by
  wtm_at "c"
theorem row_open_c (hr : r < H.length) {k : Nat} {old : V} (hk : rs[k]? = some old) (hp : pile.length < top) : ((prg L sc ora).ctx (n + 2)).call 279 [.loc r, .tup [.str [111, 112, 101, 110], .int k]] (LH H r p t b le most steps at_ row pile gs rs G) = some (.bool true, LH H r p t b le most steps at_ (row + 1) (pile ++ [.tup [sRegister, .int k, old]]) gs (rs.set k (.int at_)) G) := by
  have h1 := set_register_c (L := L) (sc := sc) (ora := ora) (n := n) (p := p) (t := t) (b := b) (le := le) (most := most) (steps := steps) (at_ := at_) (row := row) (pile := pile) (gs := gs) (rs := rs) (G := G) (v := .int at_) hr hk hp
  have h2 := go_on_c (L := L) (sc := sc) (ora := ora) (n := n) (p := p) (t := t) (b := b) (le := le) (most := most) (steps := steps) (at_ := at_) (row := row) (pile := pile ++ [.tup [sRegister, .int k, old]]) (gs := gs) (rs := rs.set k (.int at_)) (G := G) hr
  wtm_at "c"
theorem row_close_c (hr : r < H.length) {k q : Nat} {old v : V} (hk : gs[k]? = some old) (hq : rs[q]? = some v) (hp : pile.length < top) : ((prg L sc ora).ctx (n + 2)).call 286 [.loc r, .tup [.str [99, 108, 111, 115, 101], .int k, .int q]] (LH H r p t b le most steps at_ row pile gs rs G) = some (.bool true, LH H r p t b le most steps at_ (row + 1) (pile ++ [.tup [sGroup, .int k, old]]) (gs.set k (.tup [v, .int at_])) rs G) := by
  have h2 := go_on_c (L := L) (sc := sc) (ora := ora) (n := n) (p := p) (t := t) (b := b) (le := le) (most := most) (steps := steps) (at_ := at_) (row := row) (pile := pile ++ [.tup [sGroup, .int k, old]]) (gs := gs.set k (.tup [v, .int at_])) (rs := rs) (G := G) hr
  have k1 := (List.getElem?_eq_some_iff.mp hk).1
  wtm_at "c"
end
theorem runTo_ge (fit : Nat → Bool) (t : List Nat) : ∀ k a, a ≤ runTo fit t k a
  | 0, a => Nat.le_refl _
  | k + 1, a => by
    unfold runTo
    split
    · split
      · have := runTo_ge fit t k (a + 1); lia
      · exact Nat.le_refl _
    · exact Nat.le_refl _
theorem runTo_le (fit : Nat → Bool) (t : List Nat) : ∀ k a, runTo fit t k a ≤ a + k
  | 0, a => Nat.le_refl _
  | k + 1, a => by
    unfold runTo
    split
    · split
      · have := runTo_le fit t k (a + 1); lia
      · exact Nat.le_add_right _ _
    · lia
theorem fdiv_small {x : Int} (h0 : 0 ≤ x) (h : x < 100) : Int.fdiv x 100 = 0 := by
  rw [Int.fdiv_eq_ediv_of_nonneg _ (by exact Int.natCast_nonneg _)]; lia
noncomputable abbrev sEnd : V := .str [101, 110, 100]
section
variable {L : Nat} {sc : List V} {ora : Nat → Nat → List V → MH → R V} {n : Nat} {H : MH} {r p : Nat} {t : List Nat} {b le most steps at_ row : Int} {pile gs rs : List V} {G : MH}
theorem row_run_c {rowV : V} {fit : Nat → Bool} {a least : Nat} {m : Int} {stop : Nat} (hr : r < H.length) (hf : FitOK L sc ora H r rowV fit) (ha : a ≤ stop) (hs : stop ≤ t.length) (hm : (m < 0 ∧ stop = t.length) ∨ (0 ≤ m ∧ (stop : Int) = min (t.length : Int) (a + m))) (hl : t.length < 100) (hp : pile.length < top) :
    ((prg L sc ora).ctx (n + 6)).call 251 [.loc r, .tup [sRun, rowV, .int least, .int m, .bool false]] (LH H r p t b le most steps a row pile gs rs G) =
      (if runTo fit t (stop - a) a < a + least then some (.bool false, LH H r p t b le most steps a row pile gs rs G)
      else some (.bool true, LH H r p t b le most steps (runTo fit t (stop - a) a : Nat) (row + 1) (if a + least < runTo fit t (stop - a) a then pile ++ [.tup [sLess, .int (row + 1), .int (a + least : Nat), .int (runTo fit t (stop - a) a : Nat)]] else pile) gs rs G)) := by
  rw [call_eq' (mf := f251) rfl (by decide)]
  have he := run_end_c (L := L) (sc := sc) (ora := ora) (n := n) (H := H) (p := p) (t := t) (b := b) (le := le) (most := most) (steps := steps) (at_ := a) (row := row) (pile := pile) (gs := gs) (rs := rs) (G := G) hr hf ha hs hm (by lia)
  have g1 := runTo_ge fit t (stop - a) a
  have g2 := runTo_le fit t (stop - a) a
  generalize runTo fit t (stop - a) a = e at he g1 g2 ⊢
  have hd : Int.fdiv ((e : Int) - (a : Int)) 100 = 0 := fdiv_small (by lia) (by lia)
  by_cases h1 : e < a + least
  · have h1' : (e : Int) < (a : Int) + (least : Int) := by lia
    rw [if_pos h1]
    have e0 : ((prg L sc ora).ctx (n + 6)).call 251 [.loc r, .tup [sRun, rowV, .int least, .int m, .bool false]] (LH H r p t b le most steps a row pile gs rs G) = some (.bool false, LH H r p t b le most (steps + Int.fdiv ((e : Int) - (a : Int)) 100) a row pile gs rs G) := by wtm_at "c"
    rw [hd, Int.add_zero] at e0; exact e0
  · have h1' : ¬ (e : Int) < (a : Int) + (least : Int) := by lia
    rw [if_neg h1]
    by_cases h2 : a + least < e
    · have h2' : (e : Int) > (a : Int) + (least : Int) := by lia
      rw [if_pos h2]
      have e0 : ((prg L sc ora).ctx (n + 6)).call 251 [.loc r, .tup [sRun, rowV, .int least, .int m, .bool false]] (LH H r p t b le most steps a row pile gs rs G) = some (.bool true, LH H r p t b le most (steps + Int.fdiv ((e : Int) - (a : Int)) 100) e (row + 1) (pile ++ [.tup [sLess, .int (row + 1), .int ((a : Int) + least), .int e]]) gs rs G) := by wtm_at "c"
      rw [hd, Int.add_zero] at e0; exact e0
    · have h2' : ¬ (e : Int) > (a : Int) + (least : Int) := by lia
      rw [if_neg h2]
      have e0 : ((prg L sc ora).ctx (n + 6)).call 251 [.loc r, .tup [sRun, rowV, .int least, .int m, .bool false]] (LH H r p t b le most steps a row pile gs rs G) = some (.bool true, LH H r p t b le most (steps + Int.fdiv ((e : Int) - (a : Int)) 100) e (row + 1) pile gs rs G) := by wtm_at "c"
      rw [hd, Int.add_zero] at e0; exact e0
theorem undo_reg_c (hr : r < H.length) {k : Nat} {old : V} (hk : k < rs.length) : ((prg L sc ora).ctx (n + 1)).call 340 [.loc r, .tup [sRegister, .int k, old]] (LH H r p t b le most steps at_ row pile gs rs G) = some (.none, LH H r p t b le most steps at_ row pile gs (rs.set k old) G) := by
  apply c_next rfl rfl; wtm_at "z"; wtm_at "ts"
theorem undo_grp_c (hr : r < H.length) {k : Nat} {old : V} (hk : k < gs.length) : ((prg L sc ora).ctx (n + 1)).call 340 [.loc r, .tup [sGroup, .int k, old]] (LH H r p t b le most steps at_ row pile gs rs G) = some (.none, LH H r p t b le most steps at_ row pile (gs.set k old) rs G) := by
  apply c_next rfl rfl; wtm_at "z"; wtm_at "ts"
noncomputable def bTest : ME := match f389.body with
  | [.whl c _, _] => c
  | _ => .bad
noncomputable def bBody : List MS := match f389.body with
  | [.whl _ b, _] => b
  | _ => []
theorem f389_eq : f389 = ⟨[7239026], [], [.whl bTest bBody, .ret (.c (.bool false))]⟩ := rfl
theorem eq_nil_dec : ∀ (l : List V), decide (l ≠ []) = !l.isEmpty
  | [] => rfl
  | _ :: _ => rfl
theorem LH_app : LH H r p t b le most steps at_ row pile gs rs G ++ [.list []] = LH H r p t b le most steps at_ row pile gs rs (G ++ [.list []]) := RH_app
theorem bTest_c {ρ : Env} (hr : r < H.length) (hρ : Env.get ρ 7239026 = some (.loc r)) (hp : pile.all flat1 = true) :
    evT ((prg L sc ora).ctx n) bTest ρ (LH H r p t b le most steps at_ row pile gs rs G) = some (decide (pile ≠ []), LH H r p t b le most steps at_ row pile gs rs (G ++ [.list []])) := by
  have e3 : (LH H r p t b le most steps at_ row pile gs rs (G ++ [.list []]))[(LH H r p t b le most steps at_ row pile gs rs G).length]? = some (.list []) := by rw [← LH_app]; exact List.getElem?_concat_length
  have hc : compare ((prg L sc ora).ctx n) .ne (.loc H.length) (.loc (LH H r p t b le most steps at_ row pile gs rs G).length) (LH H r p t b le most steps at_ row pile gs rs (G ++ [.list []])) = some (!decide (pile = [])) := by
    exact mp1 (eq_locs LH_pile e3 hp rfl)
  have e5 : evE ((prg L sc ora).ctx n) false (.list []) ρ (LH H r p t b le most steps at_ row pile gs rs G) = some (.loc (LH H r p t b le most steps at_ row pile gs rs G).length, LH H r p t b le most steps at_ row pile gs rs (G ++ [.list []])) := LH_app ▸ r_list es_nil
  have e6 : (!decide (pile = [])) = decide (pile ≠ []) := by rw [decide_not]
  unfold bTest f389
  apply t_test
  wtm_at "e"
  exact e6
theorem back_nil {ρ : Env} {k : Nat} (hr : r < H.length) (hρ : Env.get ρ 7239026 = some (.loc r)) :
    whileGo (evT ((prg L sc ora).ctx n) bTest) (evSs ((prg L sc ora).ctx n) bBody) (k + 1) ρ (LH H r p t b le most steps at_ row [] gs rs G) = some ((.next, ρ), LH H r p t b le most steps at_ row [] gs rs (G ++ [.list []])) :=
  w_end (bTest_c hr hρ rfl)
theorem bTest_1 {ρ : Env} {P : List V} {e : V} (hr : r < H.length) (hρ : Env.get ρ 7239026 = some (.loc r)) (hp : P.all flat1 = true) (he : flat1 e = true) :
    evT ((prg L sc ora).ctx n) bTest ρ (LH H r p t b le most steps at_ row (P ++ [e]) gs rs G) = some (true, LH H r p t b le most steps at_ row (P ++ [e]) gs rs (G ++ [.list []])) := by
  have e0 := bTest_c (L := L) (sc := sc) (ora := ora) (n := n) (p := p) (t := t) (b := b) (le := le) (most := most) (steps := steps) (at_ := at_) (row := row) (pile := P ++ [e]) (gs := gs) (rs := rs) (G := G) hr hρ (by rw [List.all_append, hp, List.all_cons, he]; rfl)
  rw [decide_eq_true (by simp)] at e0
  exact e0
theorem back_try {ρ : Env} {k : Nat} {P : List V} {y a : Int} (hr : r < H.length) (hρ : Env.get ρ 7239026 = some (.loc r)) (hp : P.all flat1 = true) :
    ∃ ρ', whileGo (evT ((prg L sc ora).ctx n) bTest) (evSs ((prg L sc ora).ctx n) bBody) (k + 1) ρ (LH H r p t b le most steps at_ row (P ++ [.tup [sTry, .int y, .int a]]) gs rs G) = some ((.ret (.bool true), ρ'), LH H r p t b le most steps a y P gs rs (G ++ [.list []])) := by
  refine ⟨ρ.put 521611275877 (.tup [sTry, .int y, .int a]), w_ret (bTest_1 hr hρ hp rfl) ?_⟩
  unfold bBody f389
  wtm_at "ts"
theorem back_less1 {ρ : Env} {k : Nat} {P : List V} {y lo e : Int} (hr : r < H.length) (hρ : Env.get ρ 7239026 = some (.loc r)) (hp : P.all flat1 = true) (he : e - 1 ≤ lo) :
    ∃ ρ', whileGo (evT ((prg L sc ora).ctx n) bTest) (evSs ((prg L sc ora).ctx n) bBody) (k + 1) ρ (LH H r p t b le most steps at_ row (P ++ [.tup [sLess, .int y, .int lo, .int e]]) gs rs G) = some ((.ret (.bool true), ρ'), LH H r p t b le most steps (e - 1) y P gs rs (G ++ [.list []])) := by
  have hle : ¬ e - 1 > lo := by lia
  refine ⟨ρ.put 521611275877 (.tup [sLess, .int y, .int lo, .int e]), w_ret (bTest_1 hr hρ hp rfl) ?_⟩
  unfold bBody f389
  wtm_at "ts"
theorem back_reg {ρ : Env} {k : Nat} {P : List V} {q : Nat} {old : V} (hr : r < H.length) (hρ : Env.get ρ 7239026 = some (.loc r)) (hp : P.all flat1 = true) (ho : scal old = true) (hq : q < rs.length) :
    whileGo (evT ((prg L sc ora).ctx (n + 1)) bTest) (evSs ((prg L sc ora).ctx (n + 1)) bBody) (k + 1) ρ (LH H r p t b le most steps at_ row (P ++ [.tup [sRegister, .int q, old]]) gs rs G) =
      whileGo (evT ((prg L sc ora).ctx (n + 1)) bTest) (evSs ((prg L sc ora).ctx (n + 1)) bBody) k (ρ.put 521611275877 (.tup [sRegister, .int q, old])) (LH H r p t b le most steps at_ row P gs (rs.set q old) (G ++ [.list []])) := by
  have hu := undo_reg_c (L := L) (sc := sc) (ora := ora) (n := n) (H := H) (p := p) (t := t) (b := b) (le := le) (most := most) (steps := steps) (at_ := at_) (row := row) (pile := P) (gs := gs) (rs := rs) (G := G ++ [.list []]) (old := old) hr hq
  have hfl : flat1 (.tup [sRegister, .int q, old]) = true := by
    simp only [flat1, List.all_cons, List.all_nil, ho]; rfl
  refine w_step (bTest_1 hr hρ hp hfl) ?_
  unfold bBody f389
  wtm_at "ts"
theorem back_grp {ρ : Env} {k : Nat} {P : List V} {q : Nat} {old : V} (hr : r < H.length) (hρ : Env.get ρ 7239026 = some (.loc r)) (hp : P.all flat1 = true) (ho : scal old = true) (hq : q < gs.length) :
    whileGo (evT ((prg L sc ora).ctx (n + 1)) bTest) (evSs ((prg L sc ora).ctx (n + 1)) bBody) (k + 1) ρ (LH H r p t b le most steps at_ row (P ++ [.tup [sGroup, .int q, old]]) gs rs G) =
      whileGo (evT ((prg L sc ora).ctx (n + 1)) bTest) (evSs ((prg L sc ora).ctx (n + 1)) bBody) k (ρ.put 521611275877 (.tup [sGroup, .int q, old])) (LH H r p t b le most steps at_ row P (gs.set q old) rs (G ++ [.list []])) := by
  have hu := undo_grp_c (L := L) (sc := sc) (ora := ora) (n := n) (H := H) (p := p) (t := t) (b := b) (le := le) (most := most) (steps := steps) (at_ := at_) (row := row) (pile := P) (gs := gs) (rs := rs) (G := G ++ [.list []]) (old := old) hr hq
  have hfl : flat1 (.tup [sGroup, .int q, old]) = true := by
    simp only [flat1, List.all_cons, List.all_nil, ho]; rfl
  refine w_step (bTest_1 hr hρ hp hfl) ?_
  unfold bBody f389
  wtm_at "ts"
theorem back_call_ret {h h' : MH} {ρ' : Env} {v : V} (e : whileGo (evT ((prg L sc ora).ctx n) bTest) (evSs ((prg L sc ora).ctx n) bBody) turns [(7239026, .loc r)] h = some ((.ret v, ρ'), h')) : ((prg L sc ora).ctx (n + 1)).call 389 [.loc r] h = some (v, h') :=
  c_ret rfl rfl (zp_cons zp_nil) (ts_ret (t_whl e))
theorem back_call_next {h h' : MH} {ρ' : Env} (e : whileGo (evT ((prg L sc ora).ctx n) bTest) (evSs ((prg L sc ora).ctx n) bBody) turns [(7239026, .loc r)] h = some ((.next, ρ'), h')) : ((prg L sc ora).ctx (n + 1)).call 389 [.loc r] h = some (.bool false, h') :=
  c_ret rfl rfl (zp_cons zp_nil) (ts_go (t_whl e) (ts_ret (t_ret e_c)))
end
noncomputable def mBody : List MS := match f396.body with
  | [_, _, _, _, _, _, .whl _ b] => b
  | _ => []
noncomputable def mHead : List MS := f396.body.take 6
theorem f396_eq : f396 = ⟨[7239026, 495606460279, 500135195763], [], mHead ++ [.whl (.c (.bool true)) mBody]⟩ := rfl
structure MEnv (ρ : Env) (r wd : Nat) (start : Int) : Prop where
  run : Env.get ρ 7239026 = some (.loc r)
  words : Env.get ρ 495606460279 = some (.loc wd)
  start : Env.get ρ 500135195763 = some (.int start)
theorem MEnv.row {ρ : Env} {r wd : Nat} {start : Int} (h : MEnv ρ r wd start) (v : V) : MEnv (ρ.put 7827314 v) r wd start := ⟨gp_ne rfl h.run, gp_ne rfl h.words, gp_ne rfl h.start⟩
theorem MEnv.right {ρ : Env} {r wd : Nat} {start : Int} (h : MEnv ρ r wd start) (v : V) : MEnv (ρ.put 8388068008565633897 v) r wd start := ⟨gp_ne rfl h.run, gp_ne rfl h.words, gp_ne rfl h.start⟩
@[simp] theorem aok_prg_rows : aok 499 1937207154 = true := rfl
@[simp] theorem aok_prg_groups : aok 499 126926843769447 = true := rfl
@[simp] theorem aok_prg_registers : aok 499 2129618691208608441714 = true := rfl
structure ProgAt (H : MH) (p pr : Nat) (rows : List V) (ng nr nl : Nat) : Prop where
  prog : H[p]? = some (.inst 499 [(1937207154, .loc pr), (126926843769447, .int ng), (2129618691208608441714, .int nr), (495622906222, .loc nl)])
  rows : H[pr]? = some (.list rows)
structure MCx (H : MH) (r p pr wd : Nat) (rows : List V) (ng nr nl : Nat) : Prop where
  pa : ProgAt H p pr rows ng nr nl
  hr : r < H.length
  pne : p ≠ r
  prne : pr ≠ r
  wne : wd ≠ r
  words : H[wd]? = some (.dict rowTab)
theorem MCx.p_lt {H : MH} {r p pr wd : Nat} {rows : List V} {ng nr nl : Nat} (c : MCx H r p pr wd rows ng nr nl) : p < H.length := (List.getElem?_eq_some_iff.mp c.pa.prog).1
theorem MCx.pr_lt {H : MH} {r p pr wd : Nat} {rows : List V} {ng nr nl : Nat} (c : MCx H r p pr wd rows ng nr nl) : pr < H.length := (List.getElem?_eq_some_iff.mp c.pa.rows).1
theorem MCx.wd_lt {H : MH} {r p pr wd : Nat} {rows : List V} {ng nr nl : Nat} (c : MCx H r p pr wd rows ng nr nl) : wd < H.length := (List.getElem?_eq_some_iff.mp c.words).1
section
variable {L : Nat} {sc : List V} {ora : Nat → Nat → List V → MH → R V} {n : Nat} {H : MH} {r p pr wd ng nr nl : Nat} {rows : List V} {t : List Nat} {b le most steps at_ start : Int} {row : Nat} {pile gs rs : List V} {G : MH} {ρ : Env} {k : Nat}
noncomputable abbrev mLoop (L : Nat) (sc : List V) (ora : Nat → Nat → List V → MH → R V) (n k : Nat) (ρ : Env) (h : MH) : R (Fl × Env) := whileGo (evT ((prg L sc ora).ctx n) (.c (.bool true))) (evSs ((prg L sc ora).ctx n) mBody) k ρ h
theorem m_pre (c : MCx H r p pr wd rows ng nr nl) (m : MEnv ρ r wd start) (hs : steps + 1 ≤ most) {rv : V} (hrow : rows[row]? = some rv) {R : (Fl × Env) × MH}
    (e : evSs ((prg L sc ora).ctx n) (mBody.drop 3) (ρ.put 7827314 rv) (LH H r p t b le most (steps + 1) at_ row pile gs rs G) = some R) : evSs ((prg L sc ora).ctx n) mBody ρ (LH H r p t b le most steps at_ row pile gs rs G) = some R := by
  have hr := c.hr
  have h1 := m.run
  have hn : ¬ steps + 1 > most := by lia
  have h2 : (LH H r p t b le most (steps + 1) at_ row pile gs rs G)[p]? = some (.inst 499 [(1937207154, .loc pr), (126926843769447, .int ng), (2129618691208608441714, .int nr), (495622906222, .loc nl)]) := (RH_old c.p_lt c.pne).trans c.pa.prog
  have h3 : (LH H r p t b le most (steps + 1) at_ row pile gs rs G)[pr]? = some (.list rows) := (RH_old c.pr_lt c.prne).trans c.pa.rows
  unfold mBody f396
  apply ts_go
  wtm_at "t"
  apply ts_go
  wtm_at "t"
  apply ts_go
  wtm_at "t"
  exact e
theorem m_end_ok (c : MCx H r p pr wd rows ng nr nl) (m : MEnv ρ r wd start) (hs : steps + 1 ≤ most) (hrow : rows[row]? = some (.tup [sEnd])) (hle : le ≤ at_) {g0 : V} {gr : List V} :
    ∃ ρ', mLoop L sc ora n (k + 1) ρ (LH H r p t b le most steps at_ row pile (g0 :: gr) rs G) = some ((.ret (.bool true), ρ'), LH H r p t b le most (steps + 1) at_ row pile (.tup [.int start, .int at_] :: gr) rs G) := by
  have hr := c.hr
  have h1 := m.run
  have h2 := m.start
  have hge : at_ ≥ le := hle
  have hu : setSub (.loc (H.length + 2)) (.int 0) (.tup [.int start, .int at_]) (LH H r p t b le most (steps + 1) at_ row pile (g0 :: gr) rs G) = some (LH H r p t b le most (steps + 1) at_ row pile (.tup [.int start, .int at_] :: gr) rs G) := LH_sub_gs (k := 0) (by simp)
  refine ⟨(ρ.put 7827314 (.tup [sEnd])).put 8388068008565633897 (.bool (decide (at_ ≥ le))), w_ret (t_test e_c rfl) (m_pre c m hs hrow ?_)⟩
  unfold mBody f396
  apply ts_ret
  wtm_at "t"
theorem m_end_no (c : MCx H r p pr wd rows ng nr nl) (m : MEnv ρ r wd start) (hs : steps + 1 ≤ most) (hrow : rows[row]? = some (.tup [sEnd])) (hle : at_ < le) {h3 : MH}
    (hb : ((prg L sc ora).ctx n).call 389 [.loc r] (LH H r p t b le most (steps + 1) at_ row pile gs rs G) = some (.bool false, h3)) :
    ∃ ρ', mLoop L sc ora n (k + 1) ρ (LH H r p t b le most steps at_ row pile gs rs G) = some ((.ret (.bool false), ρ'), h3) := by
  have hr := c.hr
  have h1 := m.run
  have hl : ¬ at_ ≥ le := by lia
  have hl2 : (!decide (at_ ≥ le)) = true := by rw [decide_eq_false hl]; rfl
  refine ⟨(ρ.put 7827314 (.tup [sEnd])).put 8388068008565633897 (.bool (decide (at_ ≥ le))), w_ret (t_test e_c rfl) (m_pre c m hs hrow ?_)⟩
  unfold mBody f396
  apply ts_go
  wtm_at "t"
  apply ts_ret
  wtm_at "t"
theorem m_word {w : List Nat} {rest : List V} (hw : w ≠ [101, 110, 100]) (hlen : rest.length < 100) {C : Ctx} {h : MH} : subscript C (.tup (.str w :: rest)) (.int 0) h = some (.str w) := by
  refine s_tup (k := 0) (Nat.ble_eq_true_of_le (by simp [top]; lia)) ?_ rfl
  exact seqIndex_nat (a := 0) (by simp)
theorem m_call (c : MCx H r p pr wd rows ng nr nl) (m : MEnv ρ r wd start) (hs : steps + 1 ≤ most) {w : List Nat} {rest : List V} (hrow : rows[row]? = some (.tup (.str w :: rest))) (hw : w ≠ [101, 110, 100]) (hlen : rest.length < 100) {f : Nat} (hf : inDict w rowTab = some (.ref f)) {h2 : MH} {q : Bool}
    (hc : ((prg L sc ora).ctx n).call f [.loc r, .tup (.str w :: rest)] (LH H r p t b le most (steps + 1) at_ row pile gs rs G) = some (.bool q, h2)) {R : (Fl × Env) × MH}
    (e : evSs ((prg L sc ora).ctx n) (mBody.drop 4) ((ρ.put 7827314 (.tup (.str w :: rest))).put 8388068008565633897 (.bool q)) h2 = some R) : evSs ((prg L sc ora).ctx n) mBody ρ (LH H r p t b le most steps at_ row pile gs rs G) = some R := by
  have hr := c.hr
  have h1 := m.run
  have h2 := m.words
  have h3 : (LH H r p t b le most (steps + 1) at_ row pile gs rs G)[wd]? = some (.dict rowTab) := (RH_old c.wd_lt c.wne).trans c.words
  have h4 := m_word hw hlen (C := (prg L sc ora).ctx n) (h := LH H r p t b le most (steps + 1) at_ row pile gs rs G)
  refine m_pre c m hs hrow ?_
  unfold mBody f396
  apply ts_go
  wtm_at "t"
  exact e
theorem m_row (c : MCx H r p pr wd rows ng nr nl) (m : MEnv ρ r wd start) (hs : steps + 1 ≤ most) {w : List Nat} {rest : List V} (hrow : rows[row]? = some (.tup (.str w :: rest))) (hw : w ≠ [101, 110, 100]) (hlen : rest.length < 100) {f : Nat} (hf : inDict w rowTab = some (.ref f)) {h2 : MH}
    (hc : ((prg L sc ora).ctx n).call f [.loc r, .tup (.str w :: rest)] (LH H r p t b le most (steps + 1) at_ row pile gs rs G) = some (.bool true, h2)) :
    mLoop L sc ora n (k + 1) ρ (LH H r p t b le most steps at_ row pile gs rs G) = mLoop L sc ora n k ((ρ.put 7827314 (.tup (.str w :: rest))).put 8388068008565633897 (.bool true)) h2 := by
  refine w_step (t_test e_c rfl) (m_call c m hs hrow hw hlen hf hc ?_)
  apply ts_go
  wtm_at "t"
  exact ss_nil
theorem m_row_back (c : MCx H r p pr wd rows ng nr nl) (m : MEnv ρ r wd start) (hs : steps + 1 ≤ most) {w : List Nat} {rest : List V} (hrow : rows[row]? = some (.tup (.str w :: rest))) (hw : w ≠ [101, 110, 100]) (hlen : rest.length < 100) {f : Nat} (hf : inDict w rowTab = some (.ref f)) {h2 h3 : MH}
    (hc : ((prg L sc ora).ctx n).call f [.loc r, .tup (.str w :: rest)] (LH H r p t b le most (steps + 1) at_ row pile gs rs G) = some (.bool false, h2)) (hb : ((prg L sc ora).ctx n).call 389 [.loc r] h2 = some (.bool true, h3)) :
    mLoop L sc ora n (k + 1) ρ (LH H r p t b le most steps at_ row pile gs rs G) = mLoop L sc ora n k ((ρ.put 7827314 (.tup (.str w :: rest))).put 8388068008565633897 (.bool false)) h3 := by
  have h1 := m.run
  refine w_step (t_test e_c rfl) (m_call c m hs hrow hw hlen hf hc ?_)
  apply ts_go
  wtm_at "t"
  exact ss_nil
theorem m_row_fail (c : MCx H r p pr wd rows ng nr nl) (m : MEnv ρ r wd start) (hs : steps + 1 ≤ most) {w : List Nat} {rest : List V} (hrow : rows[row]? = some (.tup (.str w :: rest))) (hw : w ≠ [101, 110, 100]) (hlen : rest.length < 100) {f : Nat} (hf : inDict w rowTab = some (.ref f)) {h2 h3 : MH}
    (hc : ((prg L sc ora).ctx n).call f [.loc r, .tup (.str w :: rest)] (LH H r p t b le most (steps + 1) at_ row pile gs rs G) = some (.bool false, h2)) (hb : ((prg L sc ora).ctx n).call 389 [.loc r] h2 = some (.bool false, h3)) :
    ∃ ρ', mLoop L sc ora n (k + 1) ρ (LH H r p t b le most steps at_ row pile gs rs G) = some ((.ret (.bool false), ρ'), h3) := by
  have h1 := m.run
  refine ⟨(ρ.put 7827314 (.tup (.str w :: rest))).put 8388068008565633897 (.bool false), w_ret (t_test e_c rfl) (m_call c m hs hrow hw hlen hf hc ?_)⟩
  apply ts_ret
  wtm_at "t"
noncomputable abbrev runO (p : Nat) (t : List Nat) (b le most steps at_ row : Int) (g q l : Nat) : O := .inst 212 (runAs p t b le most steps at_ row g q l)
theorem match_head (c : MCx H r p pr wd rows ng nr nl) {g0 q0 l0 : Nat} {row0 at0 : Int} (h0 : H[r]? = some (runO p t b le most steps at0 row0 g0 q0 l0)) (hng : ng < 20) (hnr : nr < 20) (hgr : ng + nr < 20) :
    evSs ((prg L sc ora).ctx n) mHead [(7239026, .loc r), (495606460279, .loc wd), (500135195763, .int start)] H =
      some ((.next, [(7239026, .loc r), (495606460279, .loc wd), (500135195763, .int start)]), LH H r p t b le most steps start (0 : Nat) [] (List.replicate (ng + 1) .none) (List.replicate nr (.int (-1))) []) := by
  have hr := c.hr
  have s1 : small ((ng : Int) + 1) = true := by simp [small]; lia
  have s2 : small (nr : Int) = true := by simp [small]; lia
  have d1 : Int.fdiv ((ng : Int) + (nr : Int)) 20 = 0 := by rw [Int.fdiv_eq_ediv_of_nonneg _ (by exact Int.natCast_nonneg _)]; lia
  have hl : ∀ {as : List (Nat × V)} {T : MH} {a : Nat} {v : V}, aok 212 a = true → as.length ≤ 100 → setAttr ((prg L sc ora).ctx n) (.loc r) a v (RH H r (.inst 212 as) T) = some (RH H r (.inst 212 (Env.put as a v)) T) := fun ha hl => (g_set (RH_r hr) ha hl).trans (congrArg some (RH_set_r hr))
  have hp : ∀ {as : List (Nat × V)} {T : MH}, (RH H r (.inst 212 as) T)[p]? = some (.inst 499 [(1937207154, .loc pr), (126926843769447, .int ng), (2129618691208608441714, .int nr), (495622906222, .loc nl)]) := (RH_old c.p_lt c.pne).trans c.pa.prog
  have hH : RH H r (.inst 212 (runAs p t b le most steps at0 row0 g0 q0 l0)) [] = H := by
    unfold RH
    obtain ⟨hlt, e⟩ := List.getElem?_eq_some_iff.mp h0
    have e' : .inst 212 (runAs p t b le most steps at0 row0 g0 q0 l0) = H[r] := e.symm
    rw [List.append_nil, e', List.set_getElem_self]
  have a1 : ∀ {T : MH} {as : List (Nat × V)}, evE ((prg L sc ora).ctx n) false (.attr (.attr (.var 7239026) 30787916450984560) 126926843769447) [(7239026, .loc r), (495606460279, .loc wd), (500135195763, .int start)] (RH H r (.inst 212 ((30787916450984560, .loc p) :: as)) T) = some (.int ng, RH H r (.inst 212 ((30787916450984560, .loc p) :: as)) T) := r_attr (r_attr (r_var rfl) (g_inst (RH_r hr) rfl rfl)) (g_inst hp rfl rfl)
  have a2 : ∀ {T : MH} {as : List (Nat × V)}, evE ((prg L sc ora).ctx n) false (.attr (.attr (.var 7239026) 30787916450984560) 2129618691208608441714) [(7239026, .loc r), (495606460279, .loc wd), (500135195763, .int start)] (RH H r (.inst 212 ((30787916450984560, .loc p) :: as)) T) = some (.int nr, RH H r (.inst 212 ((30787916450984560, .loc p) :: as)) T) := r_attr (r_attr (r_var rfl) (g_inst (RH_r hr) rfl rfl)) (g_inst hp rfl rfl)
  have al : ∀ {o : O} {es : List ME} {vs : List V} {T : MH} {ρ : Env}, (∀ h, evEs ((prg L sc ora).ctx n) es ρ h = some (vs, h)) → evE ((prg L sc ora).ctx n) false (.list es) ρ (RH H r o T) = some (.loc (H.length + T.length), RH H r o (T ++ [.list vs])) := fun he => by
    rw [← RH_app, ← RH_len]; exact r_list (he _)
  have rp : ∀ {o : O} {T : MH} {x : V} {k : Nat}, small (k : Int) = true → k ≤ 1000 → binop .mul (.loc (H.length + T.length)) (.int k) (RH H r o (T ++ [.list [x]])) = some (.loc (H.length + (T.length + 1)), RH H r o (T ++ [.list [x]] ++ [.list (List.replicate k x)])) := fun {o T x k} h1 h2 => by
    have e1 : (RH H r o (T ++ [.list [x]]))[H.length + T.length]? = some (.list [x]) := by rw [RH_new]; exact List.getElem?_concat_length
    have h3 : (small (k : Int) && decide ((k : Int) ≤ 1000)) = true := by rw [h1, Bool.true_and]; exact decide_eq_true (by lia)
    refine bn1 (lst_is e1) (bn1 (x := x) rfl (bn1 (x := (k : Int)) rfl ((if_pos h3).trans ?_)))
    rw [Int.toNat_natCast]
    show some (V.loc (RH H r o (T ++ [.list [x]])).length, RH H r o (T ++ [.list [x]]) ++ [.list (List.replicate k x)]) = _
    rw [RH_app, RH_len, List.length_append]; rfl
  have e0 : evSs ((prg L sc ora).ctx n) mHead [(7239026, .loc r), (495606460279, .loc wd), (500135195763, .int start)] (RH H r (.inst 212 (runAs p t b le most steps at0 row0 g0 q0 l0)) []) =
      some ((.next, [(7239026, .loc r), (495606460279, .loc wd), (500135195763, .int start)]), LH H r p t b le most (steps + Int.fdiv ((ng : Int) + (nr : Int)) 20) start (0 : Nat) [] (List.replicate (ng + 1) .none) (List.replicate nr (.int (-1))) []) := by
    unfold mHead f396
    refine ts_go (t_asga (r_var rfl) (r_var rfl) (hl rfl (Nat.le_of_ble_eq_true rfl))) ?_
    refine ts_go (t_asga e_c (r_var rfl) (hl rfl (Nat.le_of_ble_eq_true rfl))) ?_
    refine ts_go (t_asga (al fun _ => es_nil) (r_var rfl) (hl rfl (Nat.le_of_ble_eq_true rfl))) ?_
    refine ts_go (t_asga (r_bin (al fun _ => rs_cons e_c es_nil) (r_bin a1 e_c rfl) (rp (T := [.list []]) (k := ng + 1) s1 (by lia))) (r_var rfl) (hl rfl (Nat.le_of_ble_eq_true rfl))) ?_
    refine ts_go (t_asga (r_bin (al fun _ => rs_cons (r_neg e_c) es_nil) a2 (rp s2 (by lia))) (r_var rfl) (hl rfl (Nat.le_of_ble_eq_true rfl))) ?_
    exact ts_go (t_auga (r_var rfl) (g_inst (RH_r hr) rfl rfl) (r_bin (r_bin a1 a2 rfl) e_c rfl) rfl (hl rfl (Nat.le_of_ble_eq_true rfl))) ss_nil
  rw [hH, d1, Int.add_zero] at e0
  exact e0
end
section
variable {L : Nat} {sc : List V} {ora : Nat → Nat → List V → MH → R V} {n : Nat} {H : MH} {r p pr wd ng nr nl : Nat} {rows : List V} {t : List Nat} {b le most steps at_ start : Int} {row : Nat} {pile gs rs : List V} {G : MH} {ρ : Env} {k : Nat}
noncomputable def Unw (P : List V) : Prop := P = [] ∨ ∃ old, P = [.tup [sRegister, .int (0 : Nat), old]] ∧ scal old = true
theorem Unw.flat {P : List V} (h : Unw P) : P.all flat1 = true := by
  rcases h with rfl | ⟨old, rfl, ho⟩
  · rfl
  · have : flat1 (.tup [sRegister, .int (0 : Nat), old]) = true := by
      simp only [flat1, List.all_cons, List.all_nil, ho]; rfl
    rw [List.all_cons, this]; rfl
theorem Unw.len {P : List V} (h : Unw P) : P.length ≤ 1 := by
  rcases h with rfl | ⟨old, rfl, ho⟩ <;> simp
theorem Unw.fails {P : List V} (h : Unw P) (hr : r < H.length) (hrs : P = [] ∨ 0 < rs.length) : ∃ rs' G', ((prg L sc ora).ctx (n + 2)).call 389 [.loc r] (LH H r p t b le most steps at_ row P gs rs G) = some (.bool false, LH H r p t b le most steps at_ row [] gs rs' G') := by
  rcases h with rfl | ⟨old, rfl, ho⟩
  · exact ⟨rs, _, back_call_next (back_nil (k := 999999) hr (by simp))⟩
  · have h0 : 0 < rs.length := by rcases hrs with h | h; cases h; exact h
    refine ⟨rs.set 0 old, G ++ [.list []] ++ [.list []], back_call_next (ρ' := Env.put [(7239026, .loc r)] 521611275877 (.tup [sRegister, .int (0 : Nat), old])) ?_⟩
    have e1 := back_reg (L := L) (sc := sc) (ora := ora) (n := n) (H := H) (r := r) (p := p) (t := t) (b := b) (le := le) (most := most) (steps := steps) (at_ := at_) (row := row) (gs := gs) (rs := rs) (G := G) (ρ := [(7239026, .loc r)]) (k := 999999) (P := []) (q := 0) (old := old) hr (by simp) rfl ho h0
    rw [List.nil_append] at e1
    rw [show turns = 999999 + 1 from rfl, e1]
    exact back_nil (k := 999998) hr (by rw [getput]; simp)
inductive MidOk (L : Nat) (sc : List V) (ora : Nat → Nat → List V → MH → R V) (n : Nat) (H : MH) (r p : Nat) (t : List Nat) (b le most : Int) (gs rs P : List V) (wd : Nat) (start row' steps : Int) (k e : Nat) (x : R (Fl × Env)) : Prop
  | mk (k' ρ' steps' X G') (h1 : x = mLoop L sc ora (n + 12) (k + k') ρ' (LH H r p t b le most steps' e row' (P ++ X) gs rs G')) (h2 : MEnv ρ' r wd start) (h3 : steps ≤ steps') (h4 : steps' ≤ steps + 10) (h5 : X.all flat1 = true) (h6 : X.length ≤ 2) (h7 : 5 ≤ k') : MidOk L sc ora n H r p t b le most gs rs P wd start row' steps k e x
inductive MidNo (H : MH) (r p : Nat) (t : List Nat) (b le most : Int) (gs : List V) (steps : Int) (x : R (Fl × Env)) : Prop
  | mk (ρ' steps' at' row' rs' G') (h1 : x = some ((.ret (.bool false), ρ'), LH H r p t b le most steps' at' row' [] gs rs' G')) (h2 : steps ≤ steps') (h3 : steps' ≤ steps + 10) : MidNo H r p t b le most gs steps x
structure Mid (Ex : MH → Nat → Prop) (off : Nat) (rowsM : List V) (mt : List Nat → Nat → Option Nat) : Prop where
  ok : ∀ (L : Nat) (sc : List V) (ora : Nat → Nat → List V → MH → R V) (n : Nat) {H : MH} {r p pr wd ng nr nl : Nat} {rows : List V} {t : List Nat} {b le most steps start : Int} {P gs rs : List V} {G : MH} {ρ : Env} {k a e : Nat},
    MCx H r p pr wd rows ng nr nl → Ex H r → MEnv ρ r wd start → (∀ i < rowsM.length, rows[off + i]? = rowsM[i]?) → steps + 20 ≤ most → t.length < 100 → Unw P → (P = [] ∨ 0 < rs.length) → mt t a = some e →
    MidOk L sc ora n H r p t b le most gs rs P wd start (off + rowsM.length : Nat) steps k e (mLoop L sc ora (n + 12) (k + 10) ρ (LH H r p t b le most steps a (off : Nat) P gs rs G))
  no : ∀ (L : Nat) (sc : List V) (ora : Nat → Nat → List V → MH → R V) (n : Nat) {H : MH} {r p pr wd ng nr nl : Nat} {rows : List V} {t : List Nat} {b le most steps start : Int} {P gs rs : List V} {G : MH} {ρ : Env} {k a : Nat},
    MCx H r p pr wd rows ng nr nl → Ex H r → MEnv ρ r wd start → (∀ i < rowsM.length, rows[off + i]? = rowsM[i]?) → steps + 20 ≤ most → t.length < 100 → Unw P → (P = [] ∨ 0 < rs.length) → mt t a = none → a ≤ t.length →
    MidNo H r p t b le most gs steps (mLoop L sc ora (n + 12) (k + 10) ρ (LH H r p t b le most steps a (off : Nat) P gs rs G))
theorem fit_sign {s : Nat} : FitOK L sc ora H r (.tup [sSign, .str [s], .bool false]) (fun c => c == s) := fun n o T c => sign_fits_sign (n := n + 2)
theorem fit_set {i : Nat} {a z a' z' : Int} (h : H[i]? = some (.list [.tup [sRange, .int a, .int z], .tup [sRange, .int a', .int z']])) (hi : i ≠ r) :
    FitOK L sc ora H r (.tup [sSet, .loc i, .bool false, .bool false]) (fun c => (decide (a ≤ c) && decide ((c : Int) ≤ z)) || (decide (a' ≤ c) && decide ((c : Int) ≤ z'))) := fun n o T c =>
  sign_fits_set (by rw [RH_old (List.getElem?_eq_some_iff.mp h).1 hi]; exact h)
theorem row_is {off i : Nat} : (((off + i : Nat) : Int) + 1) = ((off + (i + 1) : Nat) : Int) := by exact Int.natCast_add _ _
theorem off_zero {off : Nat} : ((off : Nat) : Int) = ((off + 0 : Nat) : Int) := rfl
theorem step_test (c : MCx H r p pr wd rows ng nr nl) (m : MEnv ρ r wd start) (hs : steps + 1 ≤ most) {w : List Nat} {rest : List V} (hw : w = [115, 105, 103, 110] ∨ w = [115, 101, 116]) (hlen : rest.length < 100) (hrow : rows[row]? = some (.tup (.str w :: rest)))
    {fit : Nat → Bool} (hf : FitOK L sc ora H r (.tup (.str w :: rest)) fit) {a : Nat} (ha : a < t.length) (hfit : fit t[a] = true) :
    ∃ ρ', mLoop L sc ora (n + 12) (k + 1) ρ (LH H r p t b le most steps a (row : Nat) pile gs rs G) = mLoop L sc ora (n + 12) k ρ' (LH H r p t b le most (steps + 1) (a + 1 : Nat) (row + 1 : Nat) pile gs rs G) ∧ MEnv ρ' r wd start := by
  refine ⟨(ρ.put 7827314 (.tup (.str w :: rest))).put 8388068008565633897 (.bool true), ?_, (m.row _).right _⟩
  · refine m_row (f := 237) c m hs hrow (by rcases hw with rfl | rfl <;> decide) hlen (by rcases hw with rfl | rfl <;> rfl) ?_
    have := row_test_ok (L := L) (sc := sc) (ora := ora) (n := n + 7) (p := p) (b := b) (le := le) (most := most) (steps := steps + 1) (row := (row : Nat)) (pile := pile) (gs := gs) (rs := rs) (G := G) c.hr hf ha hfit
    rw [this]; rfl
theorem step_test_back (c : MCx H r p pr wd rows ng nr nl) (m : MEnv ρ r wd start) (hs : steps + 1 ≤ most) {w : List Nat} {rest : List V} (hw : w = [115, 105, 103, 110] ∨ w = [115, 101, 116]) (hlen : rest.length < 100) (hrow : rows[row]? = some (.tup (.str w :: rest)))
    {fit : Nat → Bool} (hf : FitOK L sc ora H r (.tup (.str w :: rest)) fit) {a : Nat} (hfit : ∀ ha : a < t.length, fit t[a] = false) {h3 : MH}
    (hb : ((prg L sc ora).ctx (n + 12)).call 389 [.loc r] (LH H r p t b le most (steps + 1) a (row : Nat) pile gs rs G) = some (.bool true, h3)) :
    ∃ ρ', mLoop L sc ora (n + 12) (k + 1) ρ (LH H r p t b le most steps a (row : Nat) pile gs rs G) = mLoop L sc ora (n + 12) k ρ' h3 ∧ MEnv ρ' r wd start := by
  refine ⟨(ρ.put 7827314 (.tup (.str w :: rest))).put 8388068008565633897 (.bool false), ?_, (m.row _).right _⟩
  · refine m_row_back (f := 237) c m hs hrow (by rcases hw with rfl | rfl <;> decide) hlen (by rcases hw with rfl | rfl <;> rfl) ?_ hb
    exact row_test_no (L := L) (sc := sc) (ora := ora) (n := n + 7) (p := p) (b := b) (le := le) (most := most) (steps := steps + 1) (row := (row : Nat)) (pile := pile) (gs := gs) (rs := rs) (G := G) c.hr hf hfit
theorem step_test_fail (c : MCx H r p pr wd rows ng nr nl) (m : MEnv ρ r wd start) (hs : steps + 1 ≤ most) {w : List Nat} {rest : List V} (hw : w = [115, 105, 103, 110] ∨ w = [115, 101, 116]) (hlen : rest.length < 100) (hrow : rows[row]? = some (.tup (.str w :: rest)))
    {fit : Nat → Bool} (hf : FitOK L sc ora H r (.tup (.str w :: rest)) fit) {a : Nat} (hfit : ∀ ha : a < t.length, fit t[a] = false) (hU : Unw pile) (hrs : pile = [] ∨ 0 < rs.length) :
    ∃ ρ' rs' G', mLoop L sc ora (n + 12) (k + 1) ρ (LH H r p t b le most steps a (row : Nat) pile gs rs G) = some ((.ret (.bool false), ρ'), LH H r p t b le most (steps + 1) a (row : Nat) [] gs rs' G') := by
  obtain ⟨rs', G', hb⟩ := hU.fails (L := L) (sc := sc) (ora := ora) (n := n + 10) (H := H) (r := r) (p := p) (t := t) (b := b) (le := le) (most := most) (steps := steps + 1) (at_ := a) (row := (row : Nat)) (gs := gs) (rs := rs) (G := G) c.hr hrs
  obtain ⟨ρ', e⟩ := m_row_fail (f := 237) (k := k) c m hs hrow (by rcases hw with rfl | rfl <;> decide) hlen (by rcases hw with rfl | rfl <;> rfl)
    (row_test_no (L := L) (sc := sc) (ora := ora) (n := n + 7) (p := p) (b := b) (le := le) (most := most) (steps := steps + 1) (row := (row : Nat)) (pile := pile) (gs := gs) (rs := rs) (G := G) c.hr hf hfit) hb
  exact ⟨ρ', rs', G', e⟩
noncomputable def mtOne (fit : Nat → Bool) (t : List Nat) (a : Nat) : Option Nat := match t[a]? with
  | some c => if fit c then some (a + 1) else none
  | none => none
theorem mtOne_some {fit : Nat → Bool} {t : List Nat} {a e : Nat} (h : mtOne fit t a = some e) : ∃ ha : a < t.length, fit t[a] = true ∧ e = a + 1 := by
  unfold mtOne at h
  split at h
  · rename_i c hc
    obtain ⟨ha, rfl⟩ := List.getElem?_eq_some_iff.mp hc
    split at h
    · rename_i hf; cases h; exact ⟨ha, hf, rfl⟩
    · cases h
  · cases h
theorem mtOne_none {fit : Nat → Bool} {t : List Nat} {a : Nat} (h : mtOne fit t a = none) : ∀ ha : a < t.length, fit t[a] = false := fun ha => by
  unfold mtOne at h
  rw [List.getElem?_eq_getElem ha] at h
  simp only [] at h
  split at h
  · cases h
  · rename_i hf; simpa using hf
theorem mid_one {Ex : MH → Nat → Prop} {w : List Nat} {rest : List V} (hw : w = [115, 105, 103, 110] ∨ w = [115, 101, 116]) (hlen : rest.length < 100) {fit : Nat → Bool} (hf : ∀ L sc ora H r, Ex H r → FitOK L sc ora H r (.tup (.str w :: rest)) fit) :
    ∀ off, Mid Ex off [.tup (.str w :: rest)] (mtOne fit) := fun off => {
  ok := by
    intro L sc ora n H r p pr wd ng nr nl rows t b le most steps start P gs rs G ρ k a e c ex m hr hs ht hU hrs hm
    obtain ⟨ha, h1, rfl⟩ := mtOne_some hm
    obtain ⟨ρ', e1, m'⟩ := step_test (k := k + 9) (pile := P) (gs := gs) (rs := rs) (G := G) (b := b) (le := le) (most := most) (steps := steps) (n := n) c m (by lia) hw hlen (hr 0 (by simp)) (hf L sc ora H r ex) ha h1
    exact ⟨9, ρ', steps + 1, [], G, by rw [List.append_nil]; exact e1, m', by lia, by lia, rfl, by simp, by exact Nat.le_add_left _ _⟩
  no := by
    intro L sc ora n H r p pr wd ng nr nl rows t b le most steps start P gs rs G ρ k a c ex m hr hs ht hU hrs hm _
    obtain ⟨ρ', rs', G', e1⟩ := step_test_fail (k := k + 9) (gs := gs) (G := G) (b := b) (le := le) (most := most) (steps := steps) (n := n) c m (by lia) hw hlen (hr 0 (by simp)) (hf L sc ora H r ex) (mtOne_none hm) hU hrs
    exact ⟨ρ', steps + 1, _, _, rs', G', e1, by lia, by lia⟩ }
noncomputable def mtTwo (x y : Nat) (t : List Nat) (a : Nat) : Option Nat := match t[a]? with
  | some c => if c == x then mtOne (· == y) t (a + 1) else none
  | none => none
theorem mid_two {x y : Nat} (off : Nat) : Mid (fun _ _ => True) off [.tup [sSign, .str [x], .bool false], .tup [sSign, .str [y], .bool false]] (mtTwo x y) where
  ok := by
    intro L sc ora n H r p pr wd ng nr nl rows t b le most steps start P gs rs G ρ k a e c ex m hr hs ht hU hrs hm
    unfold mtTwo at hm
    split at hm
    · rename_i c0 hc
      obtain ⟨ha, rfl⟩ := List.getElem?_eq_some_iff.mp hc
      split at hm
      · rename_i hx
        obtain ⟨ha2, h2, rfl⟩ := mtOne_some hm
        obtain ⟨ρ', e1, m'⟩ := step_test (k := k + 9) (pile := P) (gs := gs) (rs := rs) (G := G) (b := b) (le := le) (most := most) (steps := steps) (n := n) c m (by lia) (.inl rfl) (by simp) (hr 0 (by simp)) fit_sign ha hx
        obtain ⟨ρ2, e2, m2⟩ := step_test (k := k + 8) (pile := P) (gs := gs) (rs := rs) (G := G) (b := b) (le := le) (most := most) (steps := steps + 1) (n := n) c m' (by lia) (.inl rfl) (by simp) (hr 1 (by simp)) fit_sign ha2 h2
        exact ⟨8, ρ2, steps + 1 + 1, [], G, by rw [List.append_nil]; exact e1.trans e2, m2, by lia, by lia, rfl, by simp, by exact Nat.le_add_left _ _⟩
      · cases hm
    · cases hm
  no := by
    intro L sc ora n H r p pr wd ng nr nl rows t b le most steps start P gs rs G ρ k a c ex m hr hs ht hU hrs hm _
    unfold mtTwo at hm
    by_cases ha : a < t.length
    · rw [List.getElem?_eq_getElem ha] at hm
      simp only [] at hm
      split at hm
      · rename_i hx
        obtain ⟨ρ', e1, m'⟩ := step_test (k := k + 9) (pile := P) (gs := gs) (rs := rs) (G := G) (b := b) (le := le) (most := most) (steps := steps) (n := n) c m (by lia) (.inl rfl) (by simp) (hr 0 (by simp)) fit_sign ha hx
        obtain ⟨ρ2, rs', G', e2⟩ := step_test_fail (k := k + 8) (gs := gs) (G := G) (b := b) (le := le) (most := most) (steps := steps + 1) (n := n) c m' (by lia) (.inl rfl) (by simp) (hr 1 (by simp)) fit_sign (mtOne_none hm) hU hrs
        exact ⟨ρ2, steps + 1 + 1, _, _, rs', G', e1.trans e2, by lia, by lia⟩
      · rename_i hx
        obtain ⟨ρ', rs', G', e1⟩ := step_test_fail (k := k + 9) (gs := gs) (G := G) (b := b) (le := le) (most := most) (steps := steps) (n := n) (a := a) c m (by lia) (.inl rfl) (by simp) (hr 0 (by simp)) fit_sign (fun _ => by simpa using hx) hU hrs
        exact ⟨ρ', steps + 1, _, _, rs', G', e1, by lia, by lia⟩
    · obtain ⟨ρ', rs', G', e1⟩ := step_test_fail (k := k + 9) (gs := gs) (G := G) (b := b) (le := le) (most := most) (steps := steps) (n := n) (a := a) c m (by lia) (.inl rfl) (by simp) (hr 0 (by simp)) fit_sign (fun h => absurd h ha) hU hrs
      exact ⟨ρ', steps + 1, _, _, rs', G', e1, by lia, by lia⟩
end
section
variable {L : Nat} {sc : List V} {ora : Nat → Nat → List V → MH → R V} {n : Nat} {H : MH} {r p pr wd ng nr nl : Nat} {rows : List V} {t : List Nat} {b le most steps at_ start : Int} {row : Nat} {pile gs rs : List V} {G : MH} {ρ : Env} {k : Nat}
theorem Unw.room {P : List V} (h : Unw P) : P.length < top := by have := h.len; unfold top; exact Nat.lt_of_le_of_lt this (by decide)
noncomputable def mtRun (t : List Nat) (a : Nat) : Option Nat := if a < runTo (fun c => c == 45) t (t.length - a) a then some (runTo (fun c => c == 45) t (t.length - a) a) else none
theorem less_flat {x y z : Int} : flat1 (.tup [sLess, .int x, .int y, .int z]) = true := rfl
theorem try_flat {x y : Int} : flat1 (.tup [sTry, .int x, .int y]) = true := rfl
theorem mid_run (off : Nat) : Mid (fun _ _ => True) off [.tup [sRun, .tup [sSign, .str [45], .bool false], .int 1, .int (-1), .bool false]] mtRun where
  ok := by
    intro L sc ora n H r p pr wd ng nr nl rows t b le most steps start P gs rs G ρ k a e c ex m hr hs ht hU hrs hm
    unfold mtRun at hm
    split at hm
    case isFalse => cases hm
    rename_i hlt
    cases hm
    have hal : a ≤ t.length := by
      by_cases h : a ≤ t.length
      · exact h
      · rw [show t.length - a = 0 by lia] at hlt; simp [runTo] at hlt
    have hc := row_run_c (a := a) (t := t) (L := L) (sc := sc) (ora := ora) (n := n + 6) (H := H) (p := p) (b := b) (le := le) (most := most) (steps := steps + 1) (row := (off : Nat)) (pile := P) (gs := gs) (rs := rs) (G := G) (least := 1) (m := -1) c.hr (fit_sign (s := 45)) hal (Nat.le_refl _) (.inl ⟨by exact Int.natCast_nonneg _, rfl⟩) ht hU.room
    rw [if_neg (by lia)] at hc
    have e1 := m_row (k := k + 9) (f := 251) c m (by lia : steps + 1 ≤ most) (hr 0 (by simp)) (by decide) (by simp) rfl hc
    refine ⟨9, (ρ.put 7827314 (.tup [sRun, .tup [sSign, .str [45], .bool false], .int 1, .int (-1), .bool false])).put 8388068008565633897 (.bool true), steps + 1, (if a + 1 < runTo (fun c => c == 45) t (t.length - a) a then [.tup [sLess, .int ((off : Nat) + 1), .int (a + 1 : Nat), .int (runTo (fun c => c == 45) t (t.length - a) a : Nat)]] else []), G, ?_, (m.row _).right _, by lia, by lia, ?_, ?_, by exact Nat.le_add_left _ _⟩
    · refine e1.trans ?_
      by_cases h : a + 1 < runTo (fun c => c == 45) t (t.length - a) a
      · simp only [h, if_true]; rfl
      · simp only [h, if_false, List.append_nil]; rfl
    · split
      · rfl
      · rfl
    · split <;> simp
  no := by
    intro L sc ora n H r p pr wd ng nr nl rows t b le most steps start P gs rs G ρ k a c ex m hr hs ht hU hrs hm hal
    unfold mtRun at hm
    split at hm
    case isTrue => cases hm
    rename_i hlt
    have hc := row_run_c (a := a) (t := t) (L := L) (sc := sc) (ora := ora) (n := n + 6) (H := H) (p := p) (b := b) (le := le) (most := most) (steps := steps + 1) (row := (off : Nat)) (pile := P) (gs := gs) (rs := rs) (G := G) (least := 1) (m := -1) c.hr (fit_sign (s := 45)) hal (Nat.le_refl _) (.inl ⟨by lia, rfl⟩) ht hU.room
    have hge := runTo_ge (fun c => c == 45) t (t.length - a) a
    rw [if_pos (by lia)] at hc
    obtain ⟨rs', G', hb⟩ := hU.fails (L := L) (sc := sc) (ora := ora) (n := n + 10) (H := H) (r := r) (p := p) (t := t) (b := b) (le := le) (most := most) (steps := steps + 1) (at_ := a) (row := (off : Nat)) (gs := gs) (rs := rs) (G := G) c.hr hrs
    obtain ⟨ρ', e1⟩ := m_row_fail (k := k + 9) (f := 251) c m (by lia : steps + 1 ≤ most) (hr 0 (by simp)) (by decide) (by simp) rfl hc hb
    exact ⟨ρ', steps + 1, _, _, rs', G', e1, by lia, by lia⟩
noncomputable def mtOpt (t : List Nat) (a : Nat) : Option Nat := match t[a]? with
  | some c => if c == 45 then mtOne (· == 98) t (a + 1) else if c == 98 then some (a + 1) else none
  | none => none
theorem mid_opt (off : Nat) : Mid (fun _ _ => True) off [.tup [sRun, .tup [sSign, .str [45], .bool false], .int 0, .int 1, .bool false], .tup [sSign, .str [98], .bool false]] mtOpt where
  ok := by
    intro L sc ora n H r p pr wd ng nr nl rows t b le most steps start P gs rs G ρ k a e c ex m hr hs ht hU hrs hm
    unfold mtOpt at hm
    split at hm
    case h_2 => cases hm
    rename_i c0 hc0
    obtain ⟨ha, rfl⟩ := List.getElem?_eq_some_iff.mp hc0
    have hc := row_run_c (a := a) (t := t) (L := L) (sc := sc) (ora := ora) (n := n + 6) (H := H) (p := p) (b := b) (le := le) (most := most) (steps := steps + 1) (row := (off : Nat)) (pile := P) (gs := gs) (rs := rs) (G := G) (least := 0) (m := 1) (stop := a + 1) c.hr (fit_sign (s := 45)) (by exact Nat.le_succ _) (by lia) (.inr ⟨by exact Int.natCast_nonneg _, by lia⟩) ht hU.room
    rw [if_neg (by have := runTo_ge (fun c => c == 45) t (a + 1 - a) a; lia)] at hc
    have hrun : runTo (fun c => c == 45) t (a + 1 - a) a = if t[a] == 45 then a + 1 else a := by
      rw [show a + 1 - a = 1 by lia]
      simp only [runTo, List.getElem?_eq_getElem ha]
    rw [hrun] at hc
    by_cases h45 : (t[a] == 45) = true
    · simp only [h45, if_true] at hc hm
      obtain ⟨ha2, h2, rfl⟩ := mtOne_some hm
      simp only [show a + 0 < a + 1 by exact Nat.lt_succ_self _, if_true] at hc
      have e1 := m_row (k := k + 9) (f := 251) c m (by lia : steps + 1 ≤ most) (hr 0 (by simp)) (by decide) (by simp) rfl hc
      obtain ⟨ρ2, e2, m2⟩ := step_test (k := k + 8) (pile := P ++ [.tup [sLess, .int ((off : Nat) + 1), .int (a + 0 : Nat), .int (a + 1 : Nat)]]) (gs := gs) (rs := rs) (G := G) (b := b) (le := le) (most := most) (steps := steps + 1) (n := n) c ((m.row (.tup [sRun, .tup [sSign, .str [45], .bool false], .int 0, .int 1, .bool false])).right (.bool true)) (by lia) (.inl rfl) (by simp) (hr 1 (by simp)) fit_sign ha2 h2
      exact ⟨8, ρ2, steps + 1 + 1, _, G, e1.trans e2, m2, by lia, by lia, rfl, by simp, by exact Nat.le_add_left _ _⟩
    · simp only [h45] at hc hm
      simp only [Nat.add_zero, Nat.lt_irrefl, if_false, Bool.false_eq_true] at hc hm
      split at hm
      case isFalse => cases hm
      rename_i h98
      cases hm
      have e1 := m_row (k := k + 9) (f := 251) c m (by lia : steps + 1 ≤ most) (hr 0 (by simp)) (by decide) (by simp) rfl hc
      obtain ⟨ρ2, e2, m2⟩ := step_test (k := k + 8) (pile := P) (gs := gs) (rs := rs) (G := G) (b := b) (le := le) (most := most) (steps := steps + 1) (n := n) c ((m.row (.tup [sRun, .tup [sSign, .str [45], .bool false], .int 0, .int 1, .bool false])).right (.bool true)) (by lia) (.inl rfl) (by simp) (hr 1 (by simp)) fit_sign ha h98
      exact ⟨8, ρ2, steps + 1 + 1, [], G, by rw [List.append_nil]; exact e1.trans e2, m2, by lia, by lia, rfl, by simp, by lia⟩
  no := by
    intro L sc ora n H r p pr wd ng nr nl rows t b le most steps start P gs rs G ρ k a c ex m hr hs ht hU hrs hm hal
    by_cases ha : a < t.length
    · have hc := row_run_c (a := a) (t := t) (L := L) (sc := sc) (ora := ora) (n := n + 6) (H := H) (p := p) (b := b) (le := le) (most := most) (steps := steps + 1) (row := (off : Nat)) (pile := P) (gs := gs) (rs := rs) (G := G) (least := 0) (m := 1) (stop := a + 1) c.hr (fit_sign (s := 45)) (by lia) (by lia) (.inr ⟨by lia, by lia⟩) ht hU.room
      rw [if_neg (by have := runTo_ge (fun c => c == 45) t (a + 1 - a) a; lia)] at hc
      have hrun : runTo (fun c => c == 45) t (a + 1 - a) a = if t[a] == 45 then a + 1 else a := by
        rw [show a + 1 - a = 1 by lia]
        simp only [runTo, List.getElem?_eq_getElem ha]
      rw [hrun] at hc
      unfold mtOpt at hm
      rw [List.getElem?_eq_getElem ha] at hm
      simp only [] at hm
      by_cases h45 : (t[a] == 45) = true
      · simp only [h45, if_true] at hc hm
        simp only [show a + 0 < a + 1 by lia, if_true] at hc
        have e1 := m_row (k := k + 9) (f := 251) c m (by lia : steps + 1 ≤ most) (hr 0 (by simp)) (by decide) (by simp) rfl hc
        have hback : ((prg L sc ora).ctx (n + 12)).call 389 [.loc r] (LH H r p t b le most (steps + 1 + 1) (a + 1 : Nat) (off + 1 : Nat) (P ++ [.tup [sLess, .int ((off : Nat) + 1), .int (a + 0 : Nat), .int (a + 1 : Nat)]]) gs rs G) = some (.bool true, LH H r p t b le most (steps + 1 + 1) (((a + 1 : Nat) : Int) - 1) ((off : Nat) + 1) P gs rs (G ++ [.list []])) := by
          obtain ⟨ρ', hb⟩ := back_less1 (L := L) (sc := sc) (ora := ora) (n := n + 11) (H := H) (r := r) (p := p) (t := t) (b := b) (le := le) (most := most) (steps := steps + 1 + 1) (at_ := (a + 1 : Nat)) (row := (off + 1 : Nat)) (gs := gs) (rs := rs) (G := G) (ρ := [(7239026, .loc r)]) (k := 999999) (P := P) (y := (off : Nat) + 1) (lo := (a + 0 : Nat)) (e := (a + 1 : Nat)) c.hr (by simp) hU.flat (by lia)
          exact back_call_ret hb
        obtain ⟨ρ2, e2, m2⟩ := step_test_back (k := k + 8) (b := b) (le := le) (most := most) (steps := steps + 1) (n := n) c ((m.row (.tup [sRun, .tup [sSign, .str [45], .bool false], .int 0, .int 1, .bool false])).right (.bool true)) (by lia) (.inl rfl) (by simp) (hr 1 (by simp)) fit_sign (mtOne_none hm) hback
        rw [show ((a + 1 : Nat) : Int) - 1 = ((a : Nat) : Int) by lia, show ((off : Nat) : Int) + 1 = ((off + 1 : Nat) : Int) by exact Int.natCast_add _ _] at e2
        obtain ⟨ρ3, rs', G', e3⟩ := step_test_fail (k := k + 7) (gs := gs) (rs := rs) (G := G ++ [.list []]) (b := b) (le := le) (most := most) (steps := steps + 1 + 1) (n := n) (a := a) c m2 (by lia) (.inl rfl) (by simp) (hr 1 (by simp)) (fit_sign (s := 98)) (fun _ => by
          have : t[a] = 45 := by simpa using h45
          rw [this]; rfl) hU hrs
        exact ⟨ρ3, _, _, _, rs', G', (e1.trans e2).trans e3, by lia, by lia⟩
      · simp only [h45] at hc hm
        simp only [Nat.add_zero, Nat.lt_irrefl, if_false, Bool.false_eq_true] at hc hm
        split at hm
        case isTrue => cases hm
        rename_i h98
        have e1 := m_row (k := k + 9) (f := 251) c m (by lia : steps + 1 ≤ most) (hr 0 (by simp)) (by decide) (by simp) rfl hc
        obtain ⟨ρ3, rs', G', e3⟩ := step_test_fail (k := k + 8) (gs := gs) (rs := rs) (G := G) (b := b) (le := le) (most := most) (steps := steps + 1) (n := n) (a := a) c ((m.row (.tup [sRun, .tup [sSign, .str [45], .bool false], .int 0, .int 1, .bool false])).right (.bool true)) (by lia) (.inl rfl) (by simp) (hr 1 (by simp)) (fit_sign (s := 98)) (fun _ => by simpa using h98) hU hrs
        exact ⟨ρ3, _, _, _, rs', G', e1.trans e3, by lia, by lia⟩
    · have hc := row_run_c (a := a) (t := t) (L := L) (sc := sc) (ora := ora) (n := n + 6) (H := H) (p := p) (b := b) (le := le) (most := most) (steps := steps + 1) (row := (off : Nat)) (pile := P) (gs := gs) (rs := rs) (G := G) (least := 0) (m := 1) (stop := a) c.hr (fit_sign (s := 45)) (by exact Nat.le_refl _) hal (.inr ⟨by lia, by lia⟩) ht hU.room
      rw [Nat.sub_self] at hc
      simp only [runTo, Nat.add_zero, Nat.lt_irrefl, if_false] at hc
      have e1 := m_row (k := k + 9) (f := 251) c m (by lia : steps + 1 ≤ most) (hr 0 (by simp)) (by decide) (by simp) rfl hc
      obtain ⟨ρ3, rs', G', e3⟩ := step_test_fail (k := k + 8) (gs := gs) (rs := rs) (G := G) (b := b) (le := le) (most := most) (steps := steps + 1) (n := n) (a := a) c ((m.row (.tup [sRun, .tup [sSign, .str [45], .bool false], .int 0, .int 1, .bool false])).right (.bool true)) (by lia) (.inl rfl) (by simp) (hr 1 (by simp)) (fit_sign (s := 98)) (fun h => absurd h ha) hU hrs
      exact ⟨ρ3, _, _, _, rs', G', e1.trans e3, by lia, by lia⟩
end
theorem evSs_append {C : Ctx} : ∀ (a b : List MS) (ρ : Env) (h : MH), evSs C (a ++ b) ρ h = match evSs C a ρ h with
    | some ((.next, ρ'), h') => evSs C b ρ' h'
    | x => x
  | [], b, ρ, h => by simp
  | s :: a, b, ρ, h => by
    rw [List.cons_append, ss_cons, ss_cons]
    cases e : evS C s ρ h with
    | none => rfl
    | some x =>
      obtain ⟨⟨f, ρ'⟩, h'⟩ := x
      cases f with
      | next => exact evSs_append a b ρ' h'
      | brk => rfl
      | ret v => rfl
section
variable {L : Nat} {sc : List V} {ora : Nat → Nat → List V → MH → R V} {n : Nat} {H : MH} {r p pr wd ng nr nl : Nat} {rows : List V} {t : List Nat} {b le most steps at_ start : Int} {row : Nat} {pile gs rs : List V} {G : MH} {ρ : Env} {k : Nat}
theorem mid_alt (off : Nat) : Mid (fun _ _ => True) off [.tup [.str [115, 112, 108, 105, 116], .int (off + 1 : Nat), .int (off + 3 : Nat)], .tup [sSign, .str [97], .bool false], .tup [.str [106, 117, 109, 112], .int (off + 5 : Nat)], .tup [sSign, .str [97], .bool false], .tup [sSign, .str [98], .bool false]] (mtOne (· == 97)) where
  ok := by
    intro L sc ora n H r p pr wd ng nr nl rows t b le most steps start P gs rs G ρ k a e c ex m hr hs ht hU hrs hm
    obtain ⟨ha, h1, rfl⟩ := mtOne_some hm
    have hc := row_split_c (L := L) (sc := sc) (ora := ora) (n := n + 11) (H := H) (r := r) (p := p) (t := t) (b := b) (le := le) (most := most) (steps := steps + 1) (at_ := a) (row := (off : Nat)) (pile := P) (gs := gs) (rs := rs) (G := G) (x := (off + 1 : Nat)) (y := (off + 3 : Nat)) c.hr hU.room
    have e1 := m_row (k := k + 9) (f := 300) c m (by lia : steps + 1 ≤ most) (hr 0 (by simp)) (by decide) (by simp) rfl hc
    obtain ⟨ρ2, e2, m2⟩ := step_test (k := k + 8) (pile := P ++ [.tup [sTry, .int (off + 3 : Nat), .int a]]) (gs := gs) (rs := rs) (G := G) (b := b) (le := le) (most := most) (steps := steps + 1) (n := n) c ((m.row (.tup [.str [115, 112, 108, 105, 116], .int (off + 1 : Nat), .int (off + 3 : Nat)])).right (.bool true)) (by lia) (.inl rfl) (by simp) (hr 1 (by simp)) (fit_sign (s := 97)) ha h1
    have hj := row_jump_c (L := L) (sc := sc) (ora := ora) (n := n + 11) (H := H) (r := r) (p := p) (t := t) (b := b) (le := le) (most := most) (steps := steps + 1 + 1 + 1) (at_ := (a + 1 : Nat)) (row := (off + 1 + 1 : Nat)) (pile := P ++ [.tup [sTry, .int (off + 3 : Nat), .int a]]) (gs := gs) (rs := rs) (G := G) (k := (off + 5 : Nat)) c.hr
    have e3 := m_row (k := k + 7) (f := 293) c m2 (by lia : steps + 1 + 1 + 1 ≤ most) (hr 2 (by simp)) (by decide) (by simp) rfl hj
    exact ⟨7, _, steps + 1 + 1 + 1, [.tup [sTry, .int (off + 3 : Nat), .int a]], G, (e1.trans e2).trans e3, (m2.row _).right _, by lia, by lia, rfl, by simp, by exact Nat.le_add_left _ _⟩
  no := by
    intro L sc ora n H r p pr wd ng nr nl rows t b le most steps start P gs rs G ρ k a c ex m hr hs ht hU hrs hm hal
    have hc := row_split_c (L := L) (sc := sc) (ora := ora) (n := n + 11) (H := H) (r := r) (p := p) (t := t) (b := b) (le := le) (most := most) (steps := steps + 1) (at_ := a) (row := (off : Nat)) (pile := P) (gs := gs) (rs := rs) (G := G) (x := (off + 1 : Nat)) (y := (off + 3 : Nat)) c.hr hU.room
    have e1 := m_row (k := k + 9) (f := 300) c m (by lia : steps + 1 ≤ most) (hr 0 (by simp)) (by decide) (by simp) rfl hc
    have hback : ((prg L sc ora).ctx (n + 12)).call 389 [.loc r] (LH H r p t b le most (steps + 1 + 1) a (off + 1 : Nat) (P ++ [.tup [sTry, .int (off + 3 : Nat), .int a]]) gs rs G) = some (.bool true, LH H r p t b le most (steps + 1 + 1) a (off + 3 : Nat) P gs rs (G ++ [.list []])) := by
      obtain ⟨ρ', hb⟩ := back_try (L := L) (sc := sc) (ora := ora) (n := n + 11) (H := H) (r := r) (p := p) (t := t) (b := b) (le := le) (most := most) (steps := steps + 1 + 1) (at_ := a) (row := (off + 1 : Nat)) (gs := gs) (rs := rs) (G := G) (ρ := [(7239026, .loc r)]) (k := 999999) (P := P) (y := (off + 3 : Nat)) (a := a) c.hr (by simp) hU.flat
      exact back_call_ret hb
    obtain ⟨ρ2, e2, m2⟩ := step_test_back (k := k + 8) (b := b) (le := le) (most := most) (steps := steps + 1) (n := n) c ((m.row (.tup [.str [115, 112, 108, 105, 116], .int (off + 1 : Nat), .int (off + 3 : Nat)])).right (.bool true)) (by lia) (.inl rfl) (by simp) (hr 1 (by simp)) fit_sign (mtOne_none hm) hback
    obtain ⟨ρ3, rs', G', e3⟩ := step_test_fail (k := k + 7) (gs := gs) (rs := rs) (G := G ++ [.list []]) (b := b) (le := le) (most := most) (steps := steps + 1 + 1) (n := n) (a := a) c m2 (by lia) (.inl rfl) (by simp) (hr 3 (by simp)) (fit_sign (s := 97)) (mtOne_none hm) hU hrs
    exact ⟨ρ3, _, _, _, rs', G', (e1.trans e2).trans e3, by lia, by lia⟩
theorem match_call (c : MCx H r p pr wd rows ng nr nl) {g0 q0 l0 : Nat} {row0 at0 : Int} (h0 : H[r]? = some (runO p t b le most steps at0 row0 g0 q0 l0)) (hgr : ng + nr < 20) {v : V} {ρ' : Env} {h' : MH}
    (e : mLoop L sc ora n turns [(7239026, .loc r), (495606460279, .loc wd), (500135195763, .int start)] (LH H r p t b le most steps start (0 : Nat) [] (List.replicate (ng + 1) .none) (List.replicate nr (.int (-1))) []) = some ((.ret v, ρ'), h')) :
    ((prg L sc ora).ctx (n + 1)).call 396 [.loc r, .loc wd, .int start] H = some (v, h') := by
  exact c_ret (bd := mHead ++ [.whl (.c (.bool true)) mBody]) rfl rfl (zp_cons (zp_cons (zp_cons zp_nil))) (ts_app (match_head c h0 (by lia) (by lia) hgr) (ts_ret (t_whl e)))
inductive MatTo (H : MH) (r p : Nat) (t : List Nat) (b le most : Int) (ng start : Nat) (steps : Int) (x : R V) (f : Option Nat) : Prop
  | mk (k at' row' g' q' l' G) (h1 : x = some (.bool f.isSome, RH H r (runO p t b le most k at' row' g' q' l') G)) (h2 : steps ≤ k) (h3 : k ≤ steps + 40) (h4 : ∀ e, f = some e → (RH H r (runO p t b le most k at' row' g' q' l') G)[g']? = some (.list (List.replicate (ng + 1) (.tup [.int start, .int e])))) (h5 : H.length ≤ g') : MatTo H r p t b le most ng start steps x f
noncomputable def MatchOK (Ex : MH → Nat → Prop) (rows : List V) (ng : Nat) (mt : List Nat → Int → Nat → Option Nat) : Prop :=
  ∀ (L : Nat) (sc : List V) (ora : Nat → Nat → List V → MH → R V) (n : Nat) {H : MH} {r p pr wd nl : Nat} {t : List Nat} {b le most steps at0 row0 : Int} {g0 q0 l0 start : Nat},
    MCx H r p pr wd rows ng ng nl → Ex H r → H[r]? = some (runO p t b le most steps at0 row0 g0 q0 l0) → steps + 40 ≤ most → t.length < 100 → start ≤ t.length → le ≤ start + 1 →
    MatTo H r p t b le most ng start steps (((prg L sc ora).ctx (n + 13)).call 396 [.loc r, .loc wd, .int start] H) (mt t le start)
theorem match_plain {Ex : MH → Nat → Prop} {rowsM : List V} {mt : List Nat → Nat → Option Nat} (M : Mid Ex 0 rowsM mt) (hmt : ∀ t s e, mt t s = some e → s < e) : MatchOK Ex (rowsM ++ [.tup [sEnd]]) 0 (fun t _ s => mt t s) := by
  intro L sc ora n H r p pr wd nl t b le most steps at0 row0 g0 q0 l0 start c ex h0 hs ht hst hle
  simp only []
  have m0 : MEnv [(7239026, .loc r), (495606460279, .loc wd), (500135195763, .int start)] r wd start := ⟨by simp, by simp, by simp⟩
  have hrows : ∀ i < rowsM.length, (rowsM ++ [.tup [sEnd]] : List V)[0 + i]? = rowsM[i]? := fun i hi => by rw [Nat.zero_add, List.getElem?_append_left hi]
  have hend : (rowsM ++ [.tup [sEnd]] : List V)[0 + rowsM.length]? = some (.tup [sEnd]) := by simp
  cases hm : mt t start with
  | none =>
    obtain ⟨ρ', steps', at', row', rs', G', e1, s1, s2⟩ := M.no L sc ora n (k := 999990) (P := []) (gs := [.none]) (rs := []) (G := []) (b := b) (le := le) (most := most) (steps := steps) c ex m0 hrows (by lia) ht (.inl rfl) (.inl rfl) hm hst
    exact ⟨steps', at', row', H.length + 2, H.length + 4, H.length, .list [] :: .list [.none] :: .list [.none] :: .list [.int (-1)] :: .list rs' :: G', match_call c h0 (by exact Nat.succ_pos _) e1, s1, by lia, (fun e h => by cases h), Nat.le_add_right _ _⟩
  | some e =>
    have hse := hmt _ _ _ hm
    obtain ⟨k', ρ', steps', X, G', e1, m1, s1, s2, hX, hXl, hk⟩ := M.ok L sc ora n (k := 999990) (P := []) (gs := [.none]) (rs := []) (G := []) (b := b) (le := le) (most := most) (steps := steps) c ex m0 hrows (by lia) ht (.inl rfl) (.inl rfl) hm
    obtain ⟨ρ2, e2⟩ := m_end_ok (L := L) (sc := sc) (ora := ora) (n := n + 12) (t := t) (b := b) (le := le) (most := most) (steps := steps') (at_ := e) (row := 0 + rowsM.length) (pile := [] ++ X) (rs := []) (G := G') (k := 999990 + (k' - 1)) (g0 := .none) (gr := []) c m1 (by lia) hend (by lia)
    rw [show 999990 + (k' - 1) + 1 = 999990 + k' by lia] at e2
    refine ⟨steps' + 1, e, _, _, _, _, _, match_call c h0 (by lia) (e1.trans e2), by lia, by lia, fun e' h => ?_, Nat.le_add_right _ _⟩
    cases h
    exact RH_new (i := 2)
theorem match_grouped {Ex : MH → Nat → Prop} {rowsM : List V} {mt : List Nat → Nat → Option Nat} (M : Mid Ex 1 rowsM mt) (hmt : ∀ t s e, mt t s = some e → s < e) : MatchOK Ex (.tup [.str [111, 112, 101, 110], .int 0] :: (rowsM ++ [.tup [.str [99, 108, 111, 115, 101], .int 1, .int 0], .tup [sEnd]])) 1 (fun t _ s => mt t s) := by
  intro L sc ora n H r p pr wd nl t b le most steps at0 row0 g0 q0 l0 start c ex h0 hs ht hst hle
  simp only []
  have m0 : MEnv [(7239026, .loc r), (495606460279, .loc wd), (500135195763, .int start)] r wd start := ⟨by simp, by simp, by simp⟩
  have hrows : ∀ i < rowsM.length, (.tup [.str [111, 112, 101, 110], .int 0] :: (rowsM ++ [.tup [.str [99, 108, 111, 115, 101], .int 1, .int 0], .tup [sEnd]]) : List V)[1 + i]? = rowsM[i]? := fun i hi => by
    rw [show 1 + i = i + 1 by exact Nat.add_comm _ _, List.getElem?_cons_succ, List.getElem?_append_left hi]
  have hclose : (.tup [.str [111, 112, 101, 110], .int 0] :: (rowsM ++ [.tup [.str [99, 108, 111, 115, 101], .int 1, .int 0], .tup [sEnd]]) : List V)[1 + rowsM.length]? = some (.tup [.str [99, 108, 111, 115, 101], .int 1, .int 0]) := by
    rw [show 1 + rowsM.length = rowsM.length + 1 by exact Nat.add_comm _ _]; simp
  have hend : (.tup [.str [111, 112, 101, 110], .int 0] :: (rowsM ++ [.tup [.str [99, 108, 111, 115, 101], .int 1, .int 0], .tup [sEnd]]) : List V)[1 + rowsM.length + 1]? = some (.tup [sEnd]) := by
    rw [show 1 + rowsM.length + 1 = (rowsM.length + 1) + 1 by lia]; simp
  have ho := row_open_c (L := L) (sc := sc) (ora := ora) (n := n + 10) (H := H) (r := r) (p := p) (t := t) (b := b) (le := le) (most := most) (steps := steps + 1) (at_ := start) (row := (0 : Nat)) (pile := []) (gs := [.none, .none]) (rs := [.int (-1)]) (G := []) (k := 0) (old := .int (-1)) c.hr rfl (by decide)
  have e0 := m_row (k := 999999) (f := 279) c m0 (by lia : steps + 1 ≤ most) (row := 0) rfl (by decide) (by simp) rfl ho
  have m1 := (m0.row (.tup [.str [111, 112, 101, 110], .int 0])).right (.bool true)
  have hU : Unw [.tup [sRegister, .int (0 : Nat), .int (-1)]] := .inr ⟨_, rfl, rfl⟩
  cases hm : mt t start with
  | none =>
    obtain ⟨ρ', steps', at', row', rs', G', e1, s1, s2⟩ := M.no L sc ora n (k := 999989) (P := [.tup [sRegister, .int (0 : Nat), .int (-1)]]) (gs := [.none, .none]) (rs := [.int start]) (G := []) (b := b) (le := le) (most := most) (steps := steps + 1) c ex m1 hrows (by lia) ht hU (.inr (by simp)) hm hst
    exact ⟨steps', at', row', H.length + 2, H.length + 4, H.length, .list [] :: .list [.none] :: .list [.none, .none] :: .list [.int (-1)] :: .list rs' :: G', match_call c h0 (by exact Nat.le_add_left _ _) (e0.trans e1), by lia, by lia, (fun e h => by cases h), Nat.le_add_right _ _⟩
  | some e =>
    have hse := hmt _ _ _ hm
    obtain ⟨k', ρ', steps', X, G', e1, m2, s1, s2, hX, hXl, hk⟩ := M.ok L sc ora n (k := 999989) (P := [.tup [sRegister, .int (0 : Nat), .int (-1)]]) (gs := [.none, .none]) (rs := [.int start]) (G := []) (b := b) (le := le) (most := most) (steps := steps + 1) c ex m1 hrows (by lia) ht hU (.inr (by simp)) hm
    have hcl := row_close_c (L := L) (sc := sc) (ora := ora) (n := n + 10) (H := H) (r := r) (p := p) (t := t) (b := b) (le := le) (most := most) (steps := steps' + 1) (at_ := e) (row := (1 + rowsM.length : Nat)) (pile := [.tup [sRegister, .int (0 : Nat), .int (-1)]] ++ X) (gs := [.none, .none]) (rs := [.int start]) (G := G') (k := 1) (q := 0) (old := .none) (v := .int start) c.hr rfl rfl (by simp [top]; lia)
    have e2 := m_row (k := 999989 + (k' - 1)) (f := 286) c m2 (by lia : steps' + 1 ≤ most) (row := 1 + rowsM.length) hclose (by decide) (by simp) rfl hcl
    rw [show 999989 + (k' - 1) + 1 = 999989 + k' by lia] at e2
    obtain ⟨ρ3, e3⟩ := m_end_ok (L := L) (sc := sc) (ora := ora) (n := n + 12) (t := t) (b := b) (le := le) (most := most) (steps := steps' + 1) (at_ := e) (row := 1 + rowsM.length + 1) (rs := [.int start]) (G := G') (k := 999989 + (k' - 2)) (g0 := .none) (gr := [.tup [.int start, .int e]]) c ((m2.row (.tup [.str [99, 108, 111, 115, 101], .int 1, .int 0])).right (.bool true)) (by lia) hend (by lia)
    rw [show 999989 + (k' - 2) + 1 = 999989 + (k' - 1) by lia] at e3
    refine ⟨steps' + 1 + 1, e, _, _, _, _, _, match_call c h0 (by lia) (((e0.trans e1).trans e2).trans e3), by lia, by lia, fun e' h => ?_, Nat.le_add_right _ _⟩
    cases h
    exact RH_new (i := 2)
noncomputable def mtNil (t : List Nat) (le : Int) (s : Nat) : Option Nat := if le ≤ s then some s else none
theorem match_nil : MatchOK (fun _ _ => True) [.tup [sEnd]] 0 mtNil := by
  intro L sc ora n H r p pr wd nl t b le most steps at0 row0 g0 q0 l0 start c ex h0 hs ht hst hle
  have m0 : MEnv [(7239026, .loc r), (495606460279, .loc wd), (500135195763, .int start)] r wd start := ⟨by simp, by simp, by simp⟩
  unfold mtNil
  by_cases h : le ≤ (start : Int)
  · rw [if_pos h]
    obtain ⟨ρ2, e2⟩ := m_end_ok (L := L) (sc := sc) (ora := ora) (n := n + 12) (t := t) (b := b) (le := le) (most := most) (steps := steps) (at_ := start) (row := 0) (pile := []) (rs := []) (G := []) (k := 999999) (g0 := .none) (gr := []) c m0 (by lia) rfl h
    refine ⟨steps + 1, start, 0, H.length + 2, H.length + 4, H.length, _, match_call c h0 (by exact Nat.succ_pos _) e2, by lia, by lia, fun e' he => ?_, Nat.le_add_right _ _⟩
    cases he
    exact RH_new (i := 2)
  · rw [if_neg h]
    obtain ⟨rs', G', hb⟩ := Unw.fails (L := L) (sc := sc) (ora := ora) (n := n + 10) (H := H) (r := r) (p := p) (t := t) (b := b) (le := le) (most := most) (steps := steps + 1) (at_ := start) (row := (0 : Nat)) (gs := [.none]) (rs := []) (G := []) (P := []) (.inl rfl) c.hr (.inl rfl)
    obtain ⟨ρ2, e2⟩ := m_end_no (k := 999999) c m0 (by lia : steps + 1 ≤ most) (row := 0) rfl (by lia) hb
    refine ⟨steps + 1, start, 0, H.length + 2, H.length + 4, H.length, _, match_call c h0 (by lia) e2, by lia, by lia, (fun e' he => by cases he), Nat.le_add_right _ _⟩
end
noncomputable def Gr (X : List Nat) (H H' : MH) : Prop := H.length ≤ H'.length ∧ ∀ j, j < H.length → j ∉ X → H'[j]? = H[j]?
theorem Gr.refl {X : List Nat} {H : MH} : Gr X H H := ⟨Nat.le_refl _, fun _ _ _ => rfl⟩
theorem Gr.trans {X Y : List Nat} {H H1 H2 : MH} (a : Gr X H H1) (b : Gr Y H1 H2) (hY : ∀ j ∈ Y, j < H.length → j ∈ X) : Gr X H H2 :=
  ⟨Nat.le_trans a.1 b.1, fun j h hx => (b.2 j (Nat.lt_of_lt_of_le h a.1) fun m => hx (hY j m h)).trans (a.2 j h hx)⟩
theorem Gr.app {H G : MH} : Gr [] H (H ++ G) := ⟨by simp, fun j h _ => List.getElem?_append_left h⟩
theorem Gr.rh {H G : MH} {r : Nat} {o : O} : Gr [r] H (RH H r o G) := ⟨by rw [RH_len]; exact Nat.le_add_right _ _, fun j h hx => RH_old h (by simpa using hx)⟩
theorem Gr.mono {X Y : List Nat} {H H' : MH} (a : Gr X H H') (h : ∀ j ∈ X, j ∈ Y) : Gr Y H H' := ⟨a.1, fun j hj hx => a.2 j hj fun m => hx (h j m)⟩
theorem Gr.get {X : List Nat} {H H' : MH} (a : Gr X H H') {j : Nat} {o : O} (h : H[j]? = some o) (hx : j ∉ X) : H'[j]? = some o := (a.2 j (List.getElem?_eq_some_iff.mp h).1 hx).trans h
theorem lt_of_get {H : MH} {j : Nat} {o : O} (h : H[j]? = some o) : j < H.length := (List.getElem?_eq_some_iff.mp h).1
theorem Gr.set {H : MH} {j : Nat} {o : O} : Gr [j] H (H.set j o) := ⟨by simp, fun i h hx => List.getElem?_set_ne fun e => hx (by simp [e])⟩
theorem MCx.step {H H' : MH} {r p pr wd : Nat} {rows : List V} {ng nr nl : Nat} (c : MCx H r p pr wd rows ng nr nl) (g : Gr [r] H H') : MCx H' r p pr wd rows ng nr nl :=
  ⟨⟨g.get c.pa.prog (by simpa using c.pne), g.get c.pa.rows (by simpa using c.prne)⟩, Nat.lt_of_lt_of_le c.hr g.1, c.pne, c.prne, c.wne, g.get c.words (by simpa using c.wne)⟩
noncomputable def SideAt (side : Option (Nat × List V)) (H : MH) : Prop := match side with
  | none => True
  | some q => H[q.1]? = some (.list q.2)
noncomputable def ExOf (side : Option (Nat × List V)) (H : MH) (r : Nat) : Prop := match side with
  | none => True
  | some q => H[q.1]? = some (.list q.2) ∧ q.1 ≠ r
theorem ExOf.step {side : Option (Nat × List V)} {H H' : MH} {r : Nat} (x : ExOf side H r) (g : Gr [r] H H') : ExOf side H' r := by
  cases side with
  | none => trivial
  | some q => exact ⟨g.get x.1 (by simpa using x.2), x.2⟩
structure PatAt (H : MH) (p : Nat) (rows : List V) (ng : Nat) (side : Option (Nat × List V)) : Prop where
  ex : ∃ pr nl, ProgAt H p pr rows ng ng nl
  side : SideAt side H
theorem PatAt.step {X : List Nat} {H H' : MH} {p : Nat} {rows : List V} {ng : Nat} {side : Option (Nat × List V)} (x : PatAt H p rows ng side) (g : Gr X H H') (h : ∀ j ∈ X, ∀ o, H[j]? = some o → (∃ i, o = .list [.int i])) (hr : ∀ i, rows ≠ [.int i]) (hs : ∀ q, side = some q → ∀ i, q.2 ≠ [.int i]) : PatAt H' p rows ng side := by
  obtain ⟨⟨pr, nl, h1, h2⟩, h3⟩ := x
  refine ⟨⟨pr, nl, g.get h1 fun m => ?_, g.get h2 fun m => ?_⟩, ?_⟩
  · obtain ⟨i, e⟩ := h _ m _ h1; cases e
  · obtain ⟨i, e⟩ := h _ m _ h2; cases e; exact hr _ rfl
  · cases side with
    | none => trivial
    | some q => exact g.get h3 fun m => by obtain ⟨i, e⟩ := h _ m _ h3; exact hs q rfl i (O.list.inj e)
noncomputable abbrev limO : O := .inst 477 [(448629336439, .int 64), (448630121828, .int 50), (495806936179, .int 1000000), (1954047348, .int 100000), (495756604521, .int 10000)]
@[simp] theorem aok_lim_steps : aok 477 495806936179 = true := rfl
@[simp] theorem aok_lim_text : aok 477 1954047348 = true := rfl
section
variable {L : Nat} {sc : List V} {ora : Nat → Nat → List V → MH → R V} {n : Nat} {H : MH} {t : List Nat}
theorem look_fn212 : look fnTab 212 = none := rfl
theorem make_run_c {p : Nat} {b le most : Int} : ((prg L sc ora).ctx (n + 2)).call 212 [.loc p, .str t, .int b, .int le, .int most] H = some (.loc H.length, H ++ [runO p t b le most 0 b 0 (H.length + 1) (H.length + 2) (H.length + 3), .list [], .list [], .list []]) := by
  have e2 : RH (H ++ [.inst 212 []]) H.length (.inst 212 []) [] = H ++ [.inst 212 []] := by unfold RH; simp
  have e3 : ∀ T o, RH (H ++ [.inst 212 []]) H.length o T = H ++ o :: T := fun T o => by unfold RH; simp
  have hl : H.length < (H ++ [O.inst 212 []]).length := by simp
  have hlen : ((H ++ [O.inst 212 []] : MH)).length = H.length + 1 := by simp
  have e0 : ((prg L sc ora).ctx (n + 1)).call 209 [.loc H.length, .loc p, .str t, .int b, .int le, .int most] (RH (H ++ [.inst 212 []]) H.length (.inst 212 []) []) = some (.none, RH (H ++ [.inst 212 []]) H.length (runO p t b le most 0 b 0 ((H ++ [O.inst 212 []] : MH).length + 0) ((H ++ [O.inst 212 []] : MH).length + 1) ((H ++ [O.inst 212 []] : MH).length + 2)) [.list [], .list [], .list []]) := by
    apply c_next rfl rfl (zp_cons (zp_cons (zp_cons (zp_cons (zp_cons (zp_cons zp_nil))))))
    apply ts_go (t_asga (r_var rfl) (r_var rfl) (g_setR hl rfl rfl))
    apply ts_go (t_asga (r_var rfl) (r_var rfl) (g_setR hl rfl rfl))
    apply ts_go (t_asga (r_var rfl) (r_var rfl) (g_setR hl rfl rfl))
    apply ts_go (t_asga (r_var rfl) (r_var rfl) (g_setR hl rfl rfl))
    apply ts_go (t_asga (r_var rfl) (r_var rfl) (g_setR hl rfl rfl))
    apply ts_go (t_asga e_c (r_var rfl) (g_setR hl rfl rfl))
    apply ts_go (t_asga (r_var rfl) (r_var rfl) (g_setR hl rfl rfl))
    apply ts_go (t_asga e_c (r_var rfl) (g_setR hl rfl rfl))
    apply ts_go (t_asga (r_listR fun _ => es_nil) (r_var rfl) (g_setR hl rfl rfl))
    apply ts_go (t_asga (r_listR fun _ => es_nil) (r_var rfl) (g_setR hl rfl rfl))
    apply ts_go (t_asga (r_listR fun _ => es_nil) (r_var rfl) (g_setR hl rfl rfl))
    exact ss_nil
  rw [e2, e3, hlen] at e0
  exact cls_new rfl rfl e0
theorem row_words_c : ((prg L sc ora).ctx (n + 1)).call 375 [] H = some (.loc H.length, H ++ [.dict rowTab]) := by rfl
noncomputable def srch (mt : List Nat → Int → Nat → Option Nat) (t : List Nat) (le : Int) : Nat → Nat → Option (Nat × Nat)
  | 0, _ => none
  | k + 1, s => match mt t le s with
    | some e => some (s, e)
    | none => srch mt t le k (s + 1)
noncomputable def find (mt : List Nat → Int → Nat → Option Nat) (t : List Nat) (le : Int) (a : Nat) : Option (Nat × Nat) := srch mt t le (t.length + 1 - a) a
noncomputable def sTest : ME := match f404.body with
  | [_, _, _, _, .whl c _, _, _] => c
  | _ => .bad
noncomputable def sBody : List MS := match f404.body with
  | [_, _, _, _, .whl _ b, _, _] => b
  | _ => []
noncomputable def sEnv (p : Nat) (t : List Nat) (a : Int) (li : Nat) (le : Int) (sp r wd : Nat) (start : Int) : Env :=
  [(30787916450984560, .loc p), (1954047348, .str t), (29793, .int a), (126943822178668, .loc li), (1852629276641531618668, .int le), (474214786402, .none), (500068348019, .loc sp), (7239026, .loc r), (495606460279, .loc wd), (500135195763, .int start)]
inductive SrTo (L : Nat) (sc : List V) (ora : Nat → Nat → List V → MH → R V) (n : Nat) (t : List Nat) (ng p r li sp wd : Nat) (a le b most : Int) (d start K : Nat) (Hk : MH) (steps : Int) (f : Option (Nat × Nat)) : Prop
  | mk (start' Hk' steps' at' row' g' q' l') (h1 : whileGo (evT ((prg L sc ora).ctx (n + 13)) sTest) (evSs ((prg L sc ora).ctx (n + 13)) sBody) K (sEnv p t a li le sp r wd start) Hk = some ((.next, sEnv p t a li le sp r wd (start' : Nat)), Hk')) (h2 : Gr [r] Hk Hk') (h3 : Hk'[r]? = some (runO p t b le most steps' at' row' g' q' l')) (h4 : steps ≤ steps') (h5 : steps' ≤ steps + 40 * d) (h6 : (match f with | none => start' = t.length + 1 | some q => start' = q.1 ∧ q.1 ≤ t.length ∧ Hk.length ≤ g' ∧ Hk'[g']? = some (.list (List.replicate (ng + 1) (.tup [.int q.1, .int q.2]))))) : SrTo L sc ora n t ng p r li sp wd a le b most d start K Hk steps f
theorem search_loop {rows : List V} {ng : Nat} {side : Option (Nat × List V)} {mt : List Nat → Int → Nat → Option Nat} (hM : MatchOK (ExOf side) rows ng mt) {p pr wd nl r li sp : Nat} {a le b most : Int} (ht : t.length < 100) :
    ∀ (d start K : Nat) (Hk : MH) (steps at0 row0 : Int) (g0 q0 l0 : Nat), start + d = t.length + 1 → d < K → MCx Hk r p pr wd rows ng ng nl → ExOf side Hk r → Hk[r]? = some (runO p t b le most steps at0 row0 g0 q0 l0) → steps + 41 * d ≤ most → le ≤ start + 1 →
      SrTo L sc ora n t ng p r li sp wd a le b most d start K Hk steps (srch mt t le d start) := by
  intro d
  induction d with
  | zero =>
    intro start K Hk steps at0 row0 g0 q0 l0 h1 h2 c ex h0 hs hle
    obtain ⟨K, rfl⟩ : ∃ j, K = j + 1 := ⟨K - 1, by lia⟩
    refine ⟨start, Hk, steps, at0, row0, g0, q0, l0, ?_, .refl, h0, by exact Int.le_refl _, by lia, ?_⟩
    · have hn : ¬ (start : Int) ≤ (t.length : Int) := by lia
      unfold sTest f404
      apply w_end; apply t_test; wtm_at "e"; exact rfl
    · simp only [srch]; omega
  | succ d ih =>
    intro start K Hk steps at0 row0 g0 q0 l0 h1 h2 c ex h0 hs hle
    obtain ⟨K, rfl⟩ : ∃ j, K = j + 1 := ⟨K - 1, by lia⟩
    have hlt : (start : Int) ≤ (t.length : Int) := by lia
    obtain ⟨k, at', row', g', q', l', G, hc, k1, k2, hg, hgl⟩ := hM L sc ora n c ex h0 (by lia) ht (by lia) hle
    have gr : Gr [r] Hk (RH Hk r (runO p t b le most k at' row' g' q' l') G) := Gr.rh
    have hr' : (RH Hk r (runO p t b le most k at' row' g' q' l') G)[r]? = some (runO p t b le most k at' row' g' q' l') := RH_r c.hr
    unfold srch
    cases hm : mt t le start with
    | some e =>
      rw [hm] at hc
      simp only [Option.isSome_some] at hc
      refine ⟨start, _, k, at', row', g', q', l', ?_, gr, hr', by omega, by lia, ?_⟩
      · unfold sTest f404
        apply w_end; apply t_test; wtm_at "e"; exact rfl
      · exact ⟨rfl, by simp only []; lia, hgl, hg e hm⟩
    | none =>
      rw [hm] at hc
      simp only [Option.isSome_none] at hc
      obtain ⟨start', Hk', steps', at2, row2, g2, q2, l2, e1, gr2, hr2, s1, s2, hres⟩ := ih (start + 1) K _ k at' row' g' q' l' (by lia) (by lia) (c.step gr) (ex.step gr) hr' (by lia) (by lia)
      refine ⟨start', Hk', steps', at2, row2, g2, q2, l2, ?_, gr.trans gr2 (by simp), hr2, by lia, by lia, ?_⟩
      · apply w_go
        · apply t_test
          · unfold sTest f404
            wtm_at "e"
          · exact rfl
        · unfold sBody f404
          wtm_at "ts"
        · exact e1
      · simp only []
        cases hsr : srch mt t le d (start + 1) with
        | none => rw [hsr] at hres; exact hres
        | some q =>
          rw [hsr] at hres
          simp only [] at hres ⊢
          exact ⟨hres.1, hres.2.1, Nat.le_trans gr.1 hres.2.2.1, hres.2.2.2⟩
end
theorem app_get0 {H T : MH} {o : O} : (H ++ o :: T)[H.length]? = some o := by simp
theorem app_get {H T : MH} {i : Nat} : (H ++ T)[H.length + i]? = T[i]? := by
  rw [List.getElem?_append_right (by exact Nat.le_add_right _ _)]; simp
theorem app_old {H T : MH} {j : Nat} (h : j < H.length) : (H ++ T)[j]? = H[j]? := List.getElem?_append_left h
theorem app_set0 {H T : MH} {o o' : O} : (H ++ o :: T).set H.length o' = H ++ o' :: T := by
  rw [List.set_append_right _ _ (Nat.le_refl _)]; simp
theorem seqIndex_0 {n : Nat} (h : 0 < n) : PySem.seqIndex? 0 n = some 0 := by have := seqIndex_nat h; simpa using this
noncomputable def sHead : List MS := f404.body.take 4
noncomputable def sTail : List MS := f404.body.drop 5
theorem f404_eq : f404 = ⟨[30787916450984560, 1954047348, 29793, 126943822178668, 1852629276641531618668, 474214786402, 500068348019], [.none, .none], sHead ++ (.whl sTest sBody :: sTail)⟩ := rfl
section
variable {L : Nat} {sc : List V} {ora : Nat → Nat → List V → MH → R V} {n : Nat} {H : MH} {t : List Nat}
theorem search_head {p li sp : Nat} {a : Nat} {le k0 : Int} (hli : H[li]? = some limO) (hsp : H[sp]? = some (.list [.int k0])) :
    evSs ((prg L sc ora).ctx (n + 13)) sHead [(30787916450984560, .loc p), (1954047348, .str t), (29793, .int a), (126943822178668, .loc li), (1852629276641531618668, .int le), (474214786402, .none), (500068348019, .loc sp)] H =
      some ((.next, sEnv p t a li le sp H.length (H.length + 4) a), H ++ [runO p t a le 1000000 k0 a 0 (H.length + 1) (H.length + 2) (H.length + 3), .list [], .list [], .list [], .dict rowTab]) := by
  have hspl := lt_of_get hsp
  have h1 := make_run_c (L := L) (sc := sc) (ora := ora) (n := n + 11) (H := H) (t := t) (p := p) (b := a) (le := le) (most := 1000000)
  have h2 : (H ++ [runO p t a le 1000000 0 a 0 (H.length + 1) (H.length + 2) (H.length + 3), .list [], .list [], .list []])[sp]? = some (.list [.int k0]) := (app_old hspl).trans hsp
  have h3 : setAttr ((prg L sc ora).ctx (n + 13)) (.loc H.length) 495806936179 (.int k0) (H ++ [runO p t a le 1000000 0 a 0 (H.length + 1) (H.length + 2) (H.length + 3), .list [], .list [], .list []]) = some (H ++ [runO p t a le 1000000 k0 a 0 (H.length + 1) (H.length + 2) (H.length + 3), .list [], .list [], .list []]) := (g_set app_get0 rfl (Nat.le_of_ble_eq_true rfl)).trans (congrArg some app_set0)
  have h4 : ((prg L sc ora).ctx (n + 13)).call 375 [] (H ++ [runO p t a le 1000000 k0 a 0 (H.length + 1) (H.length + 2) (H.length + 3), .list [], .list [], .list []]) = some (.loc (H.length + 4), H ++ [runO p t a le 1000000 k0 a 0 (H.length + 1) (H.length + 2) (H.length + 3), .list [], .list [], .list [], .dict rowTab]) := by
    have e := row_words_c (L := L) (sc := sc) (ora := ora) (n := n + 12) (H := H ++ [runO p t a le 1000000 k0 a 0 (H.length + 1) (H.length + 2) (H.length + 3), .list [], .list [], .list []])
    rw [List.append_assoc, List.length_append] at e
    exact e
  apply ts_go
  wtm_at "t"
  apply ts_go
  wtm_at "t"
  apply ts_go
  wtm_at "t"
  apply ts_go
  wtm_at "t"
  exact ss_nil
theorem search_tail {p li sp r wd g : Nat} {a : Nat} {le k0 most b steps at_ row : Int} {q l start : Nat} (hr : H[r]? = some (runO p t b le most steps at_ row g q l)) (hsp : H[sp]? = some (.list [.int k0])) (hne : sp ≠ r) :
    ∃ ρ', evSs ((prg L sc ora).ctx n) sTail (sEnv p t a li le sp r wd (start : Nat)) H = some ((.ret (if start ≤ t.length then .loc g else .none), ρ'), H.set sp (.list [.int steps])) := by
  have hr2 : (H.set sp (.list [.int steps]))[r]? = some (runO p t b le most steps at_ row g q l) := by rw [List.getElem?_set_ne hne]; exact hr
  have hu : setSub (.loc sp) (.int 0) (.int steps) H = some (H.set sp (.list [.int steps])) := u_sub (k := 0) hsp Nat.one_pos
  refine ⟨sEnv p t a li le sp r wd (start : Nat), ?_⟩
  have h0 : evS ((prg L sc ora).ctx n) (.ite (.cmp (.var 500068348019) [.isnot] [.c .none]) [.asg (.sub (.var 500068348019) (.c (.int 0))) (.attr (.var 7239026) 495806936179)] []) (sEnv p t a li le sp r wd (start : Nat)) H = some ((.next, sEnv p t a li le sp r wd (start : Nat)), H.set sp (.list [.int steps])) := by wtm_at "t"
  refine ts_go h0 (ts_ret ?_)
  by_cases h : start ≤ t.length
  · have h' : (start : Int) ≤ (t.length : Int) := by lia
    rw [if_pos h]
    wtm_at "t"
  · have h' : ¬ (start : Int) ≤ (t.length : Int) := by lia
    rw [if_neg h]
    wtm_at "t"
noncomputable def NoSp (rows : List V) (side : Option (Nat × List V)) : Prop := (∀ i, rows ≠ [.int i]) ∧ ∀ q, side = some q → ∀ i, q.2 ≠ [.int i]
inductive SrcTo (H : MH) (sp len ng : Nat) (k0 B : Int) (x : R V) (f : Option (Nat × Nat)) : Prop
  | mk (v H' k) (h1 : x = some (v, H')) (h2 : Gr [sp] H H') (h3 : H'[sp]? = some (.list [.int k])) (h4 : k0 ≤ k) (h5 : k ≤ k0 + B)
    (h6 : match f with | none => v = .none | some q => q.1 ≤ len ∧ ∃ g, v = .loc g ∧ H.length ≤ g ∧ H'[g]? = some (.list (List.replicate (ng + 1) (.tup [.int q.1, .int q.2])))) : SrcTo H sp len ng k0 B x f
theorem search_c {rows : List V} {ng : Nat} {side : Option (Nat × List V)} {mt : List Nat → Int → Nat → Option Nat} (hM : MatchOK (ExOf side) rows ng mt) {p li sp a : Nat} {le k0 : Int} (hp : PatAt H p rows ng side) (hli : H[li]? = some limO) (hsp : H[sp]? = some (.list [.int k0]))
    (ht : t.length < 100) (ha : a ≤ t.length) (hle : le ≤ a + 1) (hk : k0 + 41 * (t.length + 1) ≤ 1000000) :
    SrcTo H sp t.length ng k0 (41 * (t.length + 1)) (((prg L sc ora).ctx (n + 14)).call 404 [.loc p, .str t, .int a, .loc li, .int le, .none, .loc sp] H) (find mt t le a) := by
  obtain ⟨⟨pr, nl, hp1, hp2⟩, hside⟩ := hp
  have hspl := lt_of_get hsp
  generalize hH2 : H ++ [runO p t a le 1000000 k0 a 0 (H.length + 1) (H.length + 2) (H.length + 3), .list [], .list [], .list [], .dict rowTab] = H2
  have g2 : Gr [] H H2 := hH2 ▸ Gr.app
  have hr2 : H2[H.length]? = some (runO p t a le 1000000 k0 a 0 (H.length + 1) (H.length + 2) (H.length + 3)) := by rw [← hH2]; exact app_get0
  have hwd : H2[H.length + 4]? = some (.dict rowTab) := by rw [← hH2]; exact app_get
  have hlen : H2.length = H.length + 5 := by rw [← hH2]; simp
  have c : MCx H2 H.length p pr (H.length + 4) rows ng ng nl := ⟨⟨g2.get hp1 (by simp), g2.get hp2 (by simp)⟩, by lia, Nat.ne_of_lt (lt_of_get hp1), Nat.ne_of_lt (lt_of_get hp2), by lia, hwd⟩
  have ex : ExOf side H2 H.length := by
    cases side with
    | none => trivial
    | some q => exact ⟨g2.get hside (by simp), Nat.ne_of_lt (lt_of_get hside)⟩
  obtain ⟨start', H3, steps', at', row', g', q', l', e1, gr, hr3, s1, s2, hres⟩ := search_loop (L := L) (sc := sc) (ora := ora) (n := n) hM (li := li) (sp := sp) (a := a) ht (t.length + 1 - a) a turns H2 k0 a 0 _ _ _ (by lia) (by unfold turns; omega) c ex hr2 (by lia) hle
  have hsp3 : H3[sp]? = some (.list [.int k0]) := gr.get (g2.get hsp (by simp)) (by simp; lia)
  obtain ⟨ρ', e2⟩ := search_tail (L := L) (sc := sc) (ora := ora) (n := n + 13) (li := li) (wd := H.length + 4) (a := a) (start := start') hr3 hsp3 (by lia)
  refine ⟨if start' ≤ t.length then .loc g' else .none, H3.set sp (.list [.int steps']), steps', ?_, ?_, List.getElem?_set_self (lt_of_get hsp3), by omega, by omega, ?_⟩
  · have eh := search_head (L := L) (sc := sc) (ora := ora) (n := n) (t := t) (p := p) (a := a) (le := le) hli hsp
    rw [hH2] at eh
    exact (call_eq' (mf := f404) rfl (by decide)).trans (f_ret rfl (ts_app (a := sHead) (b := .whl sTest sBody :: sTail) eh (ts_go (t_whl e1) e2)))
  · exact ((g2.trans gr (Y := [H.length]) (X := []) (fun j hj h => by simp at hj; lia)).mono (Y := [sp]) (by simp)).trans Gr.set (by simp)
  · unfold find
    cases hsr : srch mt t le (t.length + 1 - a) a with
    | none => rw [hsr] at hres; simp only [] at hres ⊢; rw [if_neg (by lia)]
    | some q =>
      rw [hsr] at hres
      simp only [] at hres ⊢
      obtain ⟨h1, h2, h3, h4⟩ := hres
      refine ⟨h2, g', by rw [if_pos (by lia)], by lia, ?_⟩
      rw [List.getElem?_set_ne (by lia)]
      exact h4
end
noncomputable def seg {α : Type} (t : List α) (i j : Nat) : List α := (t.drop i).take (j - i)
theorem nat_dif (i j : Nat) : ((j : Int) - (i : Int)).toNat = j - i := Int.toNat_sub j i
theorem cut_seg {α : Type} {t : List α} {i j : Nat} (hi : i ≤ t.length) (hj : j ≤ t.length) : cut t (some (i : Int)) (some (j : Int)) none = seg t i j := by
  rw [cut_none]
  show (t.drop (clp _ i).toNat).take (clp _ j - clp _ i).toNat = _
  rw [clp_nat hi, clp_nat hj, nat_dif]; rfl
theorem cut_from {α : Type} {t : List α} {i : Nat} (hi : i ≤ t.length) : cut t (some (i : Int)) none none = t.drop i := by
  rw [cut_none]
  show (t.drop (clp _ i).toNat).take ((t.length : Int) - clp _ i).toNat = _
  rw [clp_nat hi, nat_dif]
  exact List.take_of_length_le (Nat.le_of_eq List.length_drop)
theorem cut_to {α : Type} {t : List α} {j : Nat} (hj : j ≤ t.length) : cut t none (some (j : Int)) none = t.take j := by
  rw [cut_none]
  show (t.drop 0).take (clp _ j - ((0 : Nat) : Int)).toNat = _
  rw [clp_nat hj, nat_dif]; rfl
theorem cut_whole {α : Type} {t : List α} : cut t none none none = t := by
  rw [cut_none]
  show (t.drop 0).take ((t.length : Int) - ((0 : Nat) : Int)).toNat = _
  rw [nat_dif]
  exact List.take_length
section
variable {L : Nat} {sc : List V} {ora : Nat → Nat → List V → MH → R V} {n : Nat} {H : MH} {t : List Nat}
theorem group_text_c {i j : Nat} (hi : i ≤ t.length) (hj : j ≤ t.length) : ((prg L sc ora).ctx (n + 1)).call 432 [.str t, .tup [.int i, .int j]] H = some (.str (seg t i j), H) := by
  have h1 := cut_seg hi hj
  wtm_at "c"
theorem next_c {p li sp a : Nat} {v : V} {H' : MH} (ha : a ≤ t.length) (hs : ((prg L sc ora).ctx n).call 404 [.loc p, .str t, .int a, .loc li, .int 0, .none, .loc sp] H = some (v, H')) :
    ((prg L sc ora).ctx (n + 1)).call 412 [.loc p, .str t, .int a, .bool false, .loc li, .none, .loc sp] H = some (v, H') := by
  have h : ¬ (a : Int) > (t.length : Int) := by lia
  wtm_at "c"
noncomputable def dropEnds (fs : List (List Nat)) : Nat → List (List Nat)
  | 0 => []
  | k + 1 => match fs[k]? with
    | some [] => dropEnds fs k
    | _ => fs.take (k + 1)
noncomputable def txs (fs : List (List Nat)) : List V := fs.map .str
theorem drop_loop {fl : Nat} {fs : List (List Nat)} (hf : H[fl]? = some (.list (txs fs))) :
    ∀ (d K : Nat), d ≤ fs.length → d < K → ∃ d', whileGo (evT ((prg L sc ora).ctx n) (.bop true [(.cmp (.var 500069396323) [.gt] [(.c (.int 0))]), (.bop false [(.cmp (.sub (.var 126875152509286) (.bin .sub (.var 500069396323) (.c (.int 1)))) [.is] [(.c .none)]), (.cmp (.sub (.var 126875152509286) (.bin .sub (.var 500069396323) (.c (.int 1)))) [.eq] [(.c (.str []))])])]))
      (evSs ((prg L sc ora).ctx n) [.aug (.var 500069396323) .sub (.c (.int 1))]) K [(126875152509286, .loc fl), (500069396323, .int (d : Nat))] H = some ((.next, [(126875152509286, .loc fl), (500069396323, .int (d' : Nat))]), H) ∧ d' ≤ d ∧ dropEnds fs d = fs.take d' := by
  intro d
  induction d with
  | zero =>
    intro K h1 h2
    obtain ⟨K, rfl⟩ : ∃ j, K = j + 1 := ⟨K - 1, by lia⟩
    refine ⟨0, ?_, Nat.le_refl _, rfl⟩
    apply w_end; apply t_test; wtm_at "e"; exact rfl
  | succ d ih =>
    intro K h1 h2
    obtain ⟨K, rfl⟩ : ∃ j, K = j + 1 := ⟨K - 1, by lia⟩
    have hd : d < fs.length := by lia
    have hpos : ((d + 1 : Nat) : Int) > 0 := by exact Int.ofNat_succ_pos _
    have e1 : binop .sub (.int ((d + 1 : Nat) : Int)) (.int 1) H = some (.int d, H) := by
      show some (V.int (((d + 1 : Nat) : Int) - 1), H) = _
      rw [show ((d + 1 : Nat) : Int) - 1 = d by lia]
    have e2 : augop .sub (.int ((d + 1 : Nat) : Int)) (.int 1) H = some (.int d, H) := e1
    have hx : (txs fs)[d]? = some (.str fs[d]) := by simp [txs, hd]
    by_cases he : fs[d] = []
    · obtain ⟨d', e, h3, h4⟩ := ih K (by lia) (by lia)
      refine ⟨d', ?_, by lia, ?_⟩
      · apply w_go
        · apply t_test
          · wtm_at "e"
          · exact decide_eq_true he
        · wtm_at "ts"
        · exact e
      · unfold dropEnds
        rw [List.getElem?_eq_getElem hd, he]
        exact h4
    · refine ⟨d + 1, ?_, Nat.le_refl _, ?_⟩
      · apply w_end; apply t_test; wtm_at "e"; exact decide_eq_false he
      · unfold dropEnds
        rw [List.getElem?_eq_getElem hd]
        split
        · rename_i h; exact absurd (Option.some.inj h) he
        · rfl
theorem drop_c {fl : Nat} {fs : List (List Nat)} (hf : H[fl]? = some (.list (txs fs))) (hlen : fs.length < 1000) :
    ((prg L sc ora).ctx (n + 1)).call 439 [.loc fl] H = some (.loc H.length, H ++ [.list (txs (dropEnds fs fs.length))]) := by
  obtain ⟨d', e, h3, h4⟩ := drop_loop (L := L) (sc := sc) (ora := ora) (n := n) hf fs.length turns (Nat.le_refl _) (by unfold turns; exact Nat.lt_add_left _ hlen)
  have hl : (txs fs).length = fs.length := by simp [txs]
  have hcut : cut (txs fs) none (some (d' : Int)) none = txs (dropEnds fs fs.length) := by rw [cut_to (by rw [hl]; exact h3), h4]; simp [txs]
  have hlen : builtin .len [.loc fl] H = some (.int fs.length, H) := by rw [len_list hf, hl]
  apply c_ret rfl rfl; wtm_at "z"; apply ts_go; wtm_at "t"; apply ts_go; apply t_whl; exact e; wtm_at "ts"
theorem end_fields_c {fl : Nat} {fs : List (List Nat)} {rest : List Nat} {c : Bool} {limit : Int} (hf : H[fl]? = some (.list (txs fs))) (hlen : fs.length < 1000) :
    ∃ g G, ((prg L sc ora).ctx (n + 2)).call 446 [.loc fl, .str rest, .bool c, .int limit] H = some (.loc g, H ++ G) ∧ (H ++ G)[g]? = some (.list (txs (if rest ≠ [] ∨ (c = true ∧ limit ≠ 0) then fs ++ [rest] else if limit = 0 then dropEnds fs fs.length else fs))) := by
  have hd := drop_c (L := L) (sc := sc) (ora := ora) (n := n) hf hlen
  have hfl := lt_of_get hf
  by_cases h : rest ≠ [] ∨ (c = true ∧ limit ≠ 0)
  · rw [if_pos h]
    refine ⟨H.length + 1, [.list [.str rest], .list (txs fs ++ [.str rest])], ?_, by rw [app_get]; simp [txs]⟩
    have hlt : (txs fs).length + 1 ≤ top := by simp [txs, top]; lia
    have hf2 : (H ++ [O.list [.str rest]])[fl]? = some (.list (txs fs)) := by rw [app_old hfl]; exact hf
    have hb : binop .add (.loc fl) (.loc H.length) (H ++ [.list [.str rest]]) = some (.loc (H.length + 1), H ++ [.list [.str rest], .list (txs fs ++ [.str rest])]) := by
      rw [a_cat hf2 app_get0 hlt, List.length_append, List.append_assoc]; rfl
    by_cases hr : rest = []
    · subst hr
      have hc : c = true ∧ limit ≠ 0 := by simpa using h
      have hc1 := hc.1
      subst hc1
      have hc2 : ¬ limit = 0 := hc.2
      have hc3 : (!decide (limit = 0)) = true := by rw [decide_eq_false hc2]; rfl
      wtm_at "c"
    · have hc3 : (!decide (rest = [])) = true := by rw [decide_eq_false hr]; rfl
      wtm_at "c"
  · rw [if_neg h]
    have h' : rest = [] ∧ (c = true → limit = 0) := by
      constructor
      · by_cases hr : rest = []
        · exact hr
        · exact absurd (.inl hr) h
      · intro hc
        by_cases hl : limit = 0
        · exact hl
        · exact absurd (.inr ⟨hc, hl⟩) h
    obtain ⟨rfl, hcl⟩ := h'
    by_cases hl : limit = 0
    · refine ⟨H.length, [.list (txs (dropEnds fs fs.length))], ?_, by rw [app_get0, if_pos hl]⟩
      subst hl
      cases c <;> wtm_at "c"
    · refine ⟨fl, [], ?_, by rw [List.append_nil, if_neg hl]; exact hf⟩
      have hc : c = false := by cases c; rfl; exact absurd (hcl rfl) hl
      subst hc
      rw [List.append_nil]
      wtm_at "c"
end
noncomputable def compF (C : Ctx) (elt : ME) (tgt : List Nat) (one : Bool) (ifs : List ME) (ρ : Env) (v : V) (h2 : MH) : R (Option V) := (bindVars tgt one v ρ).bind fun r' =>
  andThen (evAll C ifs r' h2) fun ok h3 => if ok then andThen (evE C false elt r' h3) fun x h4 => some (some x, h4) else some (none, h3)
section
variable {C : Ctx} {t : Bool} {ρ ρ1 : Env} {h h1 h2 h3 : MH} {elt iter : ME} {tgt : List Nat} {one : Bool} {ifs : List ME} {src v x : V} {items vs : List V} {acc : Nat} {f : V → MH → R (Option V)} {r : MH}
theorem r_comp (i : evE C false iter ρ h = some (src, h1)) (j : itemsOf C src h1 = some items) (k : compGo src items h1.length (compF C elt tgt one ifs ρ) items (h1 ++ [.list []]) = some r) : evE C t (.comp elt tgt one iter ifs) ρ h = some (.loc h1.length, r) :=
  at1 i (bn1 j (mp1 k))
theorem cg_end (s : still src items h = true) : compGo src items acc f [] h = some h := if_pos s
theorem cg_go (s : still src items h = true) (i : f v h = some (some x, h1)) (j : push acc x h1 = some h2) (k : compGo src items acc f vs h2 = some r) : compGo src items acc f (v :: vs) h = some r := if1 s (bn1 i (bn1 j k))
theorem cf_one (b : bindVars tgt one v ρ = some ρ1) (e : evE C false elt ρ1 h = some (x, h1)) : compF C elt tgt one [] ρ v h = some (some x, h1) := bn1 b (at1 rfl (if1 rfl (at1 e rfl)))
theorem cf_if {c : ME} {q : Bool} (b : bindVars tgt one v ρ = some ρ1) (i : evE C true c ρ1 h = some (.bool q, h1)) (hq : q = true) (e : evE C false elt ρ1 h1 = some (x, h2)) : compF C elt tgt one [c] ρ v h = some (some x, h2) := by
  subst hq; exact bn1 b (at1 (at1 i rfl) (if1 rfl (at1 e rfl)))
end
section
variable {L : Nat} {sc : List V} {ora : Nat → Nat → List V → MH → R V} {n : Nat} {H : MH} {t : List Nat}
theorem count_c0 {k : Int} {m li : Nat} (hm : H[m]? = some (.list [])) (hli : H[li]? = some limO) (hk : k ≤ 10000000) : ((prg L sc ora).ctx (n + 1)).call 417 [.int k, .loc m, .loc li] H = some (.int k, H ++ [.list []]) := by
  have ml := lt_of_get hm
  have hm2 : (H ++ [O.list []])[m]? = some (.list []) := (app_old ml).trans hm
  have hl2 : (H ++ [O.list []])[li]? = some limO := (app_old (lt_of_get hli)).trans hli
  have h1 : builtin .len [.loc m] H = some (.int 0, H) := len_list hm
  have h2 : builtin .sum [.loc H.length] (H ++ [.list []]) = some (.int 0, H ++ [.list []]) := b_sum app_get0 rfl
  have hi : itemsOf ((prg L sc ora).ctx n) (.loc m) H = some [] := it_list hm
  have hs : still (.loc m) [] (H ++ [.list []]) = true := st_list hm2
  have hc := r_comp (t := false) (elt := .call (.c (.bi .len)) [.var 125779768599917]) (tgt := [125779768599917]) (one := true) (ifs := [.cmp (.var 125779768599917) [.isnot] [.c .none]]) (ρ := [(500069396323, .int k), (32495402090325357, .loc m), (126943822178668, .loc li)]) (iter := .var 32495402090325357) (h := H) (r_var rfl) hi (cg_end hs)
  have hk' : ¬ k + (0 + 0) > (100 : Int) * 100000 := by lia
  have e0 : ((prg L sc ora).ctx (n + 1)).call 417 [.int k, .loc m, .loc li] H = some (.int (k + (0 + 0)), H ++ [.list []]) := by wtm_at "c"
  rw [show k + (0 + 0) = k by lia] at e0; exact e0
theorem count_c1 {k : Int} {x : List Nat} {m li : Nat} (hm : H[m]? = some (.list [.str x])) (hli : H[li]? = some limO) (hk : k + (1 + x.length) ≤ 10000000) : ((prg L sc ora).ctx (n + 1)).call 417 [.int k, .loc m, .loc li] H = some (.int (k + (1 + x.length)), H ++ [.list [.int x.length]]) := by
  have ml := lt_of_get hm
  have hm1 : ∀ o : O, (H ++ [o])[m]? = some (.list [.str x]) := fun o => (app_old ml).trans hm
  have hl2 : (H ++ [O.list [.int x.length]])[li]? = some limO := (app_old (lt_of_get hli)).trans hli
  have h1 : builtin .len [.loc m] H = some (.int 1, H) := len_list hm
  have h2 : builtin .sum [.loc H.length] (H ++ [.list [.int x.length]]) = some (.int x.length, H ++ [.list [.int x.length]]) := b_sum app_get0 (congrArg some (Int.add_zero _))
  have hi : itemsOf ((prg L sc ora).ctx n) (.loc m) H = some [.str x] := it_list hm
  have hs : ∀ o : O, still (.loc m) [.str x] (H ++ [o]) = true := fun o => st_list (hm1 o)
  have hp : push H.length (.int x.length) (H ++ [.list []]) = some (H ++ [.list [.int x.length]]) := (p_list app_get0 (by decide)).trans (congrArg some app_set0)
  have hc := r_comp (t := false) (elt := .call (.c (.bi .len)) [.var 125779768599917]) (tgt := [125779768599917]) (one := true) (ifs := [.cmp (.var 125779768599917) [.isnot] [.c .none]]) (ρ := [(500069396323, .int k), (32495402090325357, .loc m), (126943822178668, .loc li)]) (iter := .var 32495402090325357) (h := H) (C := (prg L sc ora).ctx n) (r_var rfl) hi (cg_go (hs _) (cf_if rfl (r_cmp (r_var rfl) e_c rfl) rfl (r_bi (rs_cons (r_var rfl) es_nil) rfl)) hp (cg_end (hs _)))
  have hk' : ¬ k + (1 + (x.length : Int)) > (100 : Int) * 100000 := by lia
  wtm_at "c"
end
noncomputable def pTest : ME := match f451.body with
  | [_, _, _, _, _, .whl c _, _] => c
  | _ => .bad
noncomputable def pBody : List MS := match f451.body with
  | [_, _, _, _, _, .whl _ b, _] => b
  | _ => []
noncomputable def pHead : List MS := f451.body.take 5
noncomputable def pTail : List MS := f451.body.drop 6
theorem f451_eq : f451 = ⟨[30787916450984560, 1954047348, 499984984428, 126943822178668], [], pHead ++ (.whl pTest pBody :: pTail)⟩ := rfl
structure SpE (ρ : Env) (p : Nat) (t : List Nat) (limit : Int) (li fl sp : Nat) (a c : Nat) (k : Int) : Prop where
  prog : Env.get ρ 30787916450984560 = some (.loc p)
  text : Env.get ρ 1954047348 = some (.str t)
  limit : Env.get ρ 499984984428 = some (.int limit)
  limits : Env.get ρ 126943822178668 = some (.loc li)
  fields : Env.get ρ 126875152509286 = some (.loc fl)
  at_ : Env.get ρ 29793 = some (.int a)
  cuts : Env.get ρ 1937012067 = some (.int c)
  kept : Env.get ρ 1953523051 = some (.int k)
  spent : Env.get ρ 500068348019 = some (.loc sp)
section
variable {L : Nat} {sc : List V} {ora : Nat → Nat → List V → MH → R V} {n : Nat} {H : MH} {t : List Nat}
theorem split_test {ρ : Env} {p li fl sp a c : Nat} {limit k : Int} (e : SpE ρ p t limit li fl sp a c k) :
    evT ((prg L sc ora).ctx n) pTest ρ H = some (decide (a < t.length) && (decide (limit ≤ 0) || decide ((c : Int) < limit - 1)), H) := by
  have k1 := e.at_
  have k2 := e.text
  have k3 := e.limit
  have k4 := e.cuts
  by_cases h1 : a < t.length
  · have h1' : (a : Int) < (t.length : Int) := by lia
    rw [decide_eq_true h1]
    by_cases h2 : limit ≤ 0
    · rw [decide_eq_true h2]
      unfold pTest f451; apply t_test; wtm_at "e"; exact rfl
    · rw [decide_eq_false h2]
      unfold pTest f451; apply t_test; wtm_at "e"; exact rfl
  · have h1' : ¬ (a : Int) < (t.length : Int) := by lia
    rw [decide_eq_false h1]
    unfold pTest f451; apply t_test; wtm_at "e"; exact rfl
theorem rh_self {H : MH} {r : Nat} {o : O} (h : H[r]? = some o) : RH H r o [] = H := by
  unfold RH
  obtain ⟨hlt, e⟩ := List.getElem?_eq_some_iff.mp h
  rw [List.append_nil, ← e, List.set_getElem_self]
theorem RH_nil {H : MH} {r : Nat} {o : O} : H.set r o = RH H r o [] := (List.append_nil _).symm
theorem a_extend {C : Ctx} {h : MH} {i j : Nat} {vs ws : List V} (hi : h[i]? = some (.list vs)) (hj : h[j]? = some (.list ws)) (hl : vs.length + ws.length ≤ top) : applyM C (.extend i) [.loc j] h = some (.none, h.set i (.list (vs ++ ws))) := a_ext hi hj hl
theorem m_extend {C : Ctx} {h : MH} {i : Nat} {vs : List V} (hi : h[i]? = some (.list vs)) : method C (.loc i) 110425311311973 h = some (.extend i) := m_ext hi
noncomputable def tEnv (ρ : Env) (g m c e : Nat) (k : Int) : Env := ((((ρ.put 126926843769447 (.loc g)).put 1937012067 (.int ((c : Int) + 1))).put 31073733908391266 (.loc m)).put 1953523051 (.int k)).put 29793 (.int e)
theorem tEnv_ok {ρ : Env} {p li fl sp a c g m e : Nat} {limit k k' : Int} (E : SpE ρ p t limit li fl sp a c k) : SpE (tEnv ρ g m c e k') p t limit li fl sp e (c + 1) k' :=
  ⟨gp_ne rfl (gp_ne rfl (gp_ne rfl (gp_ne rfl (gp_ne rfl E.prog)))), gp_ne rfl (gp_ne rfl (gp_ne rfl (gp_ne rfl (gp_ne rfl E.text)))), gp_ne rfl (gp_ne rfl (gp_ne rfl (gp_ne rfl (gp_ne rfl E.limit)))), gp_ne rfl (gp_ne rfl (gp_ne rfl (gp_ne rfl (gp_ne rfl E.limits)))),
    gp_ne rfl (gp_ne rfl (gp_ne rfl (gp_ne rfl (gp_ne rfl E.fields)))), gp_eq, gp_ne rfl (gp_ne rfl (gp_ne rfl gp_eq)), gp_ne rfl gp_eq, gp_ne rfl (gp_ne rfl (gp_ne rfl (gp_ne rfl (gp_ne rfl E.spent))))⟩
inductive TurnTo (p : Nat) (t : List Nat) (limit : Int) (li fl sp e c : Nat) (k : Int) (H1 : MH) (fs : List V) (x : R (Fl × Env)) : Prop
  | mk (ρ' H') (h1 : x = some ((.next, ρ'), H')) (h2 : SpE ρ' p t limit li fl sp e c k) (h3 : Gr [fl] H1 H') (h4 : H'[fl]? = some (.list fs)) : TurnTo p t limit li fl sp e c k H1 fs x
theorem split_turn {ρ : Env} {p li fl sp a c g s e : Nat} {limit k k' : Int} {fs rest bt : List V} {H1 : MH} {oc : O} (E : SpE ρ p t limit li fl sp a c k) (hs : ((prg L sc ora).ctx (n + 1)).call 404 [.loc p, .str t, .int a, .loc li, .int (a + 1), .none, .loc sp] H = some (.loc g, H1))
    (hg : H1[g]? = some (.list (.tup [.int s, .int e] :: rest))) (hfl : H1[fl]? = some (.list fs)) (hgf : g ≠ fl) (ha : a ≤ t.length) (hst : s ≤ t.length) (hlen : fs.length < 1000) (hbt : bt.length < 10)
    (hcomp : compGo (.loc H1.length) rest (H1.length + 1) (compF ((prg L sc ora).ctx (n + 1)) (.call (.c (.ref 432)) [.var 1954047348, .var 1919508848]) [1919508848] true [] ((ρ.put 126926843769447 (.loc g)).put 1937012067 (.int ((c : Int) + 1)))) rest (RH H1 fl (.list (fs ++ [.str (seg t a s)])) [.list rest, .list []]) = some (RH H1 fl (.list (fs ++ [.str (seg t a s)])) [.list rest, .list bt]))
    (hc : ((prg L sc ora).ctx (n + 1)).call 417 [.int k, .loc (H1.length + 1), .loc li] (RH H1 fl (.list (fs ++ [.str (seg t a s)])) [.list rest, .list bt]) = some (.int k', RH H1 fl (.list (fs ++ [.str (seg t a s)])) [.list rest, .list bt, oc])) :
    TurnTo p t limit li fl sp e (c + 1) k' H1 (fs ++ [.str (seg t a s)] ++ bt) (evSs ((prg L sc ora).ctx (n + 1)) pBody ρ H) := by
  have fll := lt_of_get hfl
  have k1 := E.prog
  have k2 := E.text
  have k3 := E.at_
  have k4 := E.limits
  have k5 := E.spent
  have k6 := E.cuts
  have k7 := E.fields
  have k8 := E.kept
  have hlt : fs.length < top := by unfold top; lia
  have hcutt : cut t (some (a : Int)) (some (s : Int)) none = seg t a s := cut_seg ha hst
  have hap : applyM ((prg L sc ora).ctx (n + 1)) (.append fl) [.str (seg t a s)] H1 = some (.none, RH H1 fl (.list (fs ++ [.str (seg t a s)])) []) := (a_append hfl hlt).trans (congrArg (fun z => some (V.none, z)) RH_nil)
  have hgg : ∀ T, (RH H1 fl (.list (fs ++ [.str (seg t a s)])) T)[g]? = some (.list (.tup [.int s, .int e] :: rest)) := fun T => (RH_old (lt_of_get hg) hgf).trans hg
  have hff : ∀ T, (RH H1 fl (.list (fs ++ [.str (seg t a s)])) T)[fl]? = some (.list (fs ++ [.str (seg t a s)])) := fun T => RH_r fll
  have hsl : evE ((prg L sc ora).ctx (n + 1)) false (.slice (.var 126926843769447) (.c (.int 1)) (.c .none) (.c .none)) ((ρ.put 126926843769447 (.loc g)).put 1937012067 (.int ((c : Int) + 1))) (RH H1 fl (.list (fs ++ [.str (seg t a s)])) []) = some (.loc H1.length, RH H1 fl (.list (fs ++ [.str (seg t a s)])) [.list rest]) := by
    have e1 := r_slice (t := false) (C := (prg L sc ora).ctx (n + 1)) (h := RH H1 fl (.list (fs ++ [.str (seg t a s)])) []) (r_var (gp_ne rfl gp_eq : Env.get ((ρ.put 126926843769447 (.loc g)).put 1937012067 (.int ((c : Int) + 1))) 126926843769447 = _)) e_c e_c e_c (sl_list (lo := .int 1) (hi := .none) (l := some 1) (u := none) (hgg []) rfl rfl (cut_from (i := 1) (by simp)))
    rw [RH_app, RH_len] at e1
    exact e1
  have hi : itemsOf ((prg L sc ora).ctx (n + 1)) (.loc H1.length) (RH H1 fl (.list (fs ++ [.str (seg t a s)])) [.list rest]) = some rest := it_list RH_new0
  have hcm : evE ((prg L sc ora).ctx (n + 1)) false (.comp (.call (.c (.ref 432)) [.var 1954047348, .var 1919508848]) [1919508848] true (.slice (.var 126926843769447) (.c (.int 1)) (.c .none) (.c .none)) []) ((ρ.put 126926843769447 (.loc g)).put 1937012067 (.int ((c : Int) + 1))) (RH H1 fl (.list (fs ++ [.str (seg t a s)])) []) = some (.loc (H1.length + 1), RH H1 fl (.list (fs ++ [.str (seg t a s)])) [.list rest, .list bt]) := by
    have hl : (RH H1 fl (.list (fs ++ [.str (seg t a s)])) [.list rest]).length = H1.length + 1 := RH_len
    have e1 := r_comp (t := false) (elt := .call (.c (.ref 432)) [.var 1954047348, .var 1919508848]) (tgt := [1919508848]) (one := true) (ifs := []) hsl hi (r := RH H1 fl (.list (fs ++ [.str (seg t a s)])) [.list rest, .list bt]) (by rw [hl, RH_app]; exact hcomp)
    rw [hl] at e1
    exact e1
  have hex : applyM ((prg L sc ora).ctx (n + 1)) (.extend fl) [.loc (H1.length + 1)] (RH H1 fl (.list (fs ++ [.str (seg t a s)])) [.list rest, .list bt, oc]) = some (.none, RH H1 fl (.list (fs ++ [.str (seg t a s)] ++ bt)) [.list rest, .list bt, oc]) :=
    (a_extend (hff _) RH_new (by simp [top]; lia)).trans (congrArg (fun z => some (V.none, z)) (RH_set_r fll))
  have hme := m_extend (C := (prg L sc ora).ctx (n + 1)) (hff [.list rest, .list bt, oc])
  have hg3 : (RH H1 fl (.list (fs ++ [.str (seg t a s)] ++ bt)) [.list rest, .list bt, oc])[g]? = some (.list (.tup [.int s, .int e] :: rest)) := (RH_old (lt_of_get hg) hgf).trans hg
  refine ⟨tEnv ρ g (H1.length + 1) c e k', RH H1 fl (.list (fs ++ [.str (seg t a s)] ++ bt)) [.list rest, .list bt, oc], ?_, tEnv_ok E, Gr.rh, RH_r fll⟩
  unfold pBody f451
  apply ts_go; wtm_at "t"
  apply ts_go; wtm_at "t"
  apply ts_go; wtm_at "t"
  apply ts_go; wtm_at "t"
  apply ts_go; apply t_asg; exact hcm
  apply ts_go; wtm_at "t"
  apply ts_go; wtm_at "t"
  apply ts_go; wtm_at "t"
  exact ss_nil
theorem split_turn0 {ρ : Env} {p li fl sp a c g s e : Nat} {limit k : Int} {fs : List V} {H1 : MH} (E : SpE ρ p t limit li fl sp a c k) (hs : ((prg L sc ora).ctx (n + 1)).call 404 [.loc p, .str t, .int a, .loc li, .int (a + 1), .none, .loc sp] H = some (.loc g, H1))
    (hg : H1[g]? = some (.list [.tup [.int s, .int e]])) (hfl : H1[fl]? = some (.list fs)) (hgf : g ≠ fl) (hli : H1[li]? = some limO) (hlf : li ≠ fl) (ha : a ≤ t.length) (hst : s ≤ t.length) (hlen : fs.length < 1000) (hk : k ≤ 10000000) :
    TurnTo p t limit li fl sp e (c + 1) k H1 (fs ++ [.str (seg t a s)]) (evSs ((prg L sc ora).ctx (n + 1)) pBody ρ H) := by
  have hc := count_c0 (L := L) (sc := sc) (ora := ora) (n := n) (H := RH H1 fl (.list (fs ++ [.str (seg t a s)])) [.list [], .list []]) (k := k) (m := H1.length + 1) (li := li) RH_new ((RH_old (lt_of_get hli) hlf).trans hli) hk
  rw [RH_app] at hc
  have e0 := split_turn (bt := []) E hs hg hfl hgf ha hst hlen (by decide) (cg_end (st_list RH_new0)) hc
  rw [List.append_nil] at e0
  exact e0
theorem split_turn1 {ρ : Env} {p li fl sp a c g s e : Nat} {limit k : Int} {fs : List V} {H1 : MH} (E : SpE ρ p t limit li fl sp a c k) (hs : ((prg L sc ora).ctx (n + 1)).call 404 [.loc p, .str t, .int a, .loc li, .int (a + 1), .none, .loc sp] H = some (.loc g, H1))
    (hg : H1[g]? = some (.list [.tup [.int s, .int e], .tup [.int s, .int e]])) (hfl : H1[fl]? = some (.list fs)) (hgf : g ≠ fl) (hli : H1[li]? = some limO) (hlf : li ≠ fl) (ha : a ≤ t.length) (hst : s ≤ t.length) (het : e ≤ t.length) (hlen : fs.length < 1000) (htl : t.length < 100) (hk : k ≤ 1000000) :
    TurnTo p t limit li fl sp e (c + 1) (k + (1 + (seg t s e).length)) H1 (fs ++ [.str (seg t a s)] ++ [.str (seg t s e)]) (evSs ((prg L sc ora).ctx (n + 1)) pBody ρ H) := by
  have k2 := E.text
  have hsl : (seg t s e).length ≤ t.length := by unfold seg; simp; omega
  have hc := count_c1 (L := L) (sc := sc) (ora := ora) (n := n) (H := RH H1 fl (.list (fs ++ [.str (seg t a s)])) [.list [.tup [.int s, .int e]], .list [.str (seg t s e)]]) (k := k) (x := seg t s e) (m := H1.length + 1) (li := li) RH_new ((RH_old (lt_of_get hli) hlf).trans hli) (by lia)
  rw [RH_app] at hc
  have hst2 : ∀ o, still (.loc H1.length) [.tup [.int s, .int e]] (RH H1 fl (.list (fs ++ [.str (seg t a s)])) [.list [.tup [.int s, .int e]], o]) = true := fun o => st_list RH_new0
  have hgt := group_text_c (L := L) (sc := sc) (ora := ora) (n := n) (H := RH H1 fl (.list (fs ++ [.str (seg t a s)])) [.list [.tup [.int s, .int e]], .list []]) hst het
  have hp : push (H1.length + 1) (.str (seg t s e)) (RH H1 fl (.list (fs ++ [.str (seg t a s)])) [.list [.tup [.int s, .int e]], .list []]) = some (RH H1 fl (.list (fs ++ [.str (seg t a s)])) [.list [.tup [.int s, .int e]], .list [.str (seg t s e)]]) := (p_list RH_new (by decide)).trans (congrArg some RH_set_new)
  exact split_turn (bt := [.str (seg t s e)]) E hs hg hfl hgf ha hst hlen (by simp) (cg_go (hst2 _) (cf_one rfl (r_call (rs_cons (r_var (gp_ne rfl (gp_ne rfl (gp_ne rfl k2)))) (rs_cons (r_var gp_eq) es_nil)) hgt)) hp (cg_end (hst2 _))) hc
theorem split_stop {ρ : Env} {p li fl sp a c : Nat} {limit k : Int} {H1 : MH} (E : SpE ρ p t limit li fl sp a c k) (hs : ((prg L sc ora).ctx (n + 1)).call 404 [.loc p, .str t, .int a, .loc li, .int (a + 1), .none, .loc sp] H = some (.none, H1)) :
    ∃ ρ', evSs ((prg L sc ora).ctx (n + 1)) pBody ρ H = some ((.brk, ρ'), H1) ∧ SpE ρ' p t limit li fl sp a c k := by
  have k1 := E.prog
  have k2 := E.text
  have k3 := E.at_
  have k4 := E.limits
  have k5 := E.spent
  refine ⟨ρ.put 126926843769447 .none, ?_, ⟨gp_ne rfl k1, gp_ne rfl k2, gp_ne rfl E.limit, gp_ne rfl k4, gp_ne rfl E.fields, gp_ne rfl k3, gp_ne rfl E.cuts, gp_ne rfl E.kept, gp_ne rfl k5⟩⟩
  unfold pBody f451
  apply ts_go; wtm_at "t"
  apply ts_brk; exact t_if_t (r_cmp (r_var gp_eq) e_c rfl) rfl (ts_brk s_brk)
noncomputable def splitL (mt : List Nat → Int → Nat → Option Nat) (t : List Nat) (ng : Nat) (limit : Int) : Nat → Nat → Nat → List (List Nat) × Nat × Nat
  | 0, a, c => ([], a, c)
  | d + 1, a, c => if a < t.length ∧ (limit ≤ 0 ∨ (c : Int) < limit - 1) then
      match find mt t (a + 1) a with
      | some q => (seg t a q.1 :: (List.replicate ng (seg t q.1 q.2) ++ (splitL mt t ng limit d q.2 (c + 1)).1), (splitL mt t ng limit d q.2 (c + 1)).2)
      | none => ([], a, c)
    else ([], a, c)
end
theorem srch_some {mt : List Nat → Int → Nat → Option Nat} {t : List Nat} {le : Int} : ∀ {k a : Nat} {q : Nat × Nat}, srch mt t le k a = some q → a ≤ q.1 ∧ q.1 < a + k ∧ mt t le q.1 = some q.2
  | 0, _, _, h => by cases h
  | k + 1, a, q, h => by
    unfold srch at h
    split at h
    · rename_i e he; cases h; exact ⟨Nat.le_refl _, by exact Nat.succ_le_succ (Nat.le_add_right _ _), he⟩
    · obtain ⟨h1, h2, h3⟩ := srch_some h; exact ⟨by lia, by lia, h3⟩
theorem find_some {mt : List Nat → Int → Nat → Option Nat} {t : List Nat} {le : Int} {a : Nat} {q : Nat × Nat} (h : find mt t le a = some q) : a ≤ q.1 ∧ mt t le q.1 = some q.2 := ⟨(srch_some h).1, (srch_some h).2.2⟩
structure PatSpec (rows : List V) (ng : Nat) (side : Option (Nat × List V)) (mt : List Nat → Int → Nat → Option Nat) : Prop where
  ok : MatchOK (ExOf side) rows ng mt
  ng1 : ng = 0 ∨ ng = 1
  mt : ∀ (t : List Nat) (le : Int) (s e : Nat), le ≤ (s : Int) + 1 → mt t le s = some e → s ≤ e ∧ le ≤ (e : Int) ∧ e ≤ t.length
structure PatB (H : MH) (p : Nat) (rows : List V) (ng : Nat) (side : Option (Nat × List V)) (B : Nat) : Prop where
  ex : ∃ pr nl, ProgAt H p pr rows ng ng nl ∧ p < B ∧ pr < B
  sd : SideAt side H
  sideB : ∀ q, side = some q → q.1 < B
theorem PatB.at {H : MH} {p : Nat} {rows : List V} {ng : Nat} {side : Option (Nat × List V)} {B : Nat} (x : PatB H p rows ng side B) : PatAt H p rows ng side := by
  obtain ⟨pr, nl, h, _⟩ := x.ex
  exact ⟨⟨pr, nl, h⟩, x.sd⟩
theorem PatAt.below {H : MH} {p : Nat} {rows : List V} {ng : Nat} {side : Option (Nat × List V)} (x : PatAt H p rows ng side) : PatB H p rows ng side H.length := by
  obtain ⟨pr, nl, h⟩ := x.ex
  refine ⟨⟨pr, nl, h, lt_of_get h.prog, lt_of_get h.rows⟩, x.side, fun q hq => ?_⟩
  subst hq
  exact lt_of_get x.side
theorem PatB.step {H H' : MH} {p : Nat} {rows : List V} {ng : Nat} {side : Option (Nat × List V)} {B : Nat} {X : List Nat} (x : PatB H p rows ng side B) (g : Gr X H H') (hX : ∀ j ∈ X, B ≤ j) : PatB H' p rows ng side B := by
  obtain ⟨pr, nl, h, h1, h2⟩ := x.ex
  refine ⟨⟨pr, nl, ⟨g.get h.prog fun m => ?_, g.get h.rows fun m => ?_⟩, h1, h2⟩, ?_, x.sideB⟩
  · have := hX _ m; lia
  · have := hX _ m; lia
  · have hs := x.sd
    cases side with
    | none => trivial
    | some q => exact g.get hs fun m => by have := hX _ m; have := x.sideB q rfl; lia
theorem PatB.mono {H : MH} {p : Nat} {rows : List V} {ng : Nat} {side : Option (Nat × List V)} {B B' : Nat} (x : PatB H p rows ng side B) (h : B ≤ B') : PatB H p rows ng side B' := by
  obtain ⟨pr, nl, h0, h1, h2⟩ := x.ex
  exact ⟨⟨pr, nl, h0, by lia, by lia⟩, x.sd, fun q hq => by have := x.sideB q hq; lia⟩
theorem search_b {L : Nat} {sc : List V} {ora : Nat → Nat → List V → MH → R V} {n : Nat} {H : MH} {t : List Nat} {rows : List V} {ng : Nat} {side : Option (Nat × List V)} {mt : List Nat → Int → Nat → Option Nat} (S : PatSpec rows ng side mt) {p li sp a : Nat} {le k0 : Int} (hp : PatAt H p rows ng side) (hli : H[li]? = some limO) (hsp : H[sp]? = some (.list [.int k0]))
    (ht : t.length < 100) (ha : a ≤ t.length) (hle : le ≤ a + 1) (hk : k0 + 4100 ≤ 1000000) :
    SrcTo H sp t.length ng k0 4100 (((prg L sc ora).ctx (n + 14)).call 404 [.loc p, .str t, .int a, .loc li, .int le, .none, .loc sp] H) (find mt t le a) := by
  obtain ⟨v, H', k, h1, h2, h3, h4, h5, h6⟩ := search_c (L := L) (sc := sc) (ora := ora) (n := n) S.ok hp hli hsp ht ha hle (by lia)
  exact ⟨v, H', k, h1, h2, h3, h4, by lia, h6⟩
section
variable {L : Nat} {sc : List V} {ora : Nat → Nat → List V → MH → R V} {n : Nat} {t : List Nat}
theorem txs_app {a b : List (List Nat)} : txs (a ++ b) = txs a ++ txs b := by simp [txs]
inductive SplTo (L : Nat) (sc : List V) (ora : Nat → Nat → List V → MH → R V) (n : Nat) (t : List Nat) (p li fl sp : Nat) (limit : Int) (d K : Nat) (ρ : Env) (H : MH) (fs : List (List Nat)) (r : List (List Nat) × Nat × Nat) : Prop
  | mk (ρ' H' k') (h1 : whileGo (evT ((prg L sc ora).ctx (n + 14)) pTest) (evSs ((prg L sc ora).ctx (n + 14)) pBody) K ρ H = some ((.next, ρ'), H')) (h2 : SpE ρ' p t limit li fl sp r.2.1 r.2.2 k') (h3 : Gr [fl, sp] H H') (h4 : H'[fl]? = some (.list (txs (fs ++ r.1)))) (h5 : r.2.1 ≤ t.length) (h6 : r.1.length ≤ 2 * d) : SplTo L sc ora n t p li fl sp limit d K ρ H fs r
theorem split_loop {rows : List V} {ng : Nat} {side : Option (Nat × List V)} {mt : List Nat → Int → Nat → Option Nat} (S : PatSpec rows ng side mt) {p li fl sp B : Nat} {limit : Int} (ht : t.length < 100) (hfB : B ≤ fl) (hsB : B ≤ sp) (hfs : fl ≠ sp) (hlB : li < B) :
    ∀ (d a c K : Nat) (ρ : Env) (H : MH) (k k0 : Int) (fs : List (List Nat)), t.length < a + d → a ≤ t.length → d < K → d ≤ 101 → SpE ρ p t limit li fl sp a c k → PatB H p rows ng side B → H[li]? = some limO → H[sp]? = some (.list [.int k0]) → H[fl]? = some (.list (txs fs)) →
      k0 + 4100 * d ≤ 1000000 → k + 101 * d ≤ 1000000 → fs.length + 2 * d < 900 →
      SplTo L sc ora n t p li fl sp limit d K ρ H fs (splitL mt t ng limit d a c) := by
  intro d
  induction d with
  | zero => intro a c K ρ H k k0 fs h1 h2; omega
  | succ d ih =>
    intro a c K ρ H k k0 fs h1 ha h2 h3 E hp hli hsp hfl hk0 hk hlen
    obtain ⟨K, rfl⟩ : ∃ j, K = j + 1 := ⟨K - 1, by lia⟩
    unfold splitL
    by_cases hc : a < t.length ∧ (limit ≤ 0 ∨ (c : Int) < limit - 1)
    · have htest : (decide (a < t.length) && (decide (limit ≤ 0) || decide ((c : Int) < limit - 1))) = true := by simpa using hc
      obtain ⟨v, H1, k1, e1, g1, hsp1, s1, s2, hres⟩ := search_b (L := L) (sc := sc) (ora := ora) (n := n) S hp.at hli hsp ht ha (le := a + 1) (Int.le_refl _) (by lia)
      have hfl1 := g1.get hfl (by simpa using hfs)
      have hli1 := g1.get hli (by simp; lia)
      simp only [hc, and_self, if_true]
      cases hf : find mt t (a + 1) a with
      | none =>
        rw [hf] at hres
        simp only [] at hres
        subst hres
        obtain ⟨ρ', e2, E'⟩ := split_stop (n := n + 13) E e1
        refine ⟨ρ', H1, k, ?_, E', g1.mono (by simp), by simpa using hfl1, ha, by simp⟩
        exact w_brk ((split_test E).trans (by rw [htest])) e2
      | some q =>
        rw [hf] at hres
        simp only [] at hres
        obtain ⟨hq1, g, rfl, hgl, hg⟩ := hres
        obtain ⟨hq2, hq3⟩ := find_some hf
        obtain ⟨hq4, hq6, hq5⟩ := S.mt _ _ _ _ (by lia) hq3
        have hgf : g ≠ fl := by have := lt_of_get hfl; lia
        have hlt : (txs fs).length < 1000 := by simp [txs]; lia
        have turn : ∃ ρ' H' k2, evSs ((prg L sc ora).ctx (n + 14)) pBody ρ H = some ((.next, ρ'), H') ∧ SpE ρ' p t limit li fl sp q.2 (c + 1) k2 ∧ k2 ≤ k + 101 ∧ Gr [fl] H1 H' ∧ H'[fl]? = some (.list (txs (fs ++ (seg t a q.1 :: List.replicate ng (seg t q.1 q.2))))) := by
          rcases S.ng1 with h0 | h0
          · subst h0
            obtain ⟨ρ', H', a1, a2, a3, a4⟩ := split_turn0 (n := n + 13) E e1 hg hfl1 hgf hli1 (by lia) ha hq1 hlt (by lia)
            exact ⟨ρ', H', k, a1, a2, by lia, a3, by rw [a4]; simp [txs]⟩
          · subst h0
            obtain ⟨ρ', H', a1, a2, a3, a4⟩ := split_turn1 (n := n + 13) E e1 hg hfl1 hgf hli1 (by lia) ha hq1 hq5 hlt ht (by lia)
            refine ⟨ρ', H', _, a1, a2, ?_, a3, by rw [a4]; simp [txs]⟩
            have : (seg t q.1 q.2).length ≤ t.length := by unfold seg; simp; lia
            lia
        obtain ⟨ρ2, H2, k2, e2, E2, hk2, g2, hfl2⟩ := turn
        have hp2 := (hp.step g1 (by simpa using hsB)).step g2 (by simpa using hfB)
        have hli2 := g2.get hli1 (by simp; lia)
        have hsp2 := g2.get hsp1 (by simpa using fun e => hfs e.symm)
        have hng : ng ≤ 1 := by rcases S.ng1 with h | h <;> (first | lia | omega)
        obtain ⟨ρ3, H3, k3, e3, E3, g3, hfl3, ha3, hl3⟩ := ih q.2 (c + 1) K ρ2 H2 k2 k1 _ (by lia) hq5 (by lia) (by lia) E2 hp2 hli2 hsp2 hfl2 (by lia) (by lia) (by simp; lia)
        refine ⟨ρ3, H3, k3, ?_, E3, ?_, ?_, ha3, by simp; lia⟩
        · exact w_go ((split_test E).trans (by rw [htest])) e2 e3
        · have gg := ((g1.mono (Y := [fl, sp]) (by simp)).trans g2 (Y := [fl]) (by simp)).trans g3 (by intro j hj _; exact hj)
          exact gg
        · rw [hfl3]; simp [txs]
    · have htest : (decide (a < t.length) && (decide (limit ≤ 0) || decide ((c : Int) < limit - 1))) = false := by
        rw [Bool.eq_false_iff]; intro h; exact hc (by simpa using h)
      rw [if_neg hc]
      refine ⟨ρ, H, k, ?_, E, .refl, by simpa using hfl, ha, by simp⟩
      exact w_end ((split_test E).trans (by rw [htest]))
noncomputable def splitF (mt : List Nat → Int → Nat → Option Nat) (t : List Nat) (ng : Nat) (limit : Int) : List (List Nat) :=
  if t.drop (splitL mt t ng limit (t.length + 1) 0 0).2.1 ≠ [] ∨ (0 < (splitL mt t ng limit (t.length + 1) 0 0).2.2 ∧ limit ≠ 0) then (splitL mt t ng limit (t.length + 1) 0 0).1 ++ [t.drop (splitL mt t ng limit (t.length + 1) 0 0).2.1]
  else if limit = 0 then dropEnds (splitL mt t ng limit (t.length + 1) 0 0).1 (splitL mt t ng limit (t.length + 1) 0 0).1.length else (splitL mt t ng limit (t.length + 1) 0 0).1
inductive ListTo (H : MH) (x : R V) (l : List V) : Prop
  | mk (g H') (h1 : x = some (.loc g, H')) (h2 : Gr [] H H') (h3 : H'[g]? = some (.list l)) : ListTo H x l
theorem split_c {H : MH} {rows : List V} {ng : Nat} {side : Option (Nat × List V)} {mt : List Nat → Int → Nat → Option Nat} (S : PatSpec rows ng side mt) {p li : Nat} {limit : Int} (hp : PatAt H p rows ng side) (hli : H[li]? = some limO) (ht : t.length < 100) :
    ListTo H (((prg L sc ora).ctx (n + 15)).call 451 [.loc p, .str t, .int limit, .loc li] H) (txs (splitF mt t ng limit)) := by
  have hlil := lt_of_get hli
  have hpb := hp.below
  have g0 : Gr [] H (H ++ [.list [], .list [.int 0]]) := Gr.app
  have E : SpE [(30787916450984560, .loc p), (1954047348, .str t), (499984984428, .int limit), (126943822178668, .loc li), (126875152509286, .loc H.length), (29793, .int (0 : Nat)), (1937012067, .int (0 : Nat)), (1953523051, .int 0), (500068348019, .loc (H.length + 1))] p t limit li H.length (H.length + 1) 0 0 0 :=
    ⟨by simp, by simp, by simp, by simp, by simp, by simp, by simp, by simp, by simp⟩
  obtain ⟨ρ', H', k', e1, E', g1, hfl, ha, hl⟩ := split_loop (L := L) (sc := sc) (ora := ora) (n := n) S (p := p) (li := li) (fl := H.length) (sp := H.length + 1) (B := H.length) (limit := limit) ht (Nat.le_refl _) (by exact Nat.le_succ _) (by exact Nat.ne_of_lt (Nat.lt_succ_self _)) hlil (t.length + 1) 0 0 turns _ (H ++ [.list [], .list [.int 0]]) 0 0 [] (by exact Nat.le_add_left _ _) (by exact Nat.zero_le _) (by unfold turns; lia) (by lia) E (hpb.step g0 (by simp)) (g0.get hli (by simp)) app_get app_get0 (by (first | lia | omega)) (by (first | lia | omega)) (by simp; lia)
  rw [List.nil_append] at hfl
  obtain ⟨g, G, e2, hg⟩ := end_fields_c (L := L) (sc := sc) (ora := ora) (n := n + 12) (rest := t.drop (splitL mt t ng limit (t.length + 1) 0 0).2.1) (c := decide (0 < (splitL mt t ng limit (t.length + 1) 0 0).2.2)) (limit := limit) hfl (by lia)
  have hcut : cut t (some ((splitL mt t ng limit (t.length + 1) 0 0).2.1 : Int)) none none = t.drop (splitL mt t ng limit (t.length + 1) 0 0).2.1 := cut_from ha
  refine ⟨g, H' ++ G, ?_, (g0.trans g1 (X := []) (Y := [H.length, H.length + 1]) (by intro j hj h; simp at hj; lia)).trans Gr.app (by simp), ?_⟩
  · have eh : evSs ((prg L sc ora).ctx (n + 14)) pHead [(30787916450984560, .loc p), (1954047348, .str t), (499984984428, .int limit), (126943822178668, .loc li)] H = some ((.next, [(30787916450984560, .loc p), (1954047348, .str t), (499984984428, .int limit), (126943822178668, .loc li), (126875152509286, .loc H.length), (29793, .int (0 : Nat)), (1937012067, .int (0 : Nat)), (1953523051, .int 0), (500068348019, .loc (H.length + 1))]), H ++ [.list [], .list [.int 0]]) :=
      ts_go (t_asg (r_list es_nil)) (ts_go (t_asg e_c) (ts_go (t_asg e_c) (ts_go (t_asg e_c) (ts_go (t_asg (r_listA (rs_cons e_c es_nil))) ss_nil))))
    have k1 := E'.fields
    have k2 := E'.text
    have k3 := E'.at_
    have k4 := E'.cuts
    have k5 := E'.limit
    have hq : decide (((splitL mt t ng limit (t.length + 1) 0 0).2.2 : Int) > 0) = decide (0 < (splitL mt t ng limit (t.length + 1) 0 0).2.2) := decide_eq_decide.mpr ⟨fun h => by lia, fun h => by lia⟩
    rw [← hq] at e2
    have et : evSs ((prg L sc ora).ctx (n + 14)) pTail ρ' H' = some ((.ret (.loc g), ρ'), H' ++ G) := by
      unfold pTail f451
      apply ts_ret
      wtm_at "t"
    exact (call_eq' (mf := f451) rfl (by decide)).trans (f_ret rfl (ts_app (a := pHead) (b := .whl pTest pBody :: pTail) eh (ts_go (t_whl e1) et)))
  · rw [hg]
    unfold splitF
    simp
end
noncomputable def aTest : ME := match f425.body with
  | [_, _, _, .whl c _, _] => c
  | _ => .bad
noncomputable def aBody : List MS := match f425.body with
  | [_, _, _, .whl _ b, _] => b
  | _ => []
noncomputable def aHead : List MS := f425.body.take 3
noncomputable def aTail : List MS := f425.body.drop 4
theorem f425_eq : f425 = ⟨[30787916450984560, 1954047348, 29793, 126943822178668, 2240446359306807501175], [.bool false], aHead ++ (.whl aTest aBody :: aTail)⟩ := rfl
noncomputable def leOf (w : Bool) (a : Nat) : Int := if w then (a : Int) + 1 else 0
noncomputable def spansL (mt : List Nat → Int → Nat → Option Nat) (t : List Nat) : Nat → Nat → Bool → List (Nat × Nat)
  | 0, _, _ => []
  | d + 1, a, w => match find mt t (leOf w a) a with
    | some q => q :: spansL mt t d q.2 (q.1 == q.2)
    | none => []
noncomputable def AllG (H : MH) (ng B : Nat) : List V → List (Nat × Nat) → Prop
  | [], [] => True
  | v :: vs, q :: qs => (∃ g, v = .loc g ∧ B ≤ g ∧ H[g]? = some (.list (List.replicate (ng + 1) (.tup [.int q.1, .int q.2])))) ∧ AllG H ng B vs qs
  | _, _ => False
theorem AllG.step {H H' : MH} {ng B : Nat} {X : List Nat} (g : Gr X H H') (hX : ∀ j ∈ X, j < B) : ∀ {vs : List V} {qs : List (Nat × Nat)}, AllG H ng B vs qs → AllG H' ng B vs qs
  | [], [], _ => trivial
  | v :: vs, q :: qs, ⟨⟨k, h1, h2, h3⟩, h4⟩ => ⟨⟨k, h1, h2, g.get h3 fun m => by have := hX _ m; lia⟩, AllG.step g hX h4⟩
  | [], _ :: _, h => h.elim
  | _ :: _, [], h => h.elim
theorem AllG.snoc {H : MH} {ng B : Nat} : ∀ {vs : List V} {qs : List (Nat × Nat)} {v : V} {q : Nat × Nat}, AllG H ng B vs qs → AllG H ng B [v] [q] → AllG H ng B (vs ++ [v]) (qs ++ [q])
  | [], [], _, _, _, h => h
  | _ :: vs, _ :: qs, _, _, ⟨h1, h2⟩, h => ⟨h1, AllG.snoc h2 h⟩
  | [], _ :: _, _, _, h, _ => h.elim
  | _ :: _, [], _, _, h, _ => h.elim
theorem AllG.len {H : MH} {ng B : Nat} : ∀ {vs : List V} {qs : List (Nat × Nat)}, AllG H ng B vs qs → vs.length = qs.length
  | [], [], _ => rfl
  | _ :: vs, _ :: qs, ⟨_, h2⟩ => by simp [AllG.len h2]
  | [], _ :: _, h => h.elim
  | _ :: _, [], h => h.elim
section
variable {L : Nat} {sc : List V} {ora : Nat → Nat → List V → MH → R V} {n : Nat} {H : MH} {t : List Nat}
theorem next_w {p li sp a : Nat} {w : Bool} {v : V} {H' : MH} (ha : a ≤ t.length) (hs : ((prg L sc ora).ctx n).call 404 [.loc p, .str t, .int a, .loc li, .int (leOf w a), .none, .loc sp] H = some (v, H')) :
    ((prg L sc ora).ctx (n + 1)).call 412 [.loc p, .str t, .int a, .bool w, .loc li, .none, .loc sp] H = some (v, H') := by
  have h : ¬ (a : Int) > (t.length : Int) := by lia
  cases w with
  | false =>
    have hs' : ((prg L sc ora).ctx n).call 404 [.loc p, .str t, .int a, .loc li, .int 0, .none, .loc sp] H = some (v, H') := hs
    wtm_at "c"
  | true =>
    have hs' : ((prg L sc ora).ctx n).call 404 [.loc p, .str t, .int a, .loc li, .int ((a : Int) + 1), .none, .loc sp] H = some (v, H') := hs
    wtm_at "c"
noncomputable def IsM (H : MH) (ng B : Nat) (v : V) (f : Option (Nat × Nat)) : Prop := match f with
  | none => v = .none
  | some q => AllG H ng B [v] [q]
inductive NxtTo (H : MH) (sp ng B : Nat) (k0 : Int) (x : R V) (f : Option (Nat × Nat)) : Prop
  | mk (v H' k) (h1 : x = some (v, H')) (h2 : Gr [sp] H H') (h3 : H'[sp]? = some (.list [.int k])) (h4 : k0 ≤ k) (h5 : k ≤ k0 + 4100) (h6 : IsM H' ng B v f) : NxtTo H sp ng B k0 x f
theorem next_b {rows : List V} {ng : Nat} {side : Option (Nat × List V)} {mt : List Nat → Int → Nat → Option Nat} (S : PatSpec rows ng side mt) {p li sp a B : Nat} {w : Bool} {k0 : Int} (hp : PatAt H p rows ng side) (hli : H[li]? = some limO) (hsp : H[sp]? = some (.list [.int k0]))
    (ht : t.length < 100) (ha : a ≤ t.length) (hk : k0 + 4100 ≤ 1000000) (hB : B ≤ H.length) :
    NxtTo H sp ng B k0 (((prg L sc ora).ctx (n + 15)).call 412 [.loc p, .str t, .int a, .bool w, .loc li, .none, .loc sp] H) (find mt t (leOf w a) a) := by
  obtain ⟨v, H', k, e1, g1, h1, h2, h3, h4⟩ := search_b (L := L) (sc := sc) (ora := ora) (n := n) S hp hli hsp ht ha (le := leOf w a) (by unfold leOf; split <;> (first | lia | omega)) hk
  refine ⟨v, H', k, next_w ha e1, g1, h1, h2, h3, ?_⟩
  cases hf : find mt t (leOf w a) a with
  | none => rw [hf] at h4; exact h4
  | some q =>
    rw [hf] at h4
    obtain ⟨_, g, rfl, hg, hh⟩ := h4
    exact ⟨⟨g, rfl, by lia, hh⟩, trivial⟩
structure AmE (ρ : Env) (p : Nat) (t : List Nat) (li fo sp : Nat) (v : V) : Prop where
  prog : Env.get ρ 30787916450984560 = some (.loc p)
  text : Env.get ρ 1954047348 = some (.str t)
  limits : Env.get ρ 126943822178668 = some (.loc li)
  found : Env.get ρ 431349919590 = some (.loc fo)
  spent : Env.get ρ 500068348019 = some (.loc sp)
  groups : Env.get ρ 126926843769447 = some v
noncomputable def meas (t : List Nat) (a : Nat) (w : Bool) : Nat := 2 * (t.length - a) + (if w then 0 else 1)
theorem meas_step {rows : List V} {ng : Nat} {side : Option (Nat × List V)} {mt : List Nat → Int → Nat → Option Nat} (S : PatSpec rows ng side mt) {a : Nat} {w : Bool} {q : Nat × Nat} (ha : a ≤ t.length) (hf : find mt t (leOf w a) a = some q) : a ≤ q.1 ∧ q.1 ≤ q.2 ∧ q.2 ≤ t.length ∧ meas t q.2 (q.1 == q.2) < meas t a w := by
  obtain ⟨h1, h2⟩ := find_some hf
  obtain ⟨h3, h4, h5⟩ := S.mt _ _ _ _ (by unfold leOf; split <;> (first | lia | omega)) h2
  refine ⟨h1, h3, h5, ?_⟩
  unfold meas
  unfold leOf at h4
  cases w with
  | true =>
    simp only [if_true] at h4
    split <;> (first | lia | omega)
  | false =>
    by_cases he : q.1 = q.2
    · simp [he]; lia
    · simp [he]; lia
inductive AmTo (L : Nat) (sc : List V) (ora : Nat → Nat → List V → MH → R V) (n : Nat) (ng fo sp K : Nat) (ρ : Env) (H : MH) (r : List (Nat × Nat)) : Prop
  | mk (ρ' H' fs') (h1 : whileGo (evT ((prg L sc ora).ctx (n + 15)) aTest) (evSs ((prg L sc ora).ctx (n + 15)) aBody) K ρ H = some ((.next, ρ'), H')) (h2 : Env.get ρ' 431349919590 = some (.loc fo)) (h3 : Gr [fo, sp] H H') (h4 : H'[fo]? = some (.list fs')) (h5 : AllG H' ng (sp + 1) fs' r) : AmTo L sc ora n ng fo sp K ρ H r
theorem all_loop {rows : List V} {ng : Nat} {side : Option (Nat × List V)} {mt : List Nat → Int → Nat → Option Nat} (S : PatSpec rows ng side mt) {p li fo sp B : Nat} (ht : t.length < 100) (hfB : B ≤ fo) (hsB : B ≤ sp) (hfs : fo < sp) (hlB : li < B) :
    ∀ (d a K : Nat) (w : Bool) (ρ : Env) (H : MH) (v : V) (k0 : Int) (fs : List V) (qs : List (Nat × Nat)), meas t a w < d → a ≤ t.length → d < K → d ≤ 210 → AmE ρ p t li fo sp v → PatB H p rows ng side B → H[li]? = some limO → H[sp]? = some (.list [.int k0]) → H[fo]? = some (.list fs) → AllG H ng (sp + 1) fs qs →
      IsM H ng (sp + 1) v (find mt t (leOf w a) a) → k0 + 4100 * d ≤ 1000000 → fs.length + d < 900 →
      AmTo L sc ora n ng fo sp K ρ H (qs ++ spansL mt t d a w) := by
  intro d
  induction d with
  | zero => intro a K w ρ H v k0 fs qs h1; lia
  | succ d ih =>
    intro a K w ρ H v k0 fs qs h1 ha h2 h3 E hp hli hsp hfo hG hv hk0 hlen
    obtain ⟨K, rfl⟩ : ∃ j, K = j + 1 := ⟨K - 1, by lia⟩
    unfold spansL
    cases hf : find mt t (leOf w a) a with
    | none =>
      rw [hf] at hv
      have hv : v = .none := hv
      subst hv
      refine ⟨ρ, H, fs, ?_, E.found, .refl, hfo, by simpa using hG⟩
      have k1 := E.groups
      unfold aTest f425
      apply w_end; apply t_test; wtm_at "e"; exact rfl
    | some q =>
      rw [hf] at hv
      obtain ⟨⟨g, rfl, hgB, hg⟩, _⟩ := hv
      obtain ⟨hq1, hq2, hq3, hq4⟩ := meas_step S ha hf
      have fol := lt_of_get hfo
      have hlt : fs.length < top := by unfold top; lia
      have g1 : Gr [fo] H (H.set fo (.list (fs ++ [.loc g]))) := Gr.set
      have hgf : ¬ fo = g := by lia
      have hp1 := hp.step g1 (by simpa using hfB)
      obtain ⟨v2, H2, k2, e2, g2, hsp2, s1, s2, hM2⟩ := next_b (L := L) (sc := sc) (ora := ora) (n := n) (w := (q.1 == q.2)) (B := sp + 1) S hp1.at (g1.get hli (by simp; lia)) (g1.get hsp (by simp; lia)) ht hq3 (by lia) (by have := lt_of_get hsp; simp; lia)
      have gg : Gr [fo, sp] H H2 := (g1.mono (Y := [fo, sp]) (by simp)).trans g2 (by simp)
      have hfo2 : H2[fo]? = some (.list (fs ++ [.loc g])) := g2.get (List.getElem?_set_self fol) (by simp; lia)
      have hG2 : AllG H2 ng (sp + 1) (fs ++ [.loc g]) (qs ++ [q]) := AllG.step gg (by intro j hj; simp at hj; lia) (AllG.snoc hG ⟨⟨g, rfl, hgB, hg⟩, trivial⟩)
      have i0 : PySem.seqIndex? 0 (ng + 1) = some 0 := seqIndex_0 (by exact Nat.succ_pos _)
      have hbeq : decide ((q.1 : Int) = (q.2 : Int)) = (q.1 == q.2) := by
        by_cases h : q.1 = q.2
        · simp [h]
        · have h2 : ¬ (q.1 : Int) = (q.2 : Int) := by lia
          rw [decide_eq_false h2]
          exact (beq_eq_false_iff_ne.mpr h).symm
      have z1 := E.groups
      have z2 := E.found
      have z3 := E.prog
      have z4 := E.text
      have z5 := E.limits
      have z6 := E.spent
      have hap := a_append (C := (prg L sc ora).ctx (n + 15)) (v := .loc g) hfo hlt
      have hg2 : (H.set fo (.list (fs ++ [.loc g])))[g]? = some (.list (.tup [.int q.1, .int q.2] :: List.replicate ng (.tup [.int q.1, .int q.2]))) := (List.getElem?_set_ne hgf).trans hg
      rw [← hbeq] at e2
      have hbody : evSs ((prg L sc ora).ctx (n + 15)) aBody ρ H = some ((.next, (((ρ.put 474214786402 (.int q.1)).put 6581861 (.int q.2)).put 126926843769447 v2)), H2) := by
        unfold aBody f425
        wtm_at "ts"
      rw [hbeq] at e2
      obtain ⟨ρ3, H3, fs3, e3, hf3, g3, hfo3, hG3⟩ := ih q.2 K (q.1 == q.2) (((ρ.put 474214786402 (.int q.1)).put 6581861 (.int q.2)).put 126926843769447 v2) H2 v2 k2 (fs ++ [.loc g]) (qs ++ [q]) (by lia) hq3 (by lia) (by lia) ⟨by simp [E.prog], by simp [E.text], by simp [E.limits], by simp [E.found], by simp [E.spent], by simp⟩ (hp1.step g2 (by simpa using hsB)) (gg.get hli (by simp; lia)) hsp2 hfo2 hG2 hM2 (by lia) (by simp; lia)
      refine ⟨ρ3, H3, fs3, ?_, hf3, gg.trans g3 (fun j hj _ => hj), hfo3, by rw [List.append_assoc] at hG3; exact hG3⟩
      have htest : evT ((prg L sc ora).ctx (n + 15)) aTest ρ H = some (true, H) := by
        unfold aTest f425
        apply t_test; wtm_at "e"; exact rfl
      exact w_go htest hbody e3
inductive AllTo (H : MH) (ng : Nat) (x : R V) (l : List (Nat × Nat)) : Prop
  | mk (f H' fs B) (h1 : x = some (.loc f, H')) (h2 : Gr [] H H') (h3 : H'[f]? = some (.list fs)) (h4 : AllG H' ng B fs l) : AllTo H ng x l
theorem all_c {rows : List V} {ng : Nat} {side : Option (Nat × List V)} {mt : List Nat → Int → Nat → Option Nat} (S : PatSpec rows ng side mt) {p li : Nat} (hp : PatAt H p rows ng side) (hli : H[li]? = some limO) (ht : t.length < 100) :
    AllTo H ng (((prg L sc ora).ctx (n + 16)).call 425 [.loc p, .str t, .int 0, .loc li] H) (spansL mt t (2 * t.length + 2) 0 false) := by
  have hlil := lt_of_get hli
  have g0 : Gr [] H (H ++ [.list [], .list [.int 0]]) := Gr.app
  have hpb := hp.below.step g0 (by simp)
  obtain ⟨v, H1, k1, e1, g1, hsp1, s1, s2, hM⟩ := next_b (L := L) (sc := sc) (ora := ora) (n := n) (a := 0) (w := false) (B := H.length + 2) (sp := H.length + 1) (k0 := 0) S hpb.at (g0.get hli (by simp)) app_get ht (by exact Nat.zero_le _) (by exact Int.natCast_nonneg _) (by simp)
  have hfo1 : H1[H.length]? = some (.list []) := g1.get app_get0 (by simp)
  have gA : Gr [] H H1 := g0.trans g1 (by intro j hj h; simp at hj; lia)
  obtain ⟨ρ', H', fs', e2, hf, g2, hfo, hG⟩ := all_loop (L := L) (sc := sc) (ora := ora) (n := n) S (p := p) (li := li) (fo := H.length) (sp := H.length + 1) (B := H.length) ht (Nat.le_refl _) (by exact Nat.le_succ _) (by exact Nat.lt_succ_self _) hlil (2 * t.length + 2) 0 turns false
    [(30787916450984560, .loc p), (1954047348, .str t), (29793, .int 0), (126943822178668, .loc li), (2240446359306807501175, .bool false), (431349919590, .loc H.length), (500068348019, .loc (H.length + 1)), (126926843769447, v)] H1 v k1 [] [] (by unfold meas; simp) (by lia) (by unfold turns; lia) (by lia) ⟨by simp, by simp, by simp, by simp, by simp, by simp⟩ (hpb.step g1 (by simp)) (gA.get hli (by simp)) hsp1 hfo1 trivial hM (by lia) (by simp; lia)
  refine ⟨H.length, H', fs', H.length + 1 + 1, ?_, gA.trans g2 (by intro j hj h; simp at hj; lia), hfo, by rw [List.nil_append] at hG; exact hG⟩
  have eh : evSs ((prg L sc ora).ctx (n + 15)) aHead [(30787916450984560, .loc p), (1954047348, .str t), (29793, .int 0), (126943822178668, .loc li), (2240446359306807501175, .bool false)] H = some ((.next, [(30787916450984560, .loc p), (1954047348, .str t), (29793, .int 0), (126943822178668, .loc li), (2240446359306807501175, .bool false), (431349919590, .loc H.length), (500068348019, .loc (H.length + 1)), (126926843769447, v)]), H1) := by
    have e1' : ((prg L sc ora).ctx (n + 15)).call 412 [.loc p, .str t, .int 0, .bool false, .loc li, .none, .loc (H.length + 1)] (H ++ [.list [], .list [.int 0]]) = some (v, H1) := e1
    apply ts_go (t_asg (r_list es_nil))
    apply ts_go (t_asg (r_listA (rs_cons e_c es_nil)))
    apply ts_go
    · apply t_asg
      apply r_call
      · wtm_at "es"
      · exact e1'
    exact ss_nil
  exact (call_eq' (mf := f425) rfl (by decide)).trans (f_ret rfl (ts_app (a := aHead) (b := .whl aTest aBody :: aTail) eh (ts_go (t_whl e2) (ts_ret (t_ret (r_var hf))))))
end
noncomputable def uTest : ME := match f459.body with
  | [_, _, _, _, _, .whl c _, _] => c
  | _ => .bad
noncomputable def uBody : List MS := match f459.body with
  | [_, _, _, _, _, .whl _ b, _] => b
  | _ => []
noncomputable def uHead : List MS := f459.body.take 5
noncomputable def uTail : List MS := f459.body.drop 6
theorem f459_eq : f459 = ⟨[30787916450984560, 1954047348, 28538242730059122, 1999265653641409688425, 126943822178668, 474214786402], [.none], uHead ++ (.whl uTest uBody :: uTail)⟩ := rfl
noncomputable def subL (mt : List Nat → Int → Nat → Option Nat) (t : List Nat) (rep : Nat → Nat → List Nat) (glob : Bool) : Nat → Nat → Bool → List (List Nat) × Nat × Nat
  | 0, a, _ => ([], a, 0)
  | d + 1, a, w => match find mt t (leOf w a) a with
    | none => ([], a, 0)
    | some q => if glob then (seg t a q.1 :: rep q.1 q.2 :: (subL mt t rep glob d q.2 (q.1 == q.2)).1, (subL mt t rep glob d q.2 (q.1 == q.2)).2.1, (subL mt t rep glob d q.2 (q.1 == q.2)).2.2 + 1)
      else ([seg t a q.1, rep q.1 q.2], q.2, 1)
structure SuE (ρ : Env) (p : Nat) (t : List Nat) (f : Nat) (glob : Bool) (li pa : Nat) (a : Nat) (c : Int) (sp : Nat) (v : V) : Prop where
  prog : Env.get ρ 30787916450984560 = some (.loc p)
  text : Env.get ρ 1954047348 = some (.str t)
  repl : Env.get ρ 28538242730059122 = some (.ref f)
  glob : Env.get ρ 1999265653641409688425 = some (.bool glob)
  limits : Env.get ρ 126943822178668 = some (.loc li)
  parts : Env.get ρ 495874892144 = some (.loc pa)
  done : Env.get ρ 1701736292 = some (.int a)
  count : Env.get ρ 500069396323 = some (.int c)
  spent : Env.get ρ 500068348019 = some (.loc sp)
  groups : Env.get ρ 126926843769447 = some v
noncomputable def RepOK (L : Nat) (sc : List V) (ora : Nat → Nat → List V → MH → R V) (t : List Nat) (f : Nat) (rep : Nat → Nat → List Nat) : Prop :=
  ∀ n H g s e rest, H[g]? = some (.list (.tup [.int (s : Nat), .int (e : Nat)] :: rest)) → s ≤ t.length → e ≤ t.length → ((prg L sc ora).ctx (n + 2)).call f [.loc g] H = some (.str (rep s e), H)
section
variable {L : Nat} {sc : List V} {ora : Nat → Nat → List V → MH → R V} {n : Nat} {H : MH} {t : List Nat}
theorem mark_c : RepOK L sc ora t 954 (fun _ _ => [35]) := by
  intro n H g s e rest h _ _
  exact c_ret rfl rfl (zp_cons zp_nil) (ts_ret (t_ret e_c))
theorem SuE.turn {ρ : Env} {p : Nat} {t : List Nat} {f : Nat} {glob : Bool} {li pa a : Nat} {c : Int} {sp : Nat} {v : V} (E : SuE ρ p t f glob li pa a c sp v) (x y : V) (b : Nat) (c' : Int) : SuE ((((ρ.put 500153084262 x).put 6581861 y).put 500069396323 (.int c')).put 1701736292 (.int b)) p t f glob li pa b c' sp v :=
  have k {z : Nat} {o : Option V} (h1 : Nat.beq 500153084262 z = false) (h2 : Nat.beq 6581861 z = false) (h3 : Nat.beq 500069396323 z = false) (h4 : Nat.beq 1701736292 z = false) (e : Env.get ρ z = o) : Env.get ((((ρ.put 500153084262 x).put 6581861 y).put 500069396323 (.int c')).put 1701736292 (.int b)) z = o := gp_ne h4 (gp_ne h3 (gp_ne h2 (gp_ne h1 e)))
  ⟨k rfl rfl rfl rfl E.prog, k rfl rfl rfl rfl E.text, k rfl rfl rfl rfl E.repl, k rfl rfl rfl rfl E.glob, k rfl rfl rfl rfl E.limits, k rfl rfl rfl rfl E.parts, gp_eq, gp_ne rfl gp_eq, k rfl rfl rfl rfl E.spent, k rfl rfl rfl rfl E.groups⟩
theorem SuE.next {ρ : Env} {p : Nat} {t : List Nat} {f : Nat} {glob : Bool} {li pa a : Nat} {c : Int} {sp : Nat} {v : V} (E : SuE ρ p t f glob li pa a c sp v) (w : V) : SuE (ρ.put 126926843769447 w) p t f glob li pa a c sp w :=
  ⟨gp_ne rfl E.prog, gp_ne rfl E.text, gp_ne rfl E.repl, gp_ne rfl E.glob, gp_ne rfl E.limits, gp_ne rfl E.parts, gp_ne rfl E.done, gp_ne rfl E.count, gp_ne rfl E.spent, gp_eq⟩
inductive SuTo (L : Nat) (sc : List V) (ora : Nat → Nat → List V → MH → R V) (n : Nat) (t : List Nat) (p f pa sp li : Nat) (glob : Bool) (K : Nat) (ρ : Env) (H : MH) (c : Int) (fs : List (List Nat)) (r : List (List Nat) × Nat × Nat) : Prop
  | mk (ρ' H' v') (h1 : whileGo (evT ((prg L sc ora).ctx (n + 15)) uTest) (evSs ((prg L sc ora).ctx (n + 15)) uBody) K ρ H = some ((.next, ρ'), H')) (h2 : SuE ρ' p t f glob li pa r.2.1 (c + r.2.2) sp v') (h3 : Gr [pa, sp] H H') (h4 : H'[pa]? = some (.list (txs (fs ++ r.1)))) (h5 : r.2.1 ≤ t.length) : SuTo L sc ora n t p f pa sp li glob K ρ H c fs r
theorem sub_loop {rows : List V} {ng : Nat} {side : Option (Nat × List V)} {mt : List Nat → Int → Nat → Option Nat} (S : PatSpec rows ng side mt) {p li f pa sp B : Nat} {glob : Bool} {rep : Nat → Nat → List Nat} (hR : RepOK L sc ora t f rep) (ht : t.length < 100) (hfB : B ≤ pa) (hsB : B ≤ sp) (hfs : pa < sp) (hlB : li < B) :
    ∀ (d a K : Nat) (w : Bool) (ρ : Env) (H : MH) (v : V) (k0 c : Int) (fs : List (List Nat)), meas t a w < d → a ≤ t.length → d < K → d ≤ 210 → SuE ρ p t f glob li pa a c sp v → PatB H p rows ng side B → H[li]? = some limO → H[sp]? = some (.list [.int k0]) → H[pa]? = some (.list (txs fs)) →
      IsM H ng (sp + 1) v (find mt t (leOf w a) a) → k0 + 4100 * d ≤ 1000000 → fs.length + 2 * d < 900 →
      SuTo L sc ora n t p f pa sp li glob K ρ H c fs (subL mt t rep glob d a w) := by
  intro d
  induction d with
  | zero => intro a K w ρ H v k0 c fs h1; lia
  | succ d ih =>
    intro a K w ρ H v k0 c fs h1 ha h2 h3 E hp hli hsp hpa hv hk0 hlen
    obtain ⟨K, rfl⟩ : ∃ j, K = j + 1 := ⟨K - 1, by lia⟩
    unfold subL
    cases hf : find mt t (leOf w a) a with
    | none =>
      rw [hf] at hv
      have hv : v = .none := hv
      subst hv
      refine ⟨ρ, H, .none, ?_, by simpa using E, .refl, by simpa using hpa, ha⟩
      have z1 := E.groups
      unfold uTest f459
      apply w_end; apply t_test; wtm_at "e"; exact rfl
    | some q =>
      rw [hf] at hv
      obtain ⟨⟨g, rfl, hgB, hg⟩, _⟩ := hv
      obtain ⟨hq1, hq2, hq3, hq4⟩ := meas_step S ha hf
      have pal := lt_of_get hpa
      have hpg : ¬ pa = g := by lia
      have hlt : (txs fs).length < top := by simp [txs, top]; lia
      have hlt2 : (txs fs).length + 1 < top := by simp [txs, top]; lia
      have hcut : cut t (some (a : Int)) (some (q.1 : Int)) none = seg t a q.1 := cut_seg ha (by lia)
      have hps : ∀ o, (H.set pa o)[pa]? = some o := fun o => List.getElem?_set_self pal
      have hg0 : H[g]? = some (.list (.tup [.int q.1, .int q.2] :: List.replicate ng (.tup [.int q.1, .int q.2]))) := hg
      have hg1 : ∀ o, (H.set pa o)[g]? = some (.list (List.replicate (ng + 1) (.tup [.int q.1, .int q.2]))) := fun o => by rw [List.getElem?_set_ne hpg]; exact hg
      have hrep := hR (n + 13) (H.set pa (.list (txs fs ++ [.str (seg t a q.1)]))) g q.1 q.2 (List.replicate ng (.tup [.int q.1, .int q.2])) (hg1 _) (by lia) hq3
      have z1 := E.groups
      have z2 := E.parts
      have z3 := E.prog
      have z4 := E.text
      have z5 := E.limits
      have z6 := E.spent
      have z7 := E.count
      have z8 := E.done
      have z9 := E.repl
      have z10 := E.glob
      have hap1 := a_append (C := (prg L sc ora).ctx (n + 15)) (v := .str (seg t a q.1)) hpa hlt
      have hap2 : applyM ((prg L sc ora).ctx (n + 15)) (.append pa) [.str (rep q.1 q.2)] (H.set pa (.list (txs fs ++ [.str (seg t a q.1)]))) = some (.none, H.set pa (.list (txs fs ++ [.str (seg t a q.1), .str (rep q.1 q.2)]))) := by
        rw [a_append (hps _) (by rw [List.length_append]; exact hlt2), List.set_set, List.append_assoc]; rfl
      have hm2 := m_append (C := (prg L sc ora).ctx (n + 15)) (hps (.list (txs fs ++ [.str (seg t a q.1)])))
      have htest : evT ((prg L sc ora).ctx (n + 15)) uTest ρ H = some (true, H) := by
        unfold uTest f459
        apply t_test; wtm_at "e"; exact rfl
      have g1 : Gr [pa] H (H.set pa (.list (txs fs ++ [.str (seg t a q.1), .str (rep q.1 q.2)]))) := Gr.set
      have hset : txs fs ++ [.str (seg t a q.1), .str (rep q.1 q.2)] = txs (fs ++ [seg t a q.1, rep q.1 q.2]) := by simp [txs]
      cases glob with
      | false =>
        refine ⟨(((((ρ.put 500153084262 (.int q.1)).put 6581861 (.int q.2)).put 500069396323 (.int (c + 1)))).put 1701736292 (.int q.2)), H.set pa (.list (txs fs ++ [.str (seg t a q.1), .str (rep q.1 q.2)])), .loc g, ?_, ?_, g1.mono (by simp), ?_, hq3⟩
        · refine w_brk htest ?_
          unfold uBody f459
          wtm_at "ts"
        · exact E.turn _ _ _ _
        · rw [List.getElem?_set_self pal, hset]; rfl
      | true =>
        have hp1 := hp.step g1 (by simpa using hfB)
        obtain ⟨v2, H2, k2, e2, g2, hsp2, s1, s2, hM2⟩ := next_b (L := L) (sc := sc) (ora := ora) (n := n) (w := (q.1 == q.2)) (B := sp + 1) S hp1.at (g1.get hli (by simp; lia)) (g1.get hsp (by simp; lia)) ht hq3 (by lia) (by have := lt_of_get hsp; simp; lia)
        have gg : Gr [pa, sp] H H2 := (g1.mono (Y := [pa, sp]) (by simp)).trans g2 (by simp)
        have hpa2 : H2[pa]? = some (.list (txs (fs ++ [seg t a q.1, rep q.1 q.2]))) := g2.get (by rw [List.getElem?_set_self pal, hset]) (by simp; lia)
        have hbeq : decide ((q.1 : Int) = (q.2 : Int)) = (q.1 == q.2) := by
          by_cases h : q.1 = q.2
          · simp [h]
          · have h2 : ¬ (q.1 : Int) = (q.2 : Int) := by lia
            rw [decide_eq_false h2]
            exact (beq_eq_false_iff_ne.mpr h).symm
        rw [← hbeq] at e2
        have hbody : evSs ((prg L sc ora).ctx (n + 15)) uBody ρ H = some ((.next, ((((((ρ.put 500153084262 (.int q.1)).put 6581861 (.int q.2)).put 500069396323 (.int (c + 1)))).put 1701736292 (.int q.2)).put 126926843769447 v2)), H2) := by
          unfold uBody f459
          wtm_at "ts"
        rw [hbeq] at e2
        obtain ⟨ρ3, H3, v3, e3, E3, g3, hpa3, ha3⟩ := ih q.2 K (q.1 == q.2) ((((((ρ.put 500153084262 (.int q.1)).put 6581861 (.int q.2)).put 500069396323 (.int (c + 1)))).put 1701736292 (.int q.2)).put 126926843769447 v2) H2 v2 k2 (c + 1) _ (by lia) hq3 (by lia) (by lia) ((E.turn _ _ _ _).next _) (hp1.step g2 (by simpa using hsB)) (gg.get hli (by simp; lia)) hsp2 hpa2 hM2 (by lia) (by simp; lia)
        simp only [if_true]
        refine ⟨ρ3, H3, v3, ?_, ?_, gg.trans g3 (fun j hj _ => hj), ?_, ha3⟩
        · exact w_go htest hbody e3
        · rw [show c + (((subL mt t rep true d q.2 (q.1 == q.2)).2.2 + 1 : Nat) : Int) = c + 1 + ((subL mt t rep true d q.2 (q.1 == q.2)).2.2 : Int) by lia]
          exact E3
        · rw [hpa3]; simp [txs]
theorem join_txs : ∀ (ps : List (List Nat)), joinTexts [] (txs ps) = some ps.flatten
  | [] => rfl
  | [p] => by rw [List.flatten_singleton]; rfl
  | p :: q :: r => mp1 (join_txs (q :: r))
theorem cost_txs : ∀ (ps : List (List Nat)), joinCost [] (txs ps) = ps.flatten.length
  | [] => rfl
  | p :: r => (congrArg (p.length + ·) (cost_txs r)).trans List.length_append.symm
theorem sub_c {rows : List V} {ng : Nat} {side : Option (Nat × List V)} {mt : List Nat → Int → Nat → Option Nat} (S : PatSpec rows ng side mt) {p li f : Nat} {glob : Bool} {rep : Nat → Nat → List Nat} (hR : RepOK L sc ora t f rep) (hp : PatAt H p rows ng side) (hli : H[li]? = some limO) (ht : t.length < 100)
    (hsz : (subL mt t rep glob (2 * t.length + 2) 0 false).1.flatten.length ≤ 100000) :
    ∃ H', ((prg L sc ora).ctx (n + 16)).call 459 [.loc p, .str t, .ref f, .bool glob, .loc li] H = some (.tup [.str ((subL mt t rep glob (2 * t.length + 2) 0 false).1.flatten ++ t.drop (subL mt t rep glob (2 * t.length + 2) 0 false).2.1), .int (subL mt t rep glob (2 * t.length + 2) 0 false).2.2], H') ∧ Gr [] H H' := by
  have hlil := lt_of_get hli
  have g0 : Gr [] H (H ++ [.list [], .list [.int 0]]) := Gr.app
  have hpb := hp.below.step g0 (by simp)
  obtain ⟨v, H1, k1, e1, g1, hsp1, s1, s2, hM⟩ := next_b (L := L) (sc := sc) (ora := ora) (n := n) (a := 0) (w := false) (B := H.length + 2) (sp := H.length + 1) (k0 := 0) S hpb.at (g0.get hli (by simp)) app_get ht (by exact Nat.zero_le _) (by exact Int.natCast_nonneg _) (by simp)
  have hpa1 : H1[H.length]? = some (.list (txs [])) := g1.get app_get0 (by simp)
  have gA : Gr [] H H1 := g0.trans g1 (by intro j hj h; simp at hj; lia)
  obtain ⟨ρ', H', v', e2, E', g2, hpa, ha⟩ := sub_loop (L := L) (sc := sc) (ora := ora) (n := n) (glob := glob) S (p := p) (li := li) (pa := H.length) (sp := H.length + 1) (B := H.length) hR ht (Nat.le_refl _) (by exact Nat.le_succ _) (by exact Nat.lt_succ_self _) hlil (2 * t.length + 2) 0 turns false
    [(30787916450984560, .loc p), (1954047348, .str t), (28538242730059122, .ref f), (1999265653641409688425, .bool glob), (126943822178668, .loc li), (474214786402, .none), (495874892144, .loc H.length), (1701736292, .int (0 : Nat)), (500069396323, .int 0), (500068348019, .loc (H.length + 1)), (126926843769447, v)] H1 v k1 0 [] (by unfold meas; simp) (by lia) (by unfold turns; lia) (by lia) ⟨by simp, by simp, by simp, by simp, by simp, by simp, by simp, by simp, by simp, by simp⟩ (hpb.step g1 (by simp)) (gA.get hli (by simp)) hsp1 hpa1 hM (by lia) (by simp; lia)
  rw [List.nil_append] at hpa
  have hcut := cut_from (t := t) ha
  have hjt := join_txs (subL mt t rep glob (2 * t.length + 2) 0 false).1
  have hjc : joinCost [] (txs (subL mt t rep glob (2 * t.length + 2) 0 false).1) ≤ top := by rw [cost_txs]; unfold top; lia
  have hdl : (t.drop (subL mt t rep glob (2 * t.length + 2) 0 false).2.1).length ≤ 100 := by simp; lia
  have hcat : (subL mt t rep glob (2 * t.length + 2) 0 false).1.flatten.length + (t.drop (subL mt t rep glob (2 * t.length + 2) 0 false).2.1).length ≤ top := by unfold top; lia
  generalize hR0 : subL mt t rep glob (2 * t.length + 2) 0 false = r0 at *
  refine ⟨H', ?_, gA.trans g2 (by intro j hj h; simp at hj; lia)⟩
  have eh : evSs ((prg L sc ora).ctx (n + 15)) uHead [(30787916450984560, .loc p), (1954047348, .str t), (28538242730059122, .ref f), (1999265653641409688425, .bool glob), (126943822178668, .loc li), (474214786402, .none)] H = some ((.next, [(30787916450984560, .loc p), (1954047348, .str t), (28538242730059122, .ref f), (1999265653641409688425, .bool glob), (126943822178668, .loc li), (474214786402, .none), (495874892144, .loc H.length), (1701736292, .int (0 : Nat)), (500069396323, .int 0), (500068348019, .loc (H.length + 1)), (126926843769447, v)]), H1) := by
    have e1' : ((prg L sc ora).ctx (n + 15)).call 412 [.loc p, .str t, .int 0, .bool false, .loc li, .none, .loc (H.length + 1)] (H ++ [.list [], .list [.int 0]]) = some (v, H1) := e1
    apply ts_go (t_asg (r_list es_nil))
    apply ts_go (t_asg e_c)
    apply ts_go (t_asg e_c)
    apply ts_go (t_asg (r_listA (rs_cons e_c es_nil)))
    apply ts_go
    · apply t_asg
      apply r_call
      · wtm_at "es"
      · exact e1'
    exact ss_nil
  have hc0 : (0 : Int) + (r0.2.2 : Int) = (r0.2.2 : Int) := by exact Int.add_comm _ _
  have z1 := E'.parts
  have z2 := E'.text
  have z3 := E'.done
  have z4 := E'.count
  rw [hc0] at z4
  have hj : applyM ((prg L sc ora).ctx (n + 15)) (.join []) [.loc H.length] H' = some (.str r0.1.flatten, H') := a_join hpa hjc hjt
  have hb : binop .add (.str r0.1.flatten) (.str (t.drop r0.2.1)) H' = some (.str (r0.1.flatten ++ t.drop r0.2.1), H') := if_pos hcat
  have et : evSs ((prg L sc ora).ctx (n + 15)) uTail ρ' H' = some ((.ret (.tup [.str (r0.1.flatten ++ t.drop r0.2.1), .int r0.2.2]), ρ'), H') := by
    unfold uTail f459
    apply ts_ret
    wtm_at "t"
  exact (call_eq' (mf := f459) rfl (by decide)).trans (f_ret rfl (ts_app (a := uHead) (b := .whl uTest uBody :: uTail) eh (ts_go (t_whl e2) et)))
end
theorem look_fn477 : look fnTab 477 = none := rfl
@[simp] theorem aok_lim_width : aok 477 448629336439 = true := rfl
@[simp] theorem aok_lim_depth : aok 477 448630121828 = true := rfl
@[simp] theorem aok_lim_items : aok 477 495756604521 = true := rfl
noncomputable def pieces (t : List Nat) : Nat → List (Nat × Nat) → List (List Nat)
  | a, [] => [t.drop a]
  | a, q :: qs => seg t a q.1 :: pieces t q.2 qs
noncomputable def Chain (n : Nat) : Nat → List (Nat × Nat) → Prop
  | a, [] => a ≤ n
  | a, q :: qs => a ≤ q.1 ∧ q.1 < q.2 ∧ q.2 ≤ n ∧ Chain n q.2 qs
noncomputable def tups (qs : List (Nat × Nat)) : List V := qs.map fun q => .tup [.int q.1, .int q.2]
noncomputable def bBody2 : List MS := match f961.body with
  | [_, .for_ _ _ b, _] => b
  | _ => []
theorem f961_eq : f961 = ⟨[1954047348, 495773118579], [], [.asg (.vars [431349919590, 29793]) (.tup [(.list []), (.c (.int 0))]), .for_ (.vars [474214786402, 6581861]) (.var 495773118579) bBody2, .ret (.bin .add (.var 431349919590) (.list [(.slice (.var 1954047348) (.var 29793) (.c .none) (.c .none))]))]⟩ := rfl
section
variable {L : Nat} {sc : List V} {ora : Nat → Nat → List V → MH → R V} {n : Nat} {H : MH} {t : List Nat}
theorem limits_c : ((prg L sc ora).ctx (n + 2)).call 477 [] H = some (.loc H.length, H ++ [limO]) := by
  have e2 : RH (H ++ [.inst 477 []]) H.length (.inst 477 []) [] = H ++ [.inst 477 []] := by unfold RH; simp
  have e3 : ∀ o, RH (H ++ [.inst 477 []]) H.length o [] = H ++ [o] := fun o => by unfold RH; simp
  have hl : H.length < (H ++ [O.inst 477 []]).length := by simp
  have e0 : ((prg L sc ora).ctx (n + 1)).call 474 [.loc H.length] (RH (H ++ [.inst 477 []]) H.length (.inst 477 []) []) = some (.none, RH (H ++ [.inst 477 []]) H.length limO []) := by
    refine (call_eq' (mf := f474) rfl (by decide)).trans ?_
    apply f_next (ρ := [(1718379891, .loc H.length), (448629336439, .int 64), (448630121828, .int 50), (495806936179, .int 1000000), (1954047348, .int 100000), (495756604521, .int 10000)]) rfl
    apply ts_go (t_asga (r_var rfl) (r_var rfl) (g_setR hl rfl rfl))
    apply ts_go (t_asga (r_var rfl) (r_var rfl) (g_setR hl rfl rfl))
    apply ts_go (t_asga (r_var rfl) (r_var rfl) (g_setR hl rfl rfl))
    apply ts_go (t_asga (r_var rfl) (r_var rfl) (g_setR hl rfl rfl))
    apply ts_go (t_asga (r_var rfl) (r_var rfl) (g_setR hl rfl rfl))
    exact ss_nil
  rw [e2, e3] at e0
  exact cls_new rfl rfl e0
structure BtE (ρ : Env) (t : List Nat) (fo a sp : Nat) : Prop where
  text : Env.get ρ 1954047348 = some (.str t)
  found : Env.get ρ 431349919590 = some (.loc fo)
  at_ : Env.get ρ 29793 = some (.int a)
theorem between_loop {sp : Nat} {all : List (Nat × Nat)} (hsp : H[sp]? = some (.list (tups all))) :
    ∀ (qs : List (Nat × Nat)) (a : Nat) (ρ : Env) (fs : List (List Nat)), Chain t.length a qs → BtE ρ t H.length a sp → fs.length + qs.length < 1000 →
      ∃ ρ' a', forGo (.loc sp) (tups all) (bindT (.vars [474214786402, 6581861])) (evSs ((prg L sc ora).ctx n) bBody2) (tups qs) ρ (H ++ [.list (txs fs)]) = some ((.next, ρ'), H ++ [.list (txs (fs ++ (pieces t a qs).dropLast))]) ∧ BtE ρ' t H.length a' sp ∧ a' ≤ t.length ∧ pieces t a qs = (pieces t a qs).dropLast ++ [t.drop a'] := by
  intro qs
  have spl := lt_of_get hsp
  have hst : ∀ fs : List (List Nat), still (.loc sp) (tups all) (H ++ [.list (txs fs)]) = true := fun fs => st_list ((app_old spl).trans hsp)
  induction qs with
  | nil =>
    intro a ρ fs hc E hl
    refine ⟨ρ, a, ?_, E, hc, by simp [pieces]⟩
    rw [show (pieces t a []).dropLast = [] from rfl, List.append_nil]
    exact for_end (hst fs)
  | cons q qs ih =>
    intro a ρ fs hc E hl
    obtain ⟨h1, h2, h3, h4⟩ := hc
    have c1 : ¬ (q.1 : Int) < (a : Int) := by lia
    have c2 : ¬ (q.2 : Int) ≤ (q.1 : Int) := by lia
    have c3 : ¬ (t.length : Int) < (q.2 : Int) := by lia
    have hcut : cut t (some (a : Int)) (some (q.1 : Int)) none = seg t a q.1 := cut_seg (by lia) (by lia)
    have hlt : (txs fs).length < top := by simp at hl; simp [txs, top]; lia
    have hset : txs fs ++ [.str (seg t a q.1)] = txs (fs ++ [seg t a q.1]) := by simp [txs]
    have z1 := E.text
    have z2 := E.found
    have z3 := E.at_
    have hf : (H ++ [O.list (txs fs)])[H.length]? = some (.list (txs fs)) := app_get0
    have hp : applyM ((prg L sc ora).ctx n) (.append H.length) [.str (seg t a q.1)] (H ++ [O.list (txs fs)]) = some (.none, H ++ [.list (txs (fs ++ [seg t a q.1]))]) := by
      rw [a_append hf hlt, app_set0, hset]
    have hbody : evSs ((prg L sc ora).ctx n) bBody2 ((ρ.put 474214786402 (.int q.1)).put 6581861 (.int q.2)) (H ++ [.list (txs fs)]) = some ((.next, ((ρ.put 474214786402 (.int q.1)).put 6581861 (.int q.2)).put 29793 (.int q.2)), H ++ [.list (txs (fs ++ [seg t a q.1]))]) := by
      unfold bBody2 f961
      wtm_at "ts"
    obtain ⟨ρ', a', e1, E', ha', hp⟩ := ih q.2 (((ρ.put 474214786402 (.int q.1)).put 6581861 (.int q.2)).put 29793 (.int q.2)) (fs ++ [seg t a q.1]) h4 ⟨by simp [E.text], by simp [E.found], by simp⟩ (by simp at hl ⊢; lia)
    have hne : pieces t q.2 qs ≠ [] := by cases qs <;> simp [pieces]
    refine ⟨ρ', a', ?_, E', ha', ?_⟩
    · refine for_go (hst fs) rfl hbody (e1.trans ?_)
      simp only [pieces]
      rw [List.dropLast_cons_of_ne_nil hne, List.append_assoc]; rfl
    · simp only [pieces]
      rw [List.dropLast_cons_of_ne_nil hne, List.cons_append, ← hp]
theorem between_c {sp : Nat} {qs : List (Nat × Nat)} (hsp : H[sp]? = some (.list (tups qs))) (hc : Chain t.length 0 qs) (hl : qs.length < 900) :
    ∃ g G, ((prg L sc ora).ctx (n + 1)).call 961 [.str t, .loc sp] H = some (.loc g, H ++ G) ∧ H.length ≤ g ∧ (H ++ G)[g]? = some (.list (txs (pieces t 0 qs))) := by
  obtain ⟨ρ', a', e1, E', ha', hp⟩ := between_loop (L := L) (sc := sc) (ora := ora) (n := n) (t := t) hsp qs 0 [(1954047348, .str t), (495773118579, .loc sp), (431349919590, .loc H.length), (29793, .int (0 : Nat))] [] hc ⟨by simp, by simp, by simp⟩ (by simp; lia)
  have spl := lt_of_get hsp
  have hpl : ∀ a, (pieces t a qs).length = qs.length + 1 := by
    have : ∀ (qs : List (Nat × Nat)) a, (pieces t a qs).length = qs.length + 1 := by
      intro qs
      induction qs with
      | nil => intro a; rfl
      | cons q qs ih => intro a; simp [pieces, ih]
    exact this qs
  have hdl : (txs (pieces t 0 qs).dropLast).length + 1 ≤ top := by simp [txs, hpl, top]; lia
  have hcut := cut_from (t := t) ha'
  refine ⟨H.length + 2, [.list (txs (pieces t 0 qs).dropLast), .list [.str (t.drop a')], .list (txs (pieces t 0 qs))], ?_, by exact Nat.le_add_right _ _, by rw [app_get]; rfl⟩
  have hfor : forGo (.loc sp) (tups qs) (bindT (.vars [474214786402, 6581861])) (evSs ((prg L sc ora).ctx n) bBody2) (tups qs) [(1954047348, .str t), (495773118579, .loc sp), (431349919590, .loc H.length), (29793, .int 0)] (H ++ [.list []]) = some ((.next, ρ'), H ++ [.list (txs (pieces t 0 qs).dropLast)]) := e1
  have hfin : txs (pieces t 0 qs) = txs (pieces t 0 qs).dropLast ++ [.str (t.drop a')] := by
    conv => lhs; rw [hp]
    simp [txs]
  have z1 := E'.text
  have z2 := E'.found
  have z3 := E'.at_
  have hf1 : (H ++ [O.list (txs (pieces t 0 qs).dropLast)] ++ [.list [.str (t.drop a')]])[H.length]? = some (.list (txs (pieces t 0 qs).dropLast)) := (app_old (by simp)).trans app_get0
  have hcat : binop .add (.loc H.length) (.loc (H ++ [O.list (txs (pieces t 0 qs).dropLast)]).length) (H ++ [O.list (txs (pieces t 0 qs).dropLast)] ++ [.list [.str (t.drop a')]]) = some (.loc (H.length + 2), H ++ [.list (txs (pieces t 0 qs).dropLast), .list [.str (t.drop a')], .list (txs (pieces t 0 qs).dropLast ++ [.str (t.drop a')])]) := by
    rw [a_cat hf1 app_get0 hdl]; simp
  apply c_ret rfl rfl (zp_cons (zp_cons zp_nil))
  apply ts_go (t_asgs (r_tup (rs_cons (r_list es_nil) (rs_cons e_c es_nil))) rfl)
  apply ts_go (t_for (r_var rfl) (it_list ((app_old spl).trans hsp)) hfor)
  exact ts_ret (t_ret (r_bin (r_var z2) (r_list (rs_cons (r_slice (r_var z1) (r_var z3) e_c e_c (sl_str rfl rfl hcut)) es_nil)) (hfin ▸ hcat)))
end
noncomputable def lift (mt0 : List Nat → Nat → Option Nat) : List Nat → Int → Nat → Option Nat := fun t _ s => mt0 t s
noncomputable def Takes (mt0 : List Nat → Nat → Option Nat) : Prop := ∀ t s e, mt0 t s = some e → s < e ∧ e ≤ t.length
noncomputable def sp0 (mt0 : List Nat → Nat → Option Nat) (t : List Nat) : Nat → Nat → List (Nat × Nat)
  | 0, _ => []
  | d + 1, a => match find (lift mt0) t 0 a with
    | some q => q :: sp0 mt0 t d q.2
    | none => []
section
variable {mt0 : List Nat → Nat → Option Nat} {t : List Nat}
theorem srch_le {k a : Nat} {le le' : Int} : srch (lift mt0) t le k a = srch (lift mt0) t le' k a := by
  induction k generalizing a with
  | zero => rfl
  | succ k ih => unfold srch; simp only [lift]; rw [ih]
theorem find_le {a : Nat} (le le' : Int) : find (lift mt0) t le a = find (lift mt0) t le' a := srch_le
theorem find_facts (h : Takes mt0) {le : Int} {a : Nat} {q : Nat × Nat} (hf : find (lift mt0) t le a = some q) : a ≤ q.1 ∧ q.1 < q.2 ∧ q.2 ≤ t.length := by
  obtain ⟨h1, h2⟩ := find_some hf
  obtain ⟨h3, h4⟩ := h _ _ _ h2
  exact ⟨h1, h3, h4⟩
theorem find_end (h : Takes mt0) {le : Int} {a : Nat} (ha : t.length ≤ a) : find (lift mt0) t le a = none := by
  cases hf : find (lift mt0) t le a with
  | none => rfl
  | some q => obtain ⟨h1, h2, h3⟩ := find_facts h hf; lia
theorem sp0_stable (h : Takes mt0) : ∀ (d d' a : Nat), t.length < a + d → t.length < a + d' → sp0 mt0 t d a = sp0 mt0 t d' a
  | 0, 0, _, _, _ => rfl
  | 0, d' + 1, a, h1, _ => by unfold sp0; rw [find_end h (by exact Nat.le_of_lt h1)]
  | d + 1, 0, a, _, h2 => by unfold sp0; rw [find_end h (by lia)]
  | d + 1, d' + 1, a, h1, h2 => by
    unfold sp0
    cases hf : find (lift mt0) t 0 a with
    | none => rfl
    | some q =>
      obtain ⟨h3, h4, h5⟩ := find_facts h hf
      simp only []
      rw [sp0_stable h d d' q.2 (by lia) (by lia)]
theorem spans_sp0 : ∀ (d a : Nat) (w : Bool), spansL (lift mt0) t d a w = sp0 mt0 t d a
  | 0, _, _ => rfl
  | d + 1, a, w => by
    unfold spansL sp0
    rw [find_le (leOf w a) 0]
    cases find (lift mt0) t 0 a with
    | none => rfl
    | some q => simp only []; rw [spans_sp0 d]
theorem sp0_chain (h : Takes mt0) : ∀ (d a : Nat), a ≤ t.length → Chain t.length a (sp0 mt0 t d a)
  | 0, a, ha => ha
  | d + 1, a, ha => by
    unfold sp0
    cases hf : find (lift mt0) t 0 a with
    | none => exact ha
    | some q =>
      obtain ⟨h3, h4, h5⟩ := find_facts h hf
      exact ⟨h3, h4, h5, sp0_chain h d q.2 h5⟩
noncomputable def interl (ng : Nat) (t : List Nat) : Nat → List (Nat × Nat) → List (List Nat)
  | _, [] => []
  | a, q :: qs => seg t a q.1 :: (List.replicate ng (seg t q.1 q.2) ++ interl ng t q.2 qs)
noncomputable def endOf : Nat → List (Nat × Nat) → Nat
  | a, [] => a
  | _, q :: qs => endOf q.2 qs
noncomputable def lim (limit : Int) (c : Nat) (qs : List (Nat × Nat)) : List (Nat × Nat) := if limit ≤ 0 then qs else qs.take (limit - 1 - c).toNat
theorem splitL_is (h : Takes mt0) {ng : Nat} {limit : Int} : ∀ (d a c : Nat), t.length < a + d → splitL (lift mt0) t ng limit d a c = (interl ng t a (lim limit c (sp0 mt0 t d a)), endOf a (lim limit c (sp0 mt0 t d a)), c + (lim limit c (sp0 mt0 t d a)).length)
  | 0, a, c, h1 => by simp [splitL, sp0, lim, interl, endOf]
  | d + 1, a, c, h1 => by
    unfold splitL sp0
    by_cases ha : a < t.length
    · by_cases hl : limit ≤ 0 ∨ (c : Int) < limit - 1
      · rw [if_pos ⟨ha, hl⟩, find_le _ 0]
        cases hf : find (lift mt0) t 0 a with
        | none => simp [lim, interl, endOf]
        | some q =>
          obtain ⟨h3, h4, h5⟩ := find_facts h hf
          simp only []
          rw [splitL_is h d q.2 (c + 1) (by lia)]
          have hlim : lim limit c (q :: sp0 mt0 t d q.2) = q :: lim limit (c + 1) (sp0 mt0 t d q.2) := by
            unfold lim
            by_cases h0 : limit ≤ 0
            · rw [if_pos h0, if_pos h0]
            · rw [if_neg h0, if_neg h0]
              have : (limit - 1 - (c : Int)).toNat = (limit - 1 - ((c + 1 : Nat) : Int)).toNat + 1 := by lia
              rw [this]; rfl
          rw [hlim]
          simp only [interl, endOf, List.length_cons]
          rw [show c + 1 + (lim limit (c + 1) (sp0 mt0 t d q.2)).length = c + ((lim limit (c + 1) (sp0 mt0 t d q.2)).length + 1) by exact Nat.add_right_comm _ _ _]
      · rw [if_neg (fun x => hl x.2)]
        have h0 : ¬ limit ≤ 0 := fun x => hl (.inl x)
        have : (limit - 1 - (c : Int)).toNat = 0 := by lia
        cases find (lift mt0) t 0 a with
        | none => simp [lim, h0, this, interl, endOf]
        | some q => simp [lim, h0, this, interl, endOf]
    · rw [if_neg (fun x => ha x.1), find_end h (by lia)]
      simp [lim, interl, endOf]
theorem pieces_is : ∀ (qs : List (Nat × Nat)) (a : Nat), pieces t a qs = interl 0 t a qs ++ [t.drop (endOf a qs)]
  | [], a => rfl
  | q :: qs, a => by simp only [pieces, interl, endOf, List.replicate_zero, List.nil_append, List.cons_append]; rw [pieces_is qs]
theorem endOf_le {n : Nat} : ∀ {qs : List (Nat × Nat)} {a : Nat}, Chain n a qs → a ≤ endOf a qs ∧ endOf a qs ≤ n
  | [], a, h => ⟨Nat.le_refl _, h⟩
  | q :: qs, a, ⟨h1, h2, h3, h4⟩ => by
    have := endOf_le h4
    simp only [endOf]
    lia
theorem chain_take {n : Nat} : ∀ {qs : List (Nat × Nat)} {a : Nat} (k : Nat), a ≤ n → Chain n a qs → Chain n a (qs.take k)
  | [], a, k, h0, h => by simp; exact h0
  | q :: qs, a, 0, h0, h => h0
  | q :: qs, a, k + 1, h0, ⟨h1, h2, h3, h4⟩ => ⟨h1, h2, h3, chain_take k h3 h4⟩
theorem interl_len {ng : Nat} : ∀ (qs : List (Nat × Nat)) (a : Nat), (interl ng t a qs).length = (ng + 1) * qs.length
  | [], a => by simp [interl]
  | q :: qs, a => by simp only [interl, List.length_cons, List.length_append, List.length_replicate]; rw [interl_len qs]; rw [Nat.mul_add]; lia
theorem split_all (h : Takes mt0) : splitF (lift mt0) t 0 (-1) = if t = [] then [] else pieces t 0 (sp0 mt0 t (t.length + 1) 0) := by
  unfold splitF
  rw [splitL_is h _ _ _ (by exact Nat.le_add_left _ _)]
  have hl : lim (-1) 0 (sp0 mt0 t (t.length + 1) 0) = sp0 mt0 t (t.length + 1) 0 := by simp [lim]
  rw [hl]
  simp only [Nat.zero_add]
  by_cases ht : t = []
  · subst ht
    have : sp0 mt0 [] (([] : List Nat).length + 1) 0 = [] := by unfold sp0; rw [find_end h (by simp)]
    rw [this]; simp [interl, endOf]
  · rw [if_neg ht, pieces_is]
    have hc := sp0_chain h (t := t) (t.length + 1) 0 (by exact Nat.zero_le _)
    by_cases hq : sp0 mt0 t (t.length + 1) 0 = []
    · rw [hq]; simp [endOf, ht]
    · have : 0 < (sp0 mt0 t (t.length + 1) 0).length := List.length_pos_iff.mpr hq
      rw [if_pos (.inr ⟨this, by exact by decide⟩)]
theorem sub_is {rep : Nat → Nat → List Nat} : ∀ (d a : Nat) (w : Bool), subL (lift mt0) t rep true d a w = ((sp0 mt0 t d a).foldr (fun q r => fun a => seg t a q.1 :: rep q.1 q.2 :: r q.2) (fun _ => []) a, endOf a (sp0 mt0 t d a), (sp0 mt0 t d a).length)
  | 0, a, w => by simp [subL, sp0, endOf]
  | d + 1, a, w => by
    unfold subL sp0
    rw [find_le (leOf w a) 0]
    cases find (lift mt0) t 0 a with
    | none => simp [endOf]
    | some q =>
      simp only [if_true]
      rw [sub_is d]
      simp [endOf]
end
section
variable {mt0 : List Nat → Nat → Option Nat} {t : List Nat}
theorem seg_drop {a b : Nat} (h : a ≤ b) : seg t a b ++ t.drop b = t.drop a := by
  unfold seg
  have : t.drop b = (t.drop a).drop (b - a) := by rw [List.drop_drop]; congr 1; lia
  rw [this, List.take_append_drop]
noncomputable def subJ (rep : Nat → Nat → List Nat) (t : List Nat) : Nat → List (Nat × Nat) → List Nat
  | a, [] => t.drop a
  | a, q :: qs => seg t a q.1 ++ (rep q.1 q.2 ++ subJ rep t q.2 qs)
theorem sub_flat {rep : Nat → Nat → List Nat} : ∀ (qs : List (Nat × Nat)) (a : Nat), (qs.foldr (fun q r => fun a => seg t a q.1 :: rep q.1 q.2 :: r q.2) (fun _ => []) a).flatten ++ t.drop (endOf a qs) = subJ rep t a qs
  | [], a => rfl
  | q :: qs, a => by
    simp only [List.foldr_cons, endOf, subJ, List.flatten_cons]
    rw [← sub_flat qs q.2]
    simp
theorem subJ_same : ∀ {qs : List (Nat × Nat)} {a : Nat}, Chain t.length a qs → subJ (seg t) t a qs = t.drop a
  | [], a, _ => rfl
  | q :: qs, a, ⟨h1, h2, h3, h4⟩ => by
    simp only [subJ]
    rw [subJ_same h4, seg_drop (by exact Nat.le_of_lt h2), seg_drop h1]
theorem interl_flat : ∀ {qs : List (Nat × Nat)} {a : Nat}, Chain t.length a qs → (interl 1 t a qs).flatten ++ t.drop (endOf a qs) = t.drop a
  | [], a, _ => rfl
  | q :: qs, a, ⟨h1, h2, h3, h4⟩ => by
    have := interl_flat h4
    simp only [interl, endOf, List.replicate_one, List.cons_append, List.nil_append, List.flatten_cons, List.append_assoc]
    rw [this, seg_drop (by exact Nat.le_of_lt h2), seg_drop h1]
theorem interl_take : ∀ (qs : List (Nat × Nat)) (a k : Nat), (interl 0 t a qs).take k = interl 0 t a (qs.take k)
  | [], a, k => by simp [interl]
  | q :: qs, a, 0 => by simp [interl]
  | q :: qs, a, k + 1 => by simp [interl, interl_take qs]
theorem endOf_last : ∀ (qs : List (Nat × Nat)) (a k : Nat), k < qs.length → endOf a (qs.take (k + 1)) = (qs[k]?.getD (0, 0)).2
  | [], _, _, h => by simp at h
  | q :: qs, a, 0, h => by simp [endOf]
  | q :: qs, a, k + 1, h => by
    rw [List.take_succ_cons]
    simp only [endOf]
    rw [endOf_last qs q.2 k (by simpa using h)]
    simp
theorem split_few (h : Takes mt0) {m : Nat} (hm : 1 ≤ m) : splitF (lift mt0) t 0 (m : Int) = if t = [] then [] else pieces t 0 ((sp0 mt0 t (t.length + 1) 0).take (m - 1)) := by
  unfold splitF
  rw [splitL_is h _ _ _ (by exact Nat.le_add_left _ _)]
  have hl : lim (m : Int) 0 (sp0 mt0 t (t.length + 1) 0) = (sp0 mt0 t (t.length + 1) 0).take (m - 1) := by
    unfold lim
    rw [if_neg (by lia)]
    congr 1
    lia
  rw [hl]
  simp only [Nat.zero_add]
  by_cases ht : t = []
  · subst ht
    have : sp0 mt0 [] (([] : List Nat).length + 1) 0 = [] := by unfold sp0; rw [find_end h (by simp)]
    rw [this]
    have hm0 : ¬ (m = 0) := by exact Nat.ne_of_gt hm
    simp [interl, endOf, hm0]
  · rw [if_neg ht, pieces_is]
    by_cases hq : (sp0 mt0 t (t.length + 1) 0).take (m - 1) = []
    · rw [hq]; simp [endOf, ht]
    · have : 0 < ((sp0 mt0 t (t.length + 1) 0).take (m - 1)).length := List.length_pos_iff.mpr hq
      rw [if_pos (.inr ⟨this, by lia⟩)]
theorem drop_front : ∀ (k : Nat) (f g : List (List Nat)), k ≤ f.length → dropEnds (f ++ g) k = dropEnds f k
  | 0, f, g, h => rfl
  | k + 1, f, g, h => by
    unfold dropEnds
    rw [List.getElem?_append_left (by exact h), drop_front k f g (by exact Nat.le_of_lt h), List.take_append_of_le_length h]
theorem split_zero (h : Takes mt0) : splitF (lift mt0) t 0 0 = dropEnds (if t = [] then [] else pieces t 0 (sp0 mt0 t (t.length + 1) 0)) (if t = [] then [] else pieces t 0 (sp0 mt0 t (t.length + 1) 0)).length := by
  unfold splitF
  rw [splitL_is h _ _ _ (by exact Nat.le_add_left _ _)]
  have hl : lim 0 0 (sp0 mt0 t (t.length + 1) 0) = sp0 mt0 t (t.length + 1) 0 := by simp [lim]
  rw [hl]
  simp only [Nat.zero_add, ne_eq, not_true_eq_false, and_false, or_false, if_true]
  by_cases ht : t = []
  · subst ht
    have : sp0 mt0 [] (([] : List Nat).length + 1) 0 = [] := by unfold sp0; rw [find_end h (by simp)]
    rw [this]; simp [interl, endOf, dropEnds]
  · rw [if_neg ht, pieces_is]
    generalize sp0 mt0 t (t.length + 1) 0 = Q
    by_cases hd : t.drop (endOf 0 Q) = []
    · rw [if_neg (by simpa using hd), hd]
      simp only [List.length_append, List.length_singleton]
      conv => rhs; unfold dropEnds
      rw [List.getElem?_append_right (Nat.le_refl _)]
      simp only [Nat.sub_self, List.getElem?_cons_zero]
      rw [drop_front _ _ _ (Nat.le_refl _)]
    · rw [if_pos (by simpa using hd)]
      simp only [List.length_append, List.length_singleton]
      unfold dropEnds
      rw [List.getElem?_append_right (Nat.le_refl _)]
      simp only [Nat.sub_self, List.getElem?_cons_zero]
      split
      · rename_i e; exact absurd (Option.some.inj e) hd
      · rw [List.take_of_length_le (by simp)]
noncomputable def odds {α : Type} : List α → List α
  | [] => []
  | [_] => []
  | _ :: y :: r => y :: odds r
theorem odds_interl : ∀ (qs : List (Nat × Nat)) (a : Nat) (x : List Nat), odds (interl 1 t a qs ++ [x]) = qs.map fun q => seg t q.1 q.2
  | [], a, x => rfl
  | q :: qs, a, x => by simp [interl, odds, odds_interl qs]
theorem odds_pick {α : Type} : ∀ (xs : List α), odds xs = ((List.range xs.length).filter (fun i => i % 2 == 1)).filterMap (xs[·]?)
  | [] => rfl
  | [_] => rfl
  | x :: y :: r => by
    have ih := odds_pick r
    rw [odds, ih]
    have e : List.range (x :: y :: r).length = 0 :: 1 :: (List.range r.length).map (· + 2) := by
      simp only [List.length_cons]
      rw [List.range_succ_eq_map, List.range_succ_eq_map]
      simp [List.map_map, Function.comp_def]
    rw [e]
    simp [List.filter_map, List.filterMap_map, Function.comp_def]
theorem odd_range : ∀ n < 40, (PySem.sliceRange (PySem.sliceBounds (some 1) none (some 2) n).1 (PySem.sliceBounds (some 1) none (some 2) n).2.1 (PySem.sliceBounds (some 1) none (some 2) n).2.2) = (List.range n).filter (fun i => i % 2 == 1) := by decide +kernel
theorem cut_odds {α : Type} {xs : List α} (h : xs.length < 40) : cut xs (some 1) none (some 2) = odds xs := by
  unfold cut
  rw [odd_range _ h, odds_pick]
theorem split_grouped (h : Takes mt0) : splitF (lift mt0) t 1 (-1) = if t = [] then [] else interl 1 t 0 (sp0 mt0 t (t.length + 1) 0) ++ [t.drop (endOf 0 (sp0 mt0 t (t.length + 1) 0))] := by
  unfold splitF
  rw [splitL_is h _ _ _ (by exact Nat.le_add_left _ _)]
  have hl : lim (-1) 0 (sp0 mt0 t (t.length + 1) 0) = sp0 mt0 t (t.length + 1) 0 := by simp [lim]
  rw [hl]
  simp only [Nat.zero_add]
  by_cases ht : t = []
  · subst ht
    have : sp0 mt0 [] (([] : List Nat).length + 1) 0 = [] := by unfold sp0; rw [find_end h (by simp)]
    rw [this]; simp [interl, endOf]
  · rw [if_neg ht]
    by_cases hq : sp0 mt0 t (t.length + 1) 0 = []
    · rw [hq]; simp [endOf, ht]
    · have : 0 < (sp0 mt0 t (t.length + 1) 0).length := List.length_pos_iff.mpr hq
      rw [if_pos (.inr ⟨this, by exact by decide⟩)]
end
noncomputable def CharsOK (fs : List (List Nat)) : Prop := ∀ f ∈ fs, ∀ c ∈ f, c < 1114112
theorem txs_flat {fs : List (List Nat)} (h : CharsOK fs) : (txs fs).all flat1 = true := by
  rw [List.all_eq_true]
  intro v hv
  obtain ⟨f, hf, rfl⟩ := List.mem_map.mp hv
  show f.all (· < 1114112) = true
  rw [List.all_eq_true]
  intro c hc
  exact decide_eq_true (h f hf c hc)
theorem txs_inj {a b : List (List Nat)} : txs a = txs b ↔ a = b := by
  constructor
  · intro h
    induction a generalizing b with
    | nil => cases b with
      | nil => rfl
      | cons _ _ => cases h
    | cons x a ih => cases b with
      | nil => cases h
      | cons y b =>
        simp only [txs, List.map_cons, List.cons.injEq, V.str.injEq] at h
        rw [h.1, ih h.2]
  · rintro rfl; rfl
theorem eq_lists {H : MH} {i j : Nat} {a b : List (List Nat)} (hi : H[i]? = some (.list (txs a))) (hj : H[j]? = some (.list (txs b))) (ha : CharsOK a) (hb : CharsOK b) : eqV (.loc i) (.loc j) H = some (decide (a = b)) := by
  rw [eq_locs hi hj (txs_flat ha) (txs_flat hb)]
  simp [txs_inj]
theorem seg_chars {t : List Nat} (h : ∀ c ∈ t, c < 1114112) (i j : Nat) : ∀ c ∈ seg t i j, c < 1114112 := fun c hc => h c (List.mem_of_mem_drop (List.mem_of_mem_take hc))
theorem pieces_chars {t : List Nat} (h : ∀ c ∈ t, c < 1114112) : ∀ (qs : List (Nat × Nat)) (a : Nat), CharsOK (pieces t a qs)
  | [], a => fun f hf => by
    simp only [pieces, List.mem_singleton] at hf; subst hf
    exact fun c hc => h c (List.mem_of_mem_drop hc)
  | q :: qs, a => fun f hf => by
    simp only [pieces, List.mem_cons] at hf
    rcases hf with rfl | hf
    · exact seg_chars h _ _
    · exact pieces_chars h qs q.2 f hf
theorem CharsOK.sub {a b : List (List Nat)} (h : CharsOK b) (s : ∀ x ∈ a, x ∈ b) : CharsOK a := fun f hf => h f (s f hf)
theorem drop_sub (fs : List (List Nat)) : ∀ k, ∀ x ∈ dropEnds fs k, x ∈ fs
  | 0, x, hx => by cases hx
  | k + 1, x, hx => by
    unfold dropEnds at hx
    split at hx
    · exact drop_sub fs k x hx
    · exact List.mem_of_mem_take hx
section
variable {L : Nat} {sc : List V} {ora : Nat → Nat → List V → MH → R V} {n : Nat} {H : MH} {t : List Nat}
theorem PatAt.gr {H H' : MH} {p : Nat} {rows : List V} {ng : Nat} {side : Option (Nat × List V)} (x : PatAt H p rows ng side) (g : Gr [] H H') : PatAt H' p rows ng side := (x.below.step g (by simp)).at
theorem split_x {rows : List V} {ng : Nat} {side : Option (Nat × List V)} {mt : List Nat → Int → Nat → Option Nat} (S : PatSpec rows ng side mt) {p : Nat} {limit : Int} {ρ : Env} {pe te le : ME} {tt : Bool} (hp : PatAt H p rows ng side) (ht : t.length < 100)
    (h1 : evE ((prg L sc ora).ctx (n + 15)) false pe ρ H = some (.loc p, H)) (h2 : evE ((prg L sc ora).ctx (n + 15)) false te ρ H = some (.str t, H)) (h3 : evE ((prg L sc ora).ctx (n + 15)) false le ρ H = some (.int limit, H)) :
    ∃ g H', evE ((prg L sc ora).ctx (n + 15)) tt (.call (.c (.ref 451)) [pe, te, le, .call (.c (.ref 477)) []]) ρ H = some (.loc g, H') ∧ Gr [] H H' ∧ H'[g]? = some (.list (txs (splitF mt t ng limit))) := by
  have g0 : Gr [] H (H ++ [limO]) := Gr.app
  obtain ⟨g, H', e1, g1, hg⟩ := split_c (L := L) (sc := sc) (ora := ora) (n := n) (H := H ++ [limO]) (t := t) S (limit := limit) (li := H.length) (hp.gr g0) (by simp) ht
  exact ⟨g, H', r_call (rs_cons h1 (rs_cons h2 (rs_cons h3 (rs_cons (r_call es_nil limits_c) es_nil)))) e1, g0.trans g1 (by simp), hg⟩
theorem split_e {rows : List V} {ng : Nat} {side : Option (Nat × List V)} {mt : List Nat → Int → Nat → Option Nat} (S : PatSpec rows ng side mt) {p : Nat} {limit : Int} {ρ : Env} {pe le : ME} {tt : Bool} (hp : PatAt H p rows ng side) (ht : t.length < 100)
    (h1 : evE ((prg L sc ora).ctx (n + 15)) false pe ρ H = some (.loc p, H)) (h2 : Env.get ρ 1954047348 = some (.str t)) (h3 : evE ((prg L sc ora).ctx (n + 15)) false le ρ H = some (.int limit, H)) :
    ∃ g H', evE ((prg L sc ora).ctx (n + 15)) tt (.call (.c (.ref 451)) [pe, .var 1954047348, le, .call (.c (.ref 477)) []]) ρ H = some (.loc g, H') ∧ Gr [] H H' ∧ H'[g]? = some (.list (txs (splitF mt t ng limit))) := split_x S hp ht h1 (r_var h2) h3
structure FrE (ρ : Env) (t : List Nat) (p pg sp : Nat) (most : Nat) : Prop where
  text : Env.get ρ 1954047348 = some (.str t)
  prog : Env.get ρ 30787916450984560 = some (.loc p)
  grouped : Env.get ρ 28259031352046183 = some (.loc pg)
  spans : Env.get ρ 495773118579 = some (.loc sp)
  most : Env.get ρ 1953722221 = some (.int most)
variable {mt0 : List Nat → Nat → Option Nat} {rows0 rows1 : List V} {side0 side1 : Option (Nat × List V)} {p pg sp most : Nat} {ρ : Env}
theorem fr1 (E : FrE ρ t p pg sp most) (hsp : H[sp]? = some (.list (tups (sp0 mt0 t (t.length + 1) 0)))) (hm : Takes mt0) (hq : (sp0 mt0 t (t.length + 1) 0).length < 900) :
    ∃ fl H', evS ((prg L sc ora).ctx (n + 15)) (f966.body[0]?.getD .bad) ρ H = some ((.next, ρ.put 126875152509286 (.loc fl)), H') ∧ Gr [] H H' ∧ H'[fl]? = some (.list (txs (if t = [] then [] else pieces t 0 (sp0 mt0 t (t.length + 1) 0)))) := by
  by_cases ht : t = []
  · subst ht
    exact ⟨H.length, H ++ [.list []], t_asg (r_ite_f (r_cmp (r_var E.text) e_c rfl) rfl (r_list es_nil)), Gr.app, by rw [app_get0]; rfl⟩
  · obtain ⟨g, G, e1, hg1, hg2⟩ := between_c (L := L) (sc := sc) (ora := ora) (n := n + 14) (t := t) hsp (sp0_chain hm _ _ (by exact Nat.zero_le _)) hq
    exact ⟨g, H ++ G, t_asg (r_ite_t (r_cmp (r_var E.text) e_c (ne_str ht)) rfl (r_call (rs_cons (r_var E.text) (rs_cons (r_var E.spans) es_nil)) e1)), Gr.app, by rw [hg2, if_neg ht]⟩
theorem fr2 (E : FrE ρ t p pg sp most) (S0 : PatSpec rows0 0 side0 (lift mt0)) (S1 : PatSpec rows1 1 side1 (lift mt0)) (hm : Takes mt0) (hp : PatAt H p rows0 0 side0) (hpg : PatAt H pg rows1 1 side1) (ht : t.length < 100) (hch : ∀ c ∈ t, c < 1114112) {fl : Nat} (hf : Env.get ρ 126875152509286 = some (.loc fl))
    (hfl : H[fl]? = some (.list (txs (if t = [] then [] else pieces t 0 (sp0 mt0 t (t.length + 1) 0))))) :
    ∃ H', evS ((prg L sc ora).ctx (n + 15)) (f966.body[1]?.getD .bad) ρ H = some ((.next, ρ), H') ∧ Gr [] H H' := by
  have hFc : CharsOK (if t = [] then [] else pieces t 0 (sp0 mt0 t (t.length + 1) 0)) := by
    split
    · intro f hf; cases hf
    · exact pieces_chars hch _ _
  obtain ⟨g1, H1, e1, gr1, hg1⟩ := split_e (L := L) (sc := sc) (ora := ora) (n := n) (ρ := ρ) (pe := .var 30787916450984560) (le := .neg (.c (.int 1))) (limit := -1) (tt := false) S0 hp ht (r_var E.prog) E.text (r_neg e_c)
  rw [split_all hm] at hg1
  obtain ⟨g2, H2, e2, gr2, hg2⟩ := split_e (L := L) (sc := sc) (ora := ora) (n := n) (H := H1) (ρ := ρ) (pe := .var 28259031352046183) (le := .neg (.c (.int 1))) (limit := -1) (tt := false) S1 (hpg.gr gr1) ht (r_var E.grouped) E.text (r_neg e_c)
  rw [split_grouped hm] at hg2
  have hflat : (if t = [] then [] else interl 1 t 0 (sp0 mt0 t (t.length + 1) 0) ++ [t.drop (endOf 0 (sp0 mt0 t (t.length + 1) 0))]).flatten = t := by
    by_cases h : t = []
    · simp [h]
    · rw [if_neg h, List.flatten_append]
      have := interl_flat (sp0_chain hm (t := t) (t.length + 1) 0 (by exact Nat.zero_le _))
      simpa using this
  have hq := eq_lists hg1 (gr1.get hfl (by simp)) hFc hFc
  refine ⟨H2, ?_, gr1.trans gr2 (by simp)⟩
  generalize (if t = [] then [] else interl 1 t 0 (sp0 mt0 t (t.length + 1) 0) ++ [t.drop (endOf 0 (sp0 mt0 t (t.length + 1) 0))]) = I at hg2 hflat
  have hjt := join_txs I
  have hjc : joinCost [] (txs I) ≤ top := by rw [cost_txs, hflat]; unfold top; lia
  rw [hflat] at hjt
  exact t_if_f (r_bop (rb_go (r_cmp e1 (r_var hf) (ne_list hq)) rfl (rb_one (r_cmp (r_meth e_c rfl (rs_cons e2 es_nil) (a_join hg2 hjc hjt)) (r_var E.text) ne_same)))) rfl ss_nil
end
section
variable {L : Nat} {sc : List V} {ora : Nat → Nat → List V → MH → R V} {n : Nat} {H : MH} {t : List Nat}
variable {mt0 : List Nat → Nat → Option Nat} {rows0 rows1 : List V} {side0 side1 : Option (Nat × List V)} {p pg sp most : Nat} {ρ : Env}
theorem chain_bd {n : Nat} : ∀ {qs : List (Nat × Nat)} {a : Nat}, Chain n a qs → ∀ q ∈ qs, q.1 ≤ n ∧ q.2 ≤ n
  | [], _, _, q, h => by cases h
  | q :: qs, a, ⟨h1, h2, h3, h4⟩, q', h => by
    rcases List.mem_cons.mp h with rfl | h
    · lia
    · exact chain_bd h4 q' h
theorem comp_segs {all : List (Nat × Nat)} {C : Ctx} (E : Env.get ρ 1954047348 = some (.str t)) (hsp : H[sp]? = some (.list (tups all))) : ∀ (qs : List (Nat × Nat)) (done : List (List Nat)), (∀ q ∈ qs, q.1 ≤ t.length ∧ q.2 ≤ t.length) → done.length + qs.length < 1000 →
    compGo (.loc sp) (tups all) H.length (compF C (.slice (.var 1954047348) (.var 474214786402) (.var 6581861) (.c .none)) [474214786402, 6581861] false [] ρ) (tups qs) (H ++ [.list (txs done)]) = some (H ++ [.list (txs (done ++ qs.map fun q => seg t q.1 q.2))])
  | [], done, _, _ => by
    rw [List.map_nil, List.append_nil]
    exact cg_end (st_list ((app_old (lt_of_get hsp)).trans hsp))
  | q :: qs, done, hb, hl => by
    have ih := comp_segs (C := C) E hsp qs (done ++ [seg t q.1 q.2]) (fun q' h => hb q' (.tail _ h)) (by simp at hl ⊢; lia)
    have hcut : cut t (some (q.1 : Int)) (some (q.2 : Int)) none = seg t q.1 q.2 := cut_seg (hb q (.head _)).1 (hb q (.head _)).2
    have hlt : (txs done).length < top := by simp at hl; simp [txs, top]; lia
    have hp : push H.length (.str (seg t q.1 q.2)) (H ++ [.list (txs done)]) = some (H ++ [.list (txs (done ++ [seg t q.1 q.2]))]) := by
      rw [p_list app_get0 hlt, app_set0]; simp [txs]
    rw [List.append_assoc] at ih
    exact cg_go (st_list ((app_old (lt_of_get hsp)).trans hsp)) (cf_one rfl (r_slice (r_var (gp_ne rfl (gp_ne rfl E))) (r_var (gp_ne rfl gp_eq)) (r_var gp_eq) e_c (sl_str rfl rfl hcut))) hp ih
theorem fr3 (E : FrE ρ t p pg sp most) (S1 : PatSpec rows1 1 side1 (lift mt0)) (hm : Takes mt0) (hpg : PatAt H pg rows1 1 side1) (ht : t.length < 19) (hch : ∀ c ∈ t, c < 1114112)
    (hsp : H[sp]? = some (.list (tups (sp0 mt0 t (t.length + 1) 0)))) (hq : (sp0 mt0 t (t.length + 1) 0).length < 19) :
    ∃ H', evS ((prg L sc ora).ctx (n + 15)) (f966.body[2]?.getD .bad) ρ H = some ((.next, ρ), H') ∧ Gr [] H H' := by
  obtain ⟨g2, H2, e2, gr2, hg2⟩ := split_e (L := L) (sc := sc) (ora := ora) (n := n) (H := H) (ρ := ρ) (pe := .var 28259031352046183) (le := .neg (.c (.int 1))) (limit := -1) (tt := false) S1 hpg (by lia) (r_var E.grouped) E.text (r_neg e_c)
  rw [split_grouped hm] at hg2
  have hchain := sp0_chain hm (t := t) (t.length + 1) 0 (by exact Nat.zero_le _)
  have hodds : odds (if t = [] then [] else interl 1 t 0 (sp0 mt0 t (t.length + 1) 0) ++ [t.drop (endOf 0 (sp0 mt0 t (t.length + 1) 0))]) = (sp0 mt0 t (t.length + 1) 0).map fun q => seg t q.1 q.2 := by
    by_cases h : t = []
    · subst h
      have : sp0 mt0 [] (([] : List Nat).length + 1) 0 = [] := by unfold sp0; rw [find_end hm (by simp)]
      rw [this]; rfl
    · rw [if_neg h, odds_interl]
  have hlen : (if t = [] then [] else interl 1 t 0 (sp0 mt0 t (t.length + 1) 0) ++ [t.drop (endOf 0 (sp0 mt0 t (t.length + 1) 0))]).length < 40 := by
    split
    · simp
    · simp only [List.length_append, List.length_singleton, interl_len]; lia
  generalize (if t = [] then [] else interl 1 t 0 (sp0 mt0 t (t.length + 1) 0) ++ [t.drop (endOf 0 (sp0 mt0 t (t.length + 1) 0))]) = I at hg2 hodds hlen
  have hcut : cut (txs I) (some 1) none (some 2) = txs (odds I) := by
    rw [cut_odds (by simpa [txs] using hlen)]
    have : ∀ l : List (List Nat), odds (txs l) = txs (odds l) := by
      intro l
      induction l using odds.induct with
      | case1 => rfl
      | case2 => rfl
      | case3 x y r ih => simp only [txs, List.map_cons, odds] at ih ⊢; rw [ih]
    exact this I
  rw [hodds] at hcut
  have hsp3 : (H2 ++ [.list (txs ((sp0 mt0 t (t.length + 1) 0).map fun q => seg t q.1 q.2))])[sp]? = some (.list (tups (sp0 mt0 t (t.length + 1) 0))) := Gr.app.get (gr2.get hsp (by simp)) (by simp)
  have hcomp := comp_segs (C := (prg L sc ora).ctx (n + 15)) (ρ := ρ) E.text hsp3 (sp0 mt0 t (t.length + 1) 0) [] (chain_bd hchain) (by simp; lia)
  have hsc : CharsOK ((sp0 mt0 t (t.length + 1) 0).map fun q => seg t q.1 q.2) := by
    intro f hf
    obtain ⟨q, _, rfl⟩ := List.mem_map.mp hf
    exact seg_chars hch _ _
  have hq2 := eq_lists (H := (H2 ++ [O.list (txs ((sp0 mt0 t (t.length + 1) 0).map fun q => seg t q.1 q.2))]) ++ [O.list (txs ((sp0 mt0 t (t.length + 1) 0).map fun q => seg t q.1 q.2))]) (i := H2.length) (j := (H2 ++ [O.list (txs ((sp0 mt0 t (t.length + 1) 0).map fun q => seg t q.1 q.2))]).length) (by rw [List.append_assoc]; exact app_get0) app_get0 hsc hsc
  refine ⟨(H2 ++ [O.list (txs ((sp0 mt0 t (t.length + 1) 0).map fun q => seg t q.1 q.2))]) ++ [O.list (txs ((sp0 mt0 t (t.length + 1) 0).map fun q => seg t q.1 q.2))], ?_, (gr2.trans Gr.app (by simp)).trans Gr.app (by simp)⟩
  · have hce : evE ((prg L sc ora).ctx (n + 15)) false (.comp (.slice (.var 1954047348) (.var 474214786402) (.var 6581861) (.c .none)) [474214786402, 6581861] false (.var 495773118579) []) ρ (H2 ++ [.list (txs ((sp0 mt0 t (t.length + 1) 0).map fun q => seg t q.1 q.2))]) =
        some (.loc (H2 ++ [O.list (txs ((sp0 mt0 t (t.length + 1) 0).map fun q => seg t q.1 q.2))]).length, (H2 ++ [O.list (txs ((sp0 mt0 t (t.length + 1) 0).map fun q => seg t q.1 q.2))]) ++ [O.list (txs ((sp0 mt0 t (t.length + 1) 0).map fun q => seg t q.1 q.2))]) := r_comp (r_var E.spans) (it_list hsp3) hcomp
    exact t_if_f (r_cmp (r_slice e2 e_c e_c e_c (sl_list2 hg2 rfl rfl hcut)) hce (ne_list hq2)) rfl ss_nil
end
section
variable {L : Nat} {sc : List V} {ora : Nat → Nat → List V → MH → R V} {n : Nat} {H : MH} {t : List Nat}
variable {mt0 : List Nat → Nat → Option Nat} {rows0 rows1 : List V} {side0 side1 : Option (Nat × List V)} {p pg sp most : Nat} {ρ : Env}
theorem pieces_len : ∀ (qs : List (Nat × Nat)) (a : Nat), (pieces t a qs).length = qs.length + 1
  | [], a => rfl
  | q :: qs, a => by simp [pieces, pieces_len qs]
noncomputable def allF (t : List Nat) (Q : List (Nat × Nat)) : List (List Nat) := if t = [] then [] else pieces t 0 Q
noncomputable def fewF (t : List Nat) (Q : List (Nat × Nat)) (m : Nat) : List (List Nat) := if t = [] then [] else pieces t 0 (Q.take (m - 1))
theorem few_len {Q : List (Nat × Nat)} {m : Nat} (hm : 1 ≤ m) : (fewF t Q m).length = min m (allF t Q).length := by
  unfold fewF allF
  split
  · simp
  · rw [pieces_len, pieces_len, List.length_take]; lia
theorem few_last {Q : List (Nat × Nat)} {m : Nat} (h : t ≠ []) : fewF t Q m = (fewF t Q m).dropLast ++ [t.drop (endOf 0 (Q.take (m - 1)))] := by
  unfold fewF
  rw [if_neg h, pieces_is]
  simp
theorem min_pred (m k : Nat) : min m (k + 1) - 1 ≤ k := Nat.sub_le_of_le_add (Nat.min_le_right m (k + 1))
theorem min_few (m k : Nat) : min (m - 1) k = min (min m (k + 1) - 1) k := by rw [← Nat.sub_min_sub_right, Nat.add_sub_cancel, Nat.min_assoc, Nat.min_self]
theorem few_front {Q : List (Nat × Nat)} {m : Nat} (hm : 1 ≤ m) : (fewF t Q m).dropLast = (allF t Q).take (min m (allF t Q).length - 1) := by
  unfold fewF allF
  split
  · simp
  · rw [pieces_is, pieces_is]
    simp only [List.dropLast_concat, List.length_append, List.length_singleton, interl_len, Nat.zero_add, Nat.one_mul]
    rw [List.take_append_of_le_length (Nat.le_trans (min_pred m Q.length) (Nat.le_of_eq ((interl_len _ _).trans (Nat.one_mul _)).symm)), interl_take]
    exact congrArg (fun l => interl 0 t 0 l) (List.take_eq_take_iff.mpr (min_few m Q.length))
theorem seqIndex_last {k : Nat} (h : 0 < k) : PySem.seqIndex? (-1) k = some (k - 1) := by
  cases k with
  | zero => exact absurd h (Nat.lt_irrefl 0)
  | succ k =>
    have e : (-1 : Int) + ((k + 1 : Nat) : Int) = (k : Int) := by rw [Int.natCast_succ, Int.add_comm, Int.add_neg_cancel_right]
    show (if 0 ≤ (-1 : Int) + ((k + 1 : Nat) : Int) && (-1 : Int) + ((k + 1 : Nat) : Int) < ((k + 1 : Nat) : Int) then some ((-1 : Int) + ((k + 1 : Nat) : Int)).toNat else none) = _
    rw [e]
    exact if_pos (Bool.and_eq_true_iff.mpr ⟨decide_eq_true (Int.natCast_nonneg k), decide_eq_true (Int.ofNat_lt.mpr (Nat.lt_succ_self k))⟩)
theorem cut_front {α : Type} {xs : List α} : cut xs none (some (-1)) none = xs.dropLast := by
  rw [cut_none, List.dropLast_eq_take]
  show (xs.drop 0).take (clp _ (-1) - ((0 : Nat) : Int)).toNat = _
  rw [clp_last, nat_dif]; rfl
structure FrE2 (ρ : Env) (t : List Nat) (p pg sp most fl fw : Nat) (kept : Nat) : Prop extends FrE ρ t p pg sp most where
  fields : Env.get ρ 126875152509286 = some (.loc fl)
  few : Env.get ρ 7824742 = some (.loc fw)
  kept : Env.get ρ 1953523051 = some (.int kept)
theorem fr4 (E : FrE ρ t p pg sp most) (S0 : PatSpec rows0 0 side0 (lift mt0)) (hm : Takes mt0) (hp : PatAt H p rows0 0 side0) (ht : t.length < 100) (h1 : 1 ≤ most) :
    ∃ fw H', evS ((prg L sc ora).ctx (n + 15)) (f966.body[3]?.getD .bad) ρ H = some ((.next, ρ.put 7824742 (.loc fw)), H') ∧ Gr [] H H' ∧ H'[fw]? = some (.list (txs (fewF t (sp0 mt0 t (t.length + 1) 0) most))) := by
  obtain ⟨g1, H1, e1, gr1, hg1⟩ := split_e (L := L) (sc := sc) (ora := ora) (n := n) (ρ := ρ) (pe := .var 30787916450984560) (le := .var 1953722221) (limit := most) (tt := false) S0 hp ht (r_var E.prog) E.text (r_var E.most)
  rw [split_few hm h1] at hg1
  exact ⟨g1, H1, t_asg e1, gr1, hg1⟩
theorem fr5 {fl : Nat} {F : List (List Nat)} (hfv : Env.get ρ 126875152509286 = some (.loc fl)) (hmv : Env.get ρ 1953722221 = some (.int most)) (hfl : H[fl]? = some (.list (txs F))) :
    evS ((prg L sc ora).ctx n) (f966.body[4]?.getD .bad) ρ H = some ((.next, ρ.put 1953523051 (.int (min most F.length : Nat))), H) := by
  have e : min (most : Int) ((txs F).length : Int) = ((min most F.length : Nat) : Int) := by rw [show (txs F).length = F.length from List.length_map _]; omega
  exact t_asg (r_bi (rs_cons (r_var hmv) (rs_cons (r_bi (rs_cons (r_var hfv) es_nil) (len_list hfl)) es_nil)) (b_min e))
theorem fr6 {fl fw : Nat} {Q : List (Nat × Nat)} (h1 : 1 ≤ most) (E : FrE2 ρ t p pg sp most fl fw (min most (allF t Q).length)) (hfl : H[fl]? = some (.list (txs (allF t Q)))) (hfw : H[fw]? = some (.list (txs (fewF t Q most)))) (hch : ∀ c ∈ t, c < 1114112) (hc : Chain t.length 0 Q) (ht : t.length < 100) :
    ∃ H', evS ((prg L sc ora).ctx n) (f966.body[5]?.getD .bad) ρ H = some ((.next, ρ), H') ∧ Gr [] H H' := by
  have hal := lt_of_get hfl
  have hwl := lt_of_get hfw
  have hlen : ((txs (fewF t Q most)).length : Int) = ((min most (allF t Q).length : Nat) : Int) := by
    have := few_len (t := t) (Q := Q) h1
    simp [txs, this]
  have hFc : CharsOK (allF t Q) := by
    unfold allF
    split
    · intro f hf; cases hf
    · exact pieces_chars hch _ _
  have hcutW : cut (txs (fewF t Q most)) none (some (-1)) none = txs ((allF t Q).take (min most (allF t Q).length - 1)) := by
    rw [cut_front, ← few_front h1]; simp [txs]
  have hmax : max (((min most (allF t Q).length : Nat) : Int) - 1) 0 = ((min most (allF t Q).length - 1 : Nat) : Int) := by lia
  have hcutF : cut (txs (allF t Q)) none (some ((min most (allF t Q).length - 1 : Nat) : Int)) none = txs ((allF t Q).take (min most (allF t Q).length - 1)) := by
    rw [cut_to (by simp [txs]; lia)]; simp [txs]
  have hTc : CharsOK ((allF t Q).take (min most (allF t Q).length - 1)) := hFc.sub fun x hx => List.mem_of_mem_take hx
  have heq := eq_lists (H := (H ++ [O.list (txs ((allF t Q).take (min most (allF t Q).length - 1)))]) ++ [O.list (txs ((allF t Q).take (min most (allF t Q).length - 1)))]) (i := H.length) (j := (H ++ [O.list (txs ((allF t Q).take (min most (allF t Q).length - 1)))]).length) (by rw [List.append_assoc]; exact app_get0) app_get0 hTc hTc
  refine ⟨(H ++ [O.list (txs ((allF t Q).take (min most (allF t Q).length - 1)))]) ++ [O.list (txs ((allF t Q).take (min most (allF t Q).length - 1)))], ?_, Gr.app.trans Gr.app (by simp)⟩
  have hfl2 : (H ++ [O.list (txs ((allF t Q).take (min most (allF t Q).length - 1)))])[fl]? = some (.list (txs (allF t Q))) := by rw [app_old hal]; exact hfl
  have hfw3 : ((H ++ [O.list (txs ((allF t Q).take (min most (allF t Q).length - 1)))]) ++ [O.list (txs ((allF t Q).take (min most (allF t Q).length - 1)))])[fw]? = some (.list (txs (fewF t Q most))) := by rw [List.append_assoc, app_old hwl]; exact hfw
  have part1 : evE ((prg L sc ora).ctx n) true (.cmp (.call (.c (.bi .len)) [(.var 7824742)]) [.ne] [(.var 1953523051)]) ρ H = some (.bool false, H) := r_cmp (r_bi (rs_cons (r_var E.few) es_nil) (len_list hfw)) (r_var E.kept) (ne_int hlen)
  have part2 : evE ((prg L sc ora).ctx n) true (.cmp (.slice (.var 7824742) (.c .none) (.neg (.c (.int 1))) (.c .none)) [.ne] [(.slice (.var 126875152509286) (.c .none) (.call (.c (.bi .max)) [(.bin .sub (.var 1953523051) (.c (.int 1))), (.c (.int 0))]) (.c .none))]) ρ H = some (.bool false, (H ++ [O.list (txs ((allF t Q).take (min most (allF t Q).length - 1)))]) ++ [O.list (txs ((allF t Q).take (min most (allF t Q).length - 1)))]) :=
    r_cmp (r_slice (r_var E.few) e_c (r_neg e_c) e_c (sl_list hfw rfl rfl hcutW)) (r_slice (r_var E.fields) e_c (r_bi (rs_cons (r_bin (r_var E.kept) e_c rfl) (rs_cons e_c es_nil)) (b_max hmax)) e_c (sl_list hfl2 rfl rfl hcutF)) (ne_list heq)
  generalize (H ++ [O.list (txs ((allF t Q).take (min most (allF t Q).length - 1)))]) ++ [O.list (txs ((allF t Q).take (min most (allF t Q).length - 1)))] = H3 at part2 hfw3 ⊢
  have part3 : evE ((prg L sc ora).ctx n) true (.bop true [(.cmp (.var 1953523051) [.gt] [(.c (.int 0))]), (.cmp (.slice (.var 1954047348) (.bin .sub (.call (.c (.bi .len)) [(.var 1954047348)]) (.call (.c (.bi .len)) [(.sub (.var 7824742) (.neg (.c (.int 1))))])) (.c .none) (.c .none)) [.ne] [(.sub (.var 7824742) (.neg (.c (.int 1))))])]) ρ H3 = some (.bool false, H3) := by
    by_cases h : t = []
    · have : (allF t Q).length = 0 := by unfold allF; rw [if_pos h]; rfl
      exact r_bop (rb_and (r_cmp (r_var E.kept) e_c (by rw [this, Nat.min_zero]; rfl)) rfl)
    · have hk : 0 < min most (allF t Q).length := by
        have : 0 < (allF t Q).length := by unfold allF; rw [if_neg h, pieces_len]; exact Nat.succ_pos _
        lia
      have hk' : (0 : Int) < ((min most (allF t Q).length : Nat) : Int) := by lia
      have hwlen : (txs (fewF t Q most)).length = min most (allF t Q).length := by simp [txs, few_len h1]
      have hlast : (txs (fewF t Q most))[min most (allF t Q).length - 1]? = some (.str (t.drop (endOf 0 (Q.take (most - 1))))) := by
        have e1 := few_last (t := t) (Q := Q) (m := most) h
        have e2 : (fewF t Q most).dropLast.length = min most (allF t Q).length - 1 := by rw [List.length_dropLast, few_len h1]
        rw [e1]
        simp only [txs, List.map_append, List.map_cons, List.map_nil]
        rw [List.getElem?_append_right (by rw [List.length_map, e2]; exact Nat.le_refl _), List.length_map, e2, Nat.sub_self]
        rfl
      have hbd := (endOf_le (chain_take (most - 1) (by exact Nat.zero_le _) hc)).2
      have hcut : cut t (some ((t.length : Int) - ((t.drop (endOf 0 (Q.take (most - 1)))).length : Int))) none none = t.drop (endOf 0 (Q.take (most - 1))) := by
        have e : ((t.length : Int) - ((t.drop (endOf 0 (Q.take (most - 1)))).length : Int)) = ((endOf 0 (Q.take (most - 1)) : Nat) : Int) := by rw [List.length_drop]; lia
        rw [e]; exact cut_from hbd
      generalize t.drop (endOf 0 (Q.take (most - 1))) = last at hlast hcut
      have hsub : subscript ((prg L sc ora).ctx n) (.loc fw) (.int (-1)) H3 = some (.str last) := bn1 (lst_is hfw3) (bn1 (by rw [hwlen]; exact seqIndex_last hk) hlast)
      exact r_bop (rb_go (r_cmp (r_var E.kept) e_c (congrArg some (decide_eq_true hk'))) rfl (rb_one (r_cmp (r_slice (r_var E.text) (r_bin (r_bi (rs_cons (r_var E.text) es_nil) rfl) (r_bi (rs_cons (r_sub (r_var E.few) (r_neg e_c) hsub) es_nil) rfl) rfl) e_c e_c (sl_str rfl rfl hcut)) (r_sub (r_var E.few) (r_neg e_c) hsub) ne_same)))
  exact t_if_f (r_bop (rb_go part1 rfl (rb_go part2 rfl (rb_one part3)))) rfl ss_nil
end
section
variable {L : Nat} {sc : List V} {ora : Nat → Nat → List V → MH → R V} {n : Nat} {H : MH} {t : List Nat}
variable {mt0 : List Nat → Nat → Option Nat} {rows0 rows1 : List V} {side0 side1 : Option (Nat × List V)} {p pg sp most : Nat} {ρ : Env}
theorem mul_ii {i j : Int} {H : MH} (h : (small i && small j) = true) : binop .mul (.int i) (.int j) H = some (.int (i * j), H) := by
  show (if (small i && small j) = true then some (V.int (i * j), H) else none) = _
  rw [h]; rfl
theorem fr7 {fl fw : Nat} {Q : List (Nat × Nat)} (h1 : 1 ≤ most) (E : FrE2 ρ t p pg sp most fl fw (min most (allF t Q).length)) (hfl : H[fl]? = some (.list (txs (allF t Q)))) (hfw : H[fw]? = some (.list (txs (fewF t Q most)))) (hsp : H[sp]? = some (.list (tups Q))) (hc : Chain t.length 0 Q) (ht : t.length < 100) :
    evS ((prg L sc ora).ctx n) (f966.body[6]?.getD .bad) ρ H = some ((.next, ρ), H) := by
  have hFl : (txs (allF t Q)).length = (allF t Q).length := by simp [txs]
  by_cases hlt : min most (allF t Q).length < (allF t Q).length
  · have hne : t ≠ [] := by rintro rfl; simp [allF] at hlt
    have hF : (allF t Q).length = Q.length + 1 := by unfold allF; rw [if_neg hne, pieces_len]
    have hk : min most (allF t Q).length = most := by lia
    have hmq : most ≤ Q.length := by lia
    have hwlen : (txs (fewF t Q most)).length = most := by simp [txs, few_len h1]; omega
    have hlast : (txs (fewF t Q most))[most - 1]? = some (.str (t.drop (endOf 0 (Q.take (most - 1))))) := by
      have e1 := few_last (t := t) (Q := Q) (m := most) hne
      have e2 : (fewF t Q most).dropLast.length = most - 1 := by rw [List.length_dropLast, few_len h1]; lia
      rw [e1]
      simp only [txs, List.map_append, List.map_cons, List.map_nil]
      rw [List.getElem?_append_right (by rw [List.length_map, e2]; exact Nat.le_refl _), List.length_map, e2, Nat.sub_self]
      rfl
    have hbd := (endOf_le (chain_take (most - 1) (by exact Nat.zero_le _) hc)).2
    have hsub : subscript ((prg L sc ora).ctx n) (.loc fw) (.int (-1)) H = some (.str (t.drop (endOf 0 (Q.take (most - 1))))) := bn1 (lst_is hfw) (bn1 (by rw [hwlen]; exact seqIndex_last (show 0 < most by exact h1)) hlast)
    have htl : (tups Q).length = Q.length := by simp [tups]
    have hspan : ∃ q : Nat × Nat, q ∈ Q ∧ subscript ((prg L sc ora).ctx n) (.loc sp) (.int ((most : Int) - 2)) H = some (.tup [.int q.1, .int q.2]) ∧ (1 < most → q.2 = endOf 0 (Q.take (most - 1))) := by
      by_cases hm1 : most = 1
      · subst hm1
        have hq0 : Q.length - 1 < Q.length := by omega
        exact ⟨Q[Q.length - 1], List.getElem_mem _, bn1 (lst_is hsp) (bn1 (by rw [htl]; exact seqIndex_last (by lia)) (by simp [tups, hq0])), fun h => absurd h (Nat.lt_irrefl 1)⟩
      · have hq0 : most - 2 < Q.length := by lia
        refine ⟨Q[most - 2], List.getElem_mem _, ?_, fun _ => ?_⟩
        · have e : (most : Int) - 2 = ((most - 2 : Nat) : Int) := by lia
          rw [e]
          exact s_int hsp (by simp [tups, hq0])
        · have := endOf_last Q 0 (most - 2) hq0
          rw [show most - 2 + 1 = most - 1 by lia] at this
          rw [this, List.getElem?_eq_getElem hq0]; rfl
    obtain ⟨q, hqm, hsp2, hq2⟩ := hspan
    have hqb := (chain_bd hc q hqm).2
    rw [hk] at E
    have c0 : (0 : Int) < (most : Int) := by exact Int.ofNat_lt.mpr h1
    have c1 : (most : Int) < ((allF t Q).length : Int) := by lia
    have hmul : ((t.length : Int) - (q.2 : Int) * (if (1 : Int) < (most : Int) then 1 else 0)) = ((t.drop (endOf 0 (Q.take (most - 1)))).length : Int) := by
      rw [List.length_drop]
      by_cases hm1 : 1 < most
      · rw [if_pos (by lia), hq2 hm1]; lia
      · have : most = 1 := by lia
        subst this
        simp [endOf]
    have s1 : (small (q.2 : Int) && small (if decide ((1 : Int) < (most : Int)) = true then (1 : Int) else 0)) = true := by
      rw [Bool.and_eq_true]
      refine ⟨by simp [small]; lia, ?_⟩
      split <;> rfl
    rw [show (if (1 : Int) < (most : Int) then (1 : Int) else 0) = (if decide ((1 : Int) < (most : Int)) = true then (1 : Int) else 0) by simp] at hmul
    have hcl : compare ((prg L sc ora).ctx n) .lt (.int (most : Int)) (.int ((txs (allF t Q)).length : Nat)) H = some true := congrArg some (decide_eq_true (by rw [hFl]; exact c1))
    have hcz : compare ((prg L sc ora).ctx n) .lt (.int 0) (.int (most : Int)) H = some true := congrArg some (decide_eq_true c0)
    have hml : binop .mul (.int (q.2 : Int)) (.int (if decide ((1 : Int) < (most : Int)) = true then (1 : Int) else 0)) H = some (.int ((q.2 : Int) * (if decide ((1 : Int) < (most : Int)) = true then (1 : Int) else 0)), H) := mul_ii s1
    exact t_if_f (r_bop (rb_go (r_cmp2 e_c (r_var E.kept) hcz rfl (r_bi (rs_cons (r_var E.fields) es_nil) (len_list hfl)) hcl) rfl (rb_one (r_cmp (r_bi (rs_cons (r_sub (r_var E.few) (r_neg e_c) hsub) es_nil) rfl)
      (r_bin (r_bi (rs_cons (r_var E.text) es_nil) rfl) (r_bin (r_sub (r_sub (r_var E.spans) (r_bin (r_var E.kept) e_c rfl) hsp2) e_c (s_tup rfl rfl rfl)) (r_bi (rs_cons (r_cmp (r_var E.kept) e_c rfl) es_nil) rfl) hml) rfl) (ne_int hmul.symm))))) rfl ss_nil
  · have hkv : ¬ ((min most (allF t Q).length : Nat) : Int) < ((txs (allF t Q)).length : Int) := by rw [hFl]; lia
    by_cases h0 : (0 : Int) < ((min most (allF t Q).length : Nat) : Int)
    · exact t_if_f (r_bop (rb_and (r_cmp2 e_c (r_var E.kept) (congrArg some (decide_eq_true h0)) rfl (r_bi (rs_cons (r_var E.fields) es_nil) (len_list hfl)) (congrArg some (decide_eq_false hkv))) rfl)) rfl ss_nil
    · exact t_if_f (r_bop (rb_and (r_cmp2f e_c (r_var E.kept) (congrArg some (decide_eq_false h0)) rfl) rfl)) rfl ss_nil
theorem fr8_loop : ∀ (K : Nat) (fs : List (List Nat)) (fl : Nat) (ρ : Env) (H : MH), fs.length < K → CharsOK fs → Env.get ρ 126875152509286 = some (.loc fl) → H[fl]? = some (.list (txs fs)) →
    ∃ ρ' fl' H', whileGo (evT ((prg L sc ora).ctx n) (.bop true [(.cmp (.var 126875152509286) [.ne] [(.list [])]), (.cmp (.sub (.var 126875152509286) (.neg (.c (.int 1)))) [.eq] [(.c (.str []))])])) (evSs ((prg L sc ora).ctx n) [.asg (.var 126875152509286) (.slice (.var 126875152509286) (.c .none) (.neg (.c (.int 1))) (.c .none))]) K ρ H = some ((.next, ρ'), H') ∧
      Env.get ρ' 126875152509286 = some (.loc fl') ∧ (∀ x, x ≠ 126875152509286 → Env.get ρ' x = Env.get ρ x) ∧ Gr [] H H' ∧ H'[fl']? = some (.list (txs (dropEnds fs fs.length)))
  | 0, fs, fl, ρ, H, hK, hch, hv, hfl => absurd hK (Nat.not_lt_zero _)
  | K + 1, fs, fl, ρ, H, hK, hch, hv, hfl => by
    have hfl2 : (H ++ [O.list (txs [])])[fl]? = some (.list (txs fs)) := (app_old (lt_of_get hfl)).trans hfl
    have t1 : evE ((prg L sc ora).ctx n) true (.cmp (.var 126875152509286) [.ne] [(.list [])]) ρ H = some (.bool (!decide (fs = [])), H ++ [O.list (txs [])]) := r_cmp (r_var hv) (r_list es_nil) (mp1 (eq_lists hfl2 app_get0 hch fun f hf => by cases hf))
    by_cases h0 : fs = []
    · exact ⟨ρ, fl, H ++ [O.list (txs [])], w_end (t_test (r_bop (rb_and t1 (by rw [h0]; rfl))) rfl), hv, fun _ _ => rfl, Gr.app, by rw [hfl2, h0]; rfl⟩
    · have hpos : 0 < fs.length := List.length_pos_iff.mpr h0
      have hlast : (txs fs)[fs.length - 1]? = some (.str (fs[fs.length - 1]'(by omega))) := by simp [txs, hpos]
      have hsub : subscript ((prg L sc ora).ctx n) (.loc fl) (.int (-1)) (H ++ [O.list (txs [])]) = some (.str (fs[fs.length - 1]'(by lia))) :=
        bn1 (lst_is hfl2) (bn1 (by rw [show (txs fs).length = fs.length from List.length_map _]; exact seqIndex_last hpos) hlast)
      have htest : evT ((prg L sc ora).ctx n) (.bop true [(.cmp (.var 126875152509286) [.ne] [(.list [])]), (.cmp (.sub (.var 126875152509286) (.neg (.c (.int 1)))) [.eq] [(.c (.str []))])]) ρ H = some (decide (fs[fs.length - 1]'(by lia) = []), H ++ [O.list (txs [])]) :=
        t_test (r_bop (rb_go t1 (by rw [decide_eq_false h0]; rfl) (rb_one (r_cmp (r_sub (r_var hv) (r_neg e_c) hsub) e_c rfl)))) rfl
      by_cases he : fs[fs.length - 1]'(by lia) = []
      · have hcut : cut (txs fs) none (some (-1)) none = txs fs.dropLast := by rw [cut_front]; simp [txs]
        have hdl : fs.dropLast.length = fs.length - 1 := by simp
        obtain ⟨ρ', fl', H', e1, e2, e3, e4, e5⟩ := fr8_loop K fs.dropLast (H ++ [O.list (txs [])]).length (ρ.put 126875152509286 (.loc (H ++ [O.list (txs [])]).length)) ((H ++ [O.list (txs [])]) ++ [O.list (txs fs.dropLast)]) (by omega) (hch.sub fun x hx => by rw [List.dropLast_eq_take] at hx; exact List.mem_of_mem_take hx) gp_eq app_get0
        refine ⟨ρ', fl', H', ?_, e2, fun x hx => by rw [e3 x hx, getput, if_neg (fun e => hx e.symm)], (Gr.app.trans Gr.app (by simp)).trans e4 (by simp), ?_⟩
        · exact w_go (htest.trans (by rw [decide_eq_true he])) (ts_go (t_asg (r_slice (r_var hv) e_c (r_neg e_c) e_c (sl_list hfl2 rfl rfl hcut))) ss_nil) e1
        · rw [e5, hdl]
          congr 3
          conv => rhs; rw [show fs.length = (fs.length - 1) + 1 by lia]
          conv => rhs; unfold dropEnds
          rw [List.getElem?_eq_getElem (by lia), he]
          simp only []
          have := drop_front (fs.length - 1) fs.dropLast [fs[fs.length - 1]'(by lia)] (by lia)
          rw [← this]
          congr 1
          have := List.dropLast_concat_getLast h0
          rw [List.getLast_eq_getElem] at this
          exact this
      · refine ⟨ρ, fl, H ++ [O.list (txs [])], ?_, hv, fun _ _ => rfl, Gr.app, ?_⟩
        · exact w_end (htest.trans (by rw [decide_eq_false he]))
        · rw [hfl2]
          congr 3
          conv => rhs; rw [show fs.length = (fs.length - 1) + 1 by lia]
          conv => rhs; unfold dropEnds
          rw [List.getElem?_eq_getElem (by lia)]
          split
          · rename_i e; exact absurd (Option.some.inj e) he
          · rw [List.take_of_length_le (by lia)]
end
section
variable {L : Nat} {sc : List V} {ora : Nat → Nat → List V → MH → R V} {n : Nat} {H : MH} {t : List Nat}
variable {mt0 : List Nat → Nat → Option Nat} {rows0 rows1 : List V} {side0 side1 : Option (Nat × List V)} {p pg sp most : Nat} {ρ : Env}
theorem dropEnds_sub : ∀ (d : Nat) (fs : List (List Nat)), ∀ x ∈ dropEnds fs d, x ∈ fs
  | 0, fs, x, h => by simp [dropEnds] at h
  | d + 1, fs, x, h => by
    unfold dropEnds at h
    split at h
    · exact dropEnds_sub d fs x h
    · exact List.mem_of_mem_take h
theorem fr9 {fl : Nat} (S0 : PatSpec rows0 0 side0 (lift mt0)) (hm : Takes mt0) (hp : PatAt H p rows0 0 side0) (ht : t.length < 100) (hch : ∀ c ∈ t, c < 1114112) (htx : Env.get ρ 1954047348 = some (.str t)) (hpr : Env.get ρ 30787916450984560 = some (.loc p)) (hfv : Env.get ρ 126875152509286 = some (.loc fl))
    (hfl : H[fl]? = some (.list (txs (dropEnds (allF t (sp0 mt0 t (t.length + 1) 0)) (allF t (sp0 mt0 t (t.length + 1) 0)).length)))) :
    ∃ H', evS ((prg L sc ora).ctx (n + 15)) (f966.body[8]?.getD .bad) ρ H = some ((.ret (.bool true), ρ), H') ∧ Gr [] H H' := by
  obtain ⟨g1, H1, e1, gr1, hg1⟩ := split_e (L := L) (sc := sc) (ora := ora) (n := n) (ρ := ρ) (pe := .var 30787916450984560) (le := .c (.int 0)) (limit := 0) (tt := false) S0 hp ht (r_var hpr) htx e_c
  rw [split_zero hm] at hg1
  change H1[g1]? = some (.list (txs (dropEnds (allF t (sp0 mt0 t (t.length + 1) 0)) (allF t (sp0 mt0 t (t.length + 1) 0)).length))) at hg1
  have hc : CharsOK (dropEnds (allF t (sp0 mt0 t (t.length + 1) 0)) (allF t (sp0 mt0 t (t.length + 1) 0)).length) := by
    refine CharsOK.sub (b := allF t (sp0 mt0 t (t.length + 1) 0)) ?_ (dropEnds_sub _ _)
    unfold allF
    split
    · intro f hf; cases hf
    · exact pieces_chars hch _ _
  have heq := eq_lists (H := H1) hg1 (gr1.get hfl (by simp)) hc hc
  exact ⟨H1, t_ret (r_cmp e1 (r_var hfv) (heq.trans (congrArg some (decide_eq_true rfl)))), gr1⟩
theorem FrE.put {x : Nat} {v : V} (E : FrE ρ t p pg sp most) (h : x = 126875152509286 ∨ x = 7824742 ∨ x = 1953523051) : FrE (ρ.put x v) t p pg sp most := by
  rcases h with rfl | rfl | rfl <;> exact ⟨gp_ne rfl E.text, gp_ne rfl E.prog, gp_ne rfl E.grouped, gp_ne rfl E.spans, gp_ne rfl E.most⟩
theorem fields_right_c (S0 : PatSpec rows0 0 side0 (lift mt0)) (S1 : PatSpec rows1 1 side1 (lift mt0)) (hm : Takes mt0) (hp : PatAt H p rows0 0 side0) (hpg : PatAt H pg rows1 1 side1) (ht : t.length < 19) (hch : ∀ c ∈ t, c < 1114112)
    (hsp : H[sp]? = some (.list (tups (sp0 mt0 t (t.length + 1) 0)))) (hq : (sp0 mt0 t (t.length + 1) 0).length < 19) (h1 : 1 ≤ most) :
    ∃ H', ((prg L sc ora).ctx (n + 16)).call 966 [.str t, .loc p, .loc pg, .loc sp, .int most] H = some (.bool true, H') ∧ Gr [] H H' := by
  have hc := sp0_chain hm (t.length + 1) 0 (Nat.zero_le t.length)
  have E0 : FrE [(1954047348, .str t), (30787916450984560, .loc p), (28259031352046183, .loc pg), (495773118579, .loc sp), (1953722221, .int most)] t p pg sp most := ⟨rfl, rfl, rfl, rfl, rfl⟩
  obtain ⟨fl, H1, e1, g1, hf1⟩ := fr1 (L := L) (sc := sc) (ora := ora) (n := n) E0 hsp hm (by lia)
  have E1 := E0.put (x := 126875152509286) (v := .loc fl) (Or.inl rfl)
  obtain ⟨H2, e2, g2⟩ := fr2 (L := L) (sc := sc) (ora := ora) (n := n) E1 S0 S1 hm (hp.gr g1) (hpg.gr g1) (by lia) hch gp_eq hf1
  have g12 := g1.trans g2 (by simp)
  obtain ⟨H3, e3, g3⟩ := fr3 (L := L) (sc := sc) (ora := ora) (n := n) E1 S1 hm (hpg.gr g12) ht hch (g12.get hsp (by simp)) hq
  have g13 := g12.trans g3 (by simp)
  obtain ⟨fw, H4, e4, g4, hf4⟩ := fr4 (L := L) (sc := sc) (ora := ora) (n := n) E1 S0 hm (hp.gr g13) (by lia) h1
  have g14 := g13.trans g4 (by simp)
  have hfl4 : H4[fl]? = some (.list (txs (allF t (sp0 mt0 t (t.length + 1) 0)))) := g4.get (g3.get (g2.get hf1 (by simp)) (by simp)) (by simp)
  have E2 := E1.put (x := 7824742) (v := .loc fw) (Or.inr (Or.inl rfl))
  have e5 := fr5 (L := L) (sc := sc) (ora := ora) (n := n + 15) (most := most) (fl := fl) (H := H4) (F := allF t (sp0 mt0 t (t.length + 1) 0)) (ρ := (Env.put (Env.put [(1954047348, .str t), (30787916450984560, .loc p), (28259031352046183, .loc pg), (495773118579, .loc sp), (1953722221, .int most)] 126875152509286 (.loc fl)) 7824742 (.loc fw))) (gp_ne rfl gp_eq) E2.most hfl4
  have E3 : FrE2 _ t p pg sp most fl fw (min most (allF t (sp0 mt0 t (t.length + 1) 0)).length) := ⟨E2.put (x := 1953523051) (v := .int (min most (allF t (sp0 mt0 t (t.length + 1) 0)).length : Nat)) (Or.inr (Or.inr rfl)), gp_ne rfl (gp_ne rfl gp_eq), gp_ne rfl gp_eq, gp_eq⟩
  obtain ⟨H6, e6, g6⟩ := fr6 (L := L) (sc := sc) (ora := ora) (n := n + 15) h1 E3 hfl4 hf4 hch hc (by lia)
  have g16 := g14.trans g6 (by simp)
  have hfl6 := g6.get hfl4 (by simp)
  have e7 := fr7 (L := L) (sc := sc) (ora := ora) (n := n + 15) h1 E3 hfl6 (g6.get hf4 (by simp)) (g16.get hsp (by simp)) hc (by lia)
  have hFc : CharsOK (allF t (sp0 mt0 t (t.length + 1) 0)) := by
    unfold allF
    split
    · intro f hf; cases hf
    · exact pieces_chars hch _ _
  have hFl : (allF t (sp0 mt0 t (t.length + 1) 0)).length ≤ 20 := by
    unfold allF
    split
    · simp
    · rw [pieces_len]; lia
  obtain ⟨ρ8, fl8, H8, e8, hv8, hk8, g8, hf8⟩ := fr8_loop (L := L) (sc := sc) (ora := ora) (n := n + 15) turns _ fl _ H6 (by unfold turns; lia) hFc E3.fields hfl6
  have g18 := g16.trans g8 (by simp)
  obtain ⟨H9, e9, g9⟩ := fr9 (L := L) (sc := sc) (ora := ora) (n := n) (ρ := ρ8) S0 hm (hp.gr g18) (by lia) hch (by rw [hk8 _ (by decide)]; exact E3.text) (by rw [hk8 _ (by decide)]; exact E3.prog) hv8 hf8
  exact ⟨H9, (call_eq' (mf := f966) rfl (by decide)).trans (f_ret (zp_cons (zp_cons (zp_cons (zp_cons (zp_cons zp_nil))))).bind (ts_go e1 (ts_go e2 (ts_go e3 (ts_go e4 (ts_go e5 (ts_go e6 (ts_go e7 (ts_go e8 (ts_ret e9)))))))))), g18.trans g9 (by simp)⟩
end
noncomputable def mtE (t : List Nat) (le : Int) (s : Nat) : Option Nat := if le ≤ s ∧ s ≤ t.length then some s else none
theorem mtE_nil {t : List Nat} {le : Int} {s : Nat} (h : s ≤ t.length) : mtE t le s = mtNil t le s := by
  unfold mtE mtNil
  by_cases hl : le ≤ (s : Int)
  · rw [if_pos ⟨hl, h⟩, if_pos hl]
  · rw [if_neg (fun x => hl x.1), if_neg hl]
theorem match_e : MatchOK (ExOf none) [.tup [sEnd]] 0 mtE := by
  intro L sc ora n H r p pr wd nl t b le most steps at0 row0 g0 q0 l0 start c ex h0 hs ht hst hle
  rw [mtE_nil hst]
  exact match_nil L sc ora n c trivial h0 hs ht hst hle
theorem spec_e : PatSpec [.tup [sEnd]] 0 none mtE := by
  refine ⟨match_e, Or.inl rfl, fun t le s e _ h => ?_⟩
  unfold mtE at h
  split at h
  · rename_i hh; cases h; exact ⟨Nat.le_refl _, hh.1, hh.2⟩
  · cases h
section
variable {t : List Nat}
theorem find_e0 {le : Int} {a : Nat} (hl : le ≤ (a : Int)) (h : a ≤ t.length) : find mtE t le a = some (a, a) := by
  unfold find
  rw [show t.length + 1 - a = (t.length - a) + 1 by lia]
  unfold srch
  have : mtE t le a = some a := by unfold mtE; rw [if_pos ⟨hl, h⟩]
  rw [this]
theorem find_e1 {a : Nat} (h : a < t.length) : find mtE t ((a : Int) + 1) a = some (a + 1, a + 1) := by
  unfold find
  rw [show t.length + 1 - a = (t.length - a - 1) + 1 + 1 by lia]
  unfold srch
  have h1 : mtE t ((a : Int) + 1) a = none := by unfold mtE; rw [if_neg (by lia)]
  rw [h1]
  simp only []
  unfold srch
  have h2 : mtE t ((a : Int) + 1) (a + 1) = some (a + 1) := by unfold mtE; rw [if_pos (by lia)]
  rw [h2]
theorem find_e2 : find mtE t ((t.length : Int) + 1) t.length = none := by
  unfold find
  rw [show t.length + 1 - t.length = 1 by lia]
  unfold srch
  have h1 : mtE t ((t.length : Int) + 1) t.length = none := by unfold mtE; rw [if_neg (by lia)]
  rw [h1]
  rfl
theorem seg_one {a : Nat} (h : a < t.length) : seg t a (a + 1) = [t[a]] := by
  unfold seg
  rw [show a + 1 - a = 1 by lia, List.drop_eq_getElem_cons h]
  rfl
theorem subL_e1 {rep : Nat → Nat → List Nat} : ∀ (d a : Nat), a ≤ t.length → t.length - a < d → (subL mtE t (fun _ _ => [35]) true d a true) = ((t.drop a).flatMap fun x => [[x], [35]], t.length, t.length - a)
  | 0, a, h, hd => by exact absurd hd (Nat.not_lt_zero _)
  | d + 1, a, h, hd => by
    unfold subL
    simp only [leOf, if_true]
    by_cases hb : a < t.length
    · rw [find_e1 hb]
      simp only [if_true, beq_self_eq_true, seg_one hb]
      rw [subL_e1 (rep := rep) d (a + 1) (by lia) (by lia), List.drop_eq_getElem_cons hb]
      simp only [List.flatMap_cons, List.cons_append, List.nil_append]
      congr 2
      lia
    · have : a = t.length := by lia
      subst this
      rw [find_e2]
      simp
theorem subL_e {d : Nat} (hd : t.length < d) : subL mtE t (fun _ _ => [35]) true (d + 1) 0 false = ([] :: [35] :: (t.flatMap fun x => [[x], [35]]), t.length, t.length + 1) := by
  unfold subL
  simp only [leOf, Bool.false_eq_true, if_false]
  rw [find_e0 (by exact Int.le_refl _) (by exact Nat.zero_le _)]
  simp only [if_true, beq_self_eq_true]
  rw [subL_e1 (rep := fun _ _ => []) d 0 (by lia) (by omega)]
  simp [seg]
theorem splitL_e : ∀ (d a c : Nat), a ≤ t.length → t.length - a < d → splitL mtE t 0 0 d a c = ((t.drop a).map (fun x => [x]), t.length, c + (t.length - a))
  | 0, a, c, h, hd => by exact absurd hd (Nat.not_lt_zero _)
  | d + 1, a, c, h, hd => by
    unfold splitL
    by_cases hb : a < t.length
    · rw [if_pos ⟨hb, Or.inl (Int.le_refl 0)⟩, find_e1 hb]
      simp only [seg_one hb, List.replicate_zero, List.nil_append]
      rw [splitL_e d (a + 1) (c + 1) (by lia) (by lia), List.drop_eq_getElem_cons hb]
      simp only [List.map_cons]
      congr 2
      lia
    · rw [if_neg (fun x => hb x.1)]
      have : a = t.length := by lia
      subst this
      simp
theorem splitF_e : splitF mtE t 0 0 = t.map fun x => [x] := by
  unfold splitF
  rw [splitL_e (t.length + 1) 0 0 (by exact Nat.zero_le _) (by exact Nat.lt_succ_self _)]
  simp only [List.drop_zero, List.drop_length, ne_eq, not_true_eq_false, and_false, or_self, if_false, if_true, List.length_map]
  cases h : t.length with
  | zero => rw [List.length_eq_zero_iff.mp h]; rfl
  | succ k =>
    unfold dropEnds
    have : (t.map fun x => [x])[k]? = some [t[k]] := by simp [h]
    rw [this]
    simp [List.take_of_length_le, h]
end
section
variable {L : Nat} {sc : List V} {ora : Nat → Nat → List V → MH → R V} {n : Nat} {H : MH} {t : List Nat}
variable {ρ : Env}
theorem comp_str {C : Ctx} {elt : ME} {g : Nat → List Nat} {x : Nat} {all : List V} : ∀ (cs : List Nat) (done : List (List Nat)), (∀ c ∈ cs, ∀ h, evE C false elt (ρ.put x (.str [c])) h = some (.str (g c), h)) → done.length + cs.length < 1000 →
    compGo (.str t) all H.length (compF C elt [x] true [] ρ) (cs.map fun c => .str [c]) (H ++ [.list (txs done)]) = some (H ++ [.list (txs (done ++ cs.map g))])
  | [], done, _, _ => by rw [show done ++ [].map g = done from List.append_nil _]; exact cg_end rfl
  | c :: cs, done, hb, hl => by
    have ih := comp_str (C := C) (elt := elt) (g := g) (x := x) (all := all) cs (done ++ [g c]) (fun q' h => hb q' (.tail _ h)) (by simp at hl ⊢; lia)
    have hlt : (txs done).length < top := by simp at hl; simp [txs, top]; lia
    have hp : push H.length (.str (g c)) (H ++ [.list (txs done)]) = some (H ++ [.list (txs (done ++ [g c]))]) := by
      rw [p_list app_get0 hlt, app_set0]; simp [txs]
    rw [List.append_assoc] at ih
    exact cg_go rfl (cf_one rfl (hb c (.head _) _)) hp ih
theorem e_comp_str {C : Ctx} {elt : ME} {g : Nat → List Nat} {x : Nat} {it : ME} {tt : Bool} (hit : evE C false it ρ H = some (.str t, H)) (ha : ∀ c ∈ t, c < 128) (hl : t.length < 1000) (he : ∀ c ∈ t, ∀ h, evE C false elt (ρ.put x (.str [c])) h = some (.str (g c), h)) :
    evE C tt (.comp elt [x] true it []) ρ H = some (.loc H.length, H ++ [.list (txs (t.map g))]) :=
  r_comp hit (if1 (by simpa using ha) rfl) (comp_str t [] he (by simpa using hl))
noncomputable def CompOK (L : Nat) (sc : List V) (ora : Nat → Nat → List V → MH → R V) (n : Nat) (src : List Nat) (rows : Nat → List V) (ng : Nat) (side : Nat → Option (Nat × List V)) : Prop :=
  ∀ H : MH, ∃ p H', ((prg L sc ora).ctx n).call 923 [.str src, .str []] H = some (.loc p, H') ∧ Gr [] H H' ∧ PatAt H' p (rows H.length) ng (side H.length)
theorem join_e {C : Ctx} {l : Nat} {ps : List (List Nat)} {sep : ME} {arg : ME} {H1 : MH} {tt : Bool} (hs : sep = .c (.str [])) (ha : evE C false arg ρ H = some (.loc l, H1)) (hl : H1[l]? = some (.list (txs ps))) (hz : ps.flatten.length ≤ 100000) :
    evE C tt (.meth sep 1852403562 [arg]) ρ H = some (.str ps.flatten, H1) := by
  subst hs
  exact r_meth e_c rfl (rs_cons ha es_nil) (a_join hl (by rw [cost_txs]; unfold top; lia) (join_txs ps))
theorem sub_x {rows : List V} {ng : Nat} {side : Option (Nat × List V)} {mt : List Nat → Int → Nat → Option Nat} (S : PatSpec rows ng side mt) {p f : Nat} {glob : Bool} {rep : Nat → Nat → List Nat} {pe te fe : ME} {tt : Bool} (hR : RepOK L sc ora t f rep) (hp : PatAt H p rows ng side) (ht : t.length < 100)
    (hsz : (subL mt t rep glob (2 * t.length + 2) 0 false).1.flatten.length ≤ 100000)
    (h1 : evE ((prg L sc ora).ctx (n + 16)) false pe ρ H = some (.loc p, H)) (h2 : evE ((prg L sc ora).ctx (n + 16)) false te ρ H = some (.str t, H)) (h3 : evE ((prg L sc ora).ctx (n + 16)) false fe ρ H = some (.ref f, H)) :
    ∃ H', evE ((prg L sc ora).ctx (n + 16)) tt (.call (.c (.ref 459)) [pe, te, fe, .c (.bool glob), .call (.c (.ref 477)) []]) ρ H = some (.tup [.str ((subL mt t rep glob (2 * t.length + 2) 0 false).1.flatten ++ t.drop (subL mt t rep glob (2 * t.length + 2) 0 false).2.1), .int (subL mt t rep glob (2 * t.length + 2) 0 false).2.2], H') ∧ Gr [] H H' := by
  have g0 : Gr [] H (H ++ [limO]) := Gr.app
  obtain ⟨H', e1, g1⟩ := sub_c (L := L) (sc := sc) (ora := ora) (n := n) (H := H ++ [limO]) (t := t) (li := H.length) S hR (hp.gr g0) (by simp) ht hsz
  exact ⟨H', r_call (rs_cons h1 (rs_cons h2 (rs_cons h3 (rs_cons e_c (rs_cons (r_call es_nil limits_c) es_nil))))) e1, g0.trans g1 (by simp)⟩
theorem sub_e {rows : List V} {ng : Nat} {side : Option (Nat × List V)} {mt : List Nat → Int → Nat → Option Nat} (S : PatSpec rows ng side mt) {p f : Nat} {glob : Bool} {rep : Nat → Nat → List Nat} {pe fe : ME} {tt : Bool} (hR : RepOK L sc ora t f rep) (hp : PatAt H p rows ng side) (ht : t.length < 100)
    (hsz : (subL mt t rep glob (2 * t.length + 2) 0 false).1.flatten.length ≤ 100000)
    (h1 : evE ((prg L sc ora).ctx (n + 16)) false pe ρ H = some (.loc p, H)) (h2 : Env.get ρ 1954047348 = some (.str t)) (h3 : evE ((prg L sc ora).ctx (n + 16)) false fe ρ H = some (.ref f, H)) :
    ∃ H', evE ((prg L sc ora).ctx (n + 16)) tt (.call (.c (.ref 459)) [pe, .var 1954047348, fe, .c (.bool glob), .call (.c (.ref 477)) []]) ρ H = some (.tup [.str ((subL mt t rep glob (2 * t.length + 2) 0 false).1.flatten ++ t.drop (subL mt t rep glob (2 * t.length + 2) 0 false).2.1), .int (subL mt t rep glob (2 * t.length + 2) 0 false).2.2], H') ∧ Gr [] H H' := sub_x S hR hp ht hsz h1 (r_var h2) h3
end
section
variable {L : Nat} {sc : List V} {ora : Nat → Nat → List V → MH → R V} {n : Nat} {H : MH} {t : List Nat}
variable {ρ : Env}
theorem eqv_pair {s : List Nat} {i : Int} {H : MH} (h : ∀ x ∈ s, x < 1114112) : eqV (.tup [.str s, .int i]) (.tup [.str s, .int i]) H = some true := by
  have h1 : ([V.str s, .int i].all scal && [V.str s, .int i].all scal) = true := by simp [scal]; exact h
  exact (if_pos h1).trans (congrArg some (decide_eq_true rfl))
theorem add_ss {x y : List Nat} {H : MH} (h : x.length + y.length ≤ 200000) : binop .add (.str x) (.str y) H = some (.str (x ++ y), H) := by
  show (if x.length + y.length ≤ top then some (V.str (x ++ y), H) else none) = _
  rw [if_pos (by unfold top; exact Nat.le_add_left_of_le h)]
theorem add_ii {i j : Int} {H : MH} : binop .add (.int i) (.int j) H = some (.int (i + j), H) := rfl
theorem flat_e : ∀ (t : List Nat), (t.flatMap fun x => [[x], [35]]).flatten = (t.map fun x => [x, 35]).flatten
  | [] => rfl
  | x :: t => by simp [flat_e t]
theorem len_e : ∀ (t : List Nat), (t.map fun x => [x, 35]).flatten.length = 2 * t.length
  | [] => rfl
  | x :: t => by simp [len_e t]; exact Nat.add_assoc _ _ _
theorem empty_right_c (hk : CompOK L sc ora (n + 16) [40, 63, 58, 41] (fun _ => [.tup [sEnd]]) 0 (fun _ => none)) (ht : t.length < 90) (ha : ∀ c ∈ t, c < 128) :
    ∃ H', ((prg L sc ora).ctx (n + 17)).call 978 [.str t] H = some (.bool true, H') ∧ Gr [] H H' := by
  obtain ⟨p, H1, e1, g1, hp⟩ := hk H
  have hs := subL_e (t := t) (d := 2 * t.length + 1) (by lia)
  have hfl : (subL mtE t (fun _ _ => [35]) true (2 * t.length + 2) 0 false).1.flatten = 35 :: (t.map fun x => [x, 35]).flatten := by
    rw [hs]; simp only [List.flatten_cons, flat_e]; rfl
  have hlen := len_e t
  obtain ⟨H2, e2, g2⟩ := sub_e (L := L) (sc := sc) (ora := ora) (n := n) (H := H1) (t := t) (ρ := [(1954047348, .str t), (30787916450984560, .loc p)]) (pe := .var 30787916450984560) (fe := .c (.ref 954)) (tt := false) (glob := true) spec_e (mark_c (L := L) (sc := sc) (ora := ora) (t := t)) hp (by exact Nat.lt_add_left _ ht) (by rw [hfl, List.length_cons]; lia) (r_var rfl) rfl e_c
  rw [hfl] at e2
  rw [hs] at e2
  simp only [List.drop_length, List.append_nil] at e2
  have c1 := e_comp_str (C := (prg L sc ora).ctx (n + 16)) (H := H2) (t := t) (ρ := [(1954047348, .str t), (30787916450984560, .loc p)]) (elt := .bin .add (.var 1852270963) (.c (.str [35]))) (g := fun c => [c, 35]) (x := 1852270963) (it := .var 1954047348) (tt := false) (r_var rfl) ha (by exact Nat.lt_add_left _ ht) (fun c _ h => r_bin (r_var gp_eq) e_c (add_ss (by simp)))
  have j1 := join_e (C := (prg L sc ora).ctx (n + 16)) (ρ := [(1954047348, .str t), (30787916450984560, .loc p)]) (sep := .c (.str [])) (tt := false) rfl c1 app_get0 (by rw [hlen]; lia)
  have gA : Gr [] H2 (H2 ++ [.list (txs (t.map fun c => [c, 35]))]) := Gr.app
  have t2 : evE ((prg L sc ora).ctx (n + 16)) false (.tup [(.bin .add (.c (.str [35])) (.meth (.c (.str [])) 1852403562 [(.comp (.bin .add (.var 1852270963) (.c (.str [35]))) [1852270963] true (.var 1954047348) [])])), (.bin .add (.call (.c (.bi .len)) [(.var 1954047348)]) (.c (.int 1)))]) [(1954047348, .str t), (30787916450984560, .loc p)] H2 = some (.tup [.str (35 :: (t.map fun x => [x, 35]).flatten), .int ((t.length + 1 : Nat) : Int)], H2 ++ [.list (txs (t.map fun c => [c, 35]))]) := r_tup (rs_cons (r_bin e_c j1 (add_ss (by rw [hlen]; simp; lia))) (rs_cons (r_bin (r_bi (rs_cons (r_var rfl) es_nil) rfl) e_c rfl) es_nil))
  have gB := (g1.trans g2 (by simp)).trans gA (by simp)
  have gC := g2.trans gA (by simp)
  obtain ⟨f3, H3, e3, g3, hf3⟩ := split_e (L := L) (sc := sc) (ora := ora) (n := n + 1) (t := t) (H := H2 ++ [.list (txs (t.map fun c => [c, 35]))]) (ρ := [(1954047348, .str t), (30787916450984560, .loc p)]) (pe := .var 30787916450984560) (le := .c (.int 0)) (limit := 0) (tt := false) spec_e (hp.gr gC) (by lia) (r_var rfl) rfl e_c
  rw [splitF_e] at hf3
  have c4 := e_comp_str (C := (prg L sc ora).ctx (n + 16)) (H := H3) (t := t) (ρ := [(1954047348, .str t), (30787916450984560, .loc p)]) (elt := .var 1852270963) (g := fun c => [c]) (x := 1852270963) (it := .var 1954047348) (tt := false) (r_var rfl) ha (by lia) (fun c _ h => r_var gp_eq)
  have hps : ∀ x ∈ 35 :: (t.map fun x => [x, 35]).flatten, x < 1114112 := by
    intro x hx
    rcases List.mem_cons.mp hx with rfl | hx
    · decide
    · obtain ⟨l, hl, hx⟩ := List.mem_flatten.mp hx
      obtain ⟨y, hy, rfl⟩ := List.mem_map.mp hl
      have := ha y hy
      simp at hx
      lia
  have hch : CharsOK (t.map fun x => [x]) := by
    intro f hf c hc
    obtain ⟨x, hx, rfl⟩ := List.mem_map.mp hf
    have := ha x hx
    have h2 : c = x := by simpa using hc
    lia
  have heq := eq_lists (H := H3 ++ [.list (txs (t.map fun x => [x]))]) (i := f3) (j := H3.length) (by rw [app_old (lt_of_get hf3)]; exact hf3) app_get0 hch hch
  have q3 : compare ((prg L sc ora).ctx (n + 16)) .eq (.loc f3) (.loc H3.length) (H3 ++ [.list (txs (t.map fun x => [x]))]) = some true := heq.trans (congrArg some (decide_eq_true rfl))
  have s1 := t_asg (x := 30787916450984560) (r_call (rs_cons (e_c (v := .str [40, 63, 58, 41]) (C := (prg L sc ora).ctx (n + 16)) (t := false) (ρ := [(1954047348, .str t)])) (rs_cons e_c es_nil)) e1)
  have s2 := t_if_f (a := [.ret (.c (.bool false))]) (r_cmp (op := .ne) (q := false) e2 t2 (mp1 (eqv_pair hps))) rfl ss_nil
  have s3 := t_ret (r_cmp e3 c4 q3)
  exact ⟨_, (call_eq' (mf := f978) rfl (by decide)).trans (f_ret (zp_cons zp_nil).bind (ts_go s1 (ts_go s2 (ts_ret s3)))), (gB.trans g3 (by simp)).trans Gr.app (by simp)⟩
end
section
variable {t : List Nat} {mt0 : List Nat → Nat → Option Nat}
theorem sp0_fuel (h : Takes mt0) : ∀ (d d' a : Nat), a ≤ t.length → t.length - a < d → t.length - a < d' → sp0 mt0 t d a = sp0 mt0 t d' a
  | 0, _, a, _, hd, _ => by lia
  | d + 1, 0, a, _, _, hd => by lia
  | d + 1, d' + 1, a, ha, hd, hd' => by
    unfold sp0
    cases hf : find (lift mt0) t 0 a with
    | none => rfl
    | some q =>
      have hq := find_facts h hf
      simp only []
      rw [sp0_fuel h d d' q.2 hq.2.2 (by lia) (by lia)]
theorem join_pieces : ∀ (qs : List (Nat × Nat)) (a : Nat), joinTexts [35] (txs (pieces t a qs)) = some (subJ (fun _ _ => [35]) t a qs)
  | [], a => rfl
  | q :: qs, a => by
    have ih := join_pieces qs q.2
    have e : joinTexts [35] (txs (pieces t a (q :: qs))) = (joinTexts [35] (txs (pieces t q.2 qs))).map fun t' => seg t a q.1 ++ ([35] ++ t') := by cases qs <;> rfl
    rw [e, ih]; rfl
theorem cost_one : ∀ (ps : List (List Nat)), joinCost [35] (txs ps) = ps.flatten.length + ps.length
  | [] => rfl
  | p :: r => (congrArg (p.length + 1 + ·) (cost_one r)).trans (by simp; lia)
theorem pieces_flat : ∀ (qs : List (Nat × Nat)) (a : Nat), Chain t.length a qs → a ≤ t.length → (pieces t a qs).flatten.length ≤ t.length - a
  | [], a, _, _ => by simp [pieces]
  | q :: qs, a, ⟨h1, h2, h3, h4⟩, ha => by
    have ih := pieces_flat qs q.2 h4 (by omega)
    simp only [pieces, List.flatten_cons, List.length_append]
    have : (seg t a q.1).length ≤ q.1 - a := by simp [seg]; exact Nat.min_le_left _ _
    lia
theorem subJ_len : ∀ (qs : List (Nat × Nat)) (a : Nat), Chain t.length a qs → a ≤ t.length → (subJ (fun _ _ => [35]) t a qs).length ≤ t.length - a + qs.length
  | [], a, _, _ => by simp [subJ]
  | q :: qs, a, ⟨h1, h2, h3, h4⟩, ha => by
    have ih := subJ_len qs q.2 h4 (by omega)
    simp only [subJ, List.length_append, List.length_cons, List.length_nil]
    have : (seg t a q.1).length ≤ q.1 - a := by simp [seg]; exact Nat.min_le_left _ _
    lia
end
section
variable {L : Nat} {sc : List V} {ora : Nat → Nat → List V → MH → R V} {n : Nat} {H : MH} {t : List Nat}
variable {mt0 : List Nat → Nat → Option Nat} {ρ : Env}
theorem sub_val {rep : Nat → Nat → List Nat} (hm : Takes mt0) : (subL (lift mt0) t rep true (2 * t.length + 2) 0 false).1.flatten ++ t.drop (subL (lift mt0) t rep true (2 * t.length + 2) 0 false).2.1 = subJ rep t 0 (sp0 mt0 t (t.length + 1) 0) ∧
    (subL (lift mt0) t rep true (2 * t.length + 2) 0 false).2.2 = (sp0 mt0 t (t.length + 1) 0).length := by
  rw [sub_is, sp0_stable hm (2 * t.length + 2) (t.length + 1) 0 (by lia) (by exact Nat.le_add_left _ _)]
  exact ⟨sub_flat _ _, rfl⟩
theorem sub_val1 {rep : Nat → Nat → List Nat} : subL (lift mt0) t rep false (2 * t.length + 2) 0 false = (match (sp0 mt0 t (t.length + 1) 0) with
    | [] => ([], 0, 0)
    | q :: _ => ([seg t 0 q.1, rep q.1 q.2], q.2, 1)) := by
  unfold subL sp0
  rw [find_le (leOf false 0) 0]
  cases find (lift mt0) t 0 0 with
  | none => rfl
  | some q => rfl
theorem sub_all_x {rows : List V} {side : Option (Nat × List V)} (S : PatSpec rows 0 side (lift mt0)) (hm : Takes mt0) {p f : Nat} {rep : Nat → Nat → List Nat} {pe te fe : ME} {tt : Bool} (hR : RepOK L sc ora t f rep) (hp : PatAt H p rows 0 side) (ht : t.length < 100)
    (hsz : (subJ rep t 0 (sp0 mt0 t (t.length + 1) 0)).length ≤ 100000)
    (h1 : evE ((prg L sc ora).ctx (n + 16)) false pe ρ H = some (.loc p, H)) (h2 : evE ((prg L sc ora).ctx (n + 16)) false te ρ H = some (.str t, H)) (h3 : evE ((prg L sc ora).ctx (n + 16)) false fe ρ H = some (.ref f, H)) :
    ∃ H', evE ((prg L sc ora).ctx (n + 16)) tt (.call (.c (.ref 459)) [pe, te, fe, .c (.bool true), .call (.c (.ref 477)) []]) ρ H = some (.tup [.str (subJ rep t 0 (sp0 mt0 t (t.length + 1) 0)), .int (sp0 mt0 t (t.length + 1) 0).length], H') ∧ Gr [] H H' := by
  have hv := sub_val (t := t) (rep := rep) hm
  have hlen : (subL (lift mt0) t rep true (2 * t.length + 2) 0 false).1.flatten.length ≤ 100000 := by
    have := congrArg List.length hv.1
    rw [List.length_append] at this
    lia
  obtain ⟨H', e, g⟩ := sub_x (L := L) (sc := sc) (ora := ora) (n := n) (tt := tt) S hR hp ht hlen h1 h2 h3
  rw [hv.1, hv.2] at e
  exact ⟨H', e, g⟩
theorem sub_all_e {rows : List V} {side : Option (Nat × List V)} (S : PatSpec rows 0 side (lift mt0)) (hm : Takes mt0) {p f : Nat} {rep : Nat → Nat → List Nat} {pe fe : ME} {tt : Bool} (hR : RepOK L sc ora t f rep) (hp : PatAt H p rows 0 side) (ht : t.length < 100)
    (hsz : (subJ rep t 0 (sp0 mt0 t (t.length + 1) 0)).length ≤ 100000)
    (h1 : evE ((prg L sc ora).ctx (n + 16)) false pe ρ H = some (.loc p, H)) (h2 : Env.get ρ 1954047348 = some (.str t)) (h3 : evE ((prg L sc ora).ctx (n + 16)) false fe ρ H = some (.ref f, H)) :
    ∃ H', evE ((prg L sc ora).ctx (n + 16)) tt (.call (.c (.ref 459)) [pe, .var 1954047348, fe, .c (.bool true), .call (.c (.ref 477)) []]) ρ H = some (.tup [.str (subJ rep t 0 (sp0 mt0 t (t.length + 1) 0)), .int (sp0 mt0 t (t.length + 1) 0).length], H') ∧ Gr [] H H' := sub_all_x S hm hR hp ht hsz h1 (r_var h2) h3
end
section
variable {L : Nat} {sc : List V} {ora : Nat → Nat → List V → MH → R V} {n : Nat} {H : MH} {t : List Nat}
variable {mt0 : List Nat → Nat → Option Nat} {ρ : Env} {p sp fl a : Nat} {Q : List (Nat × Nat)}
theorem seg_ch {i j : Nat} (h : ∀ c ∈ t, c < 1114112) : ∀ c ∈ seg t i j, c < 1114112 := fun c hc => h c (List.mem_of_mem_drop (List.mem_of_mem_take hc))
theorem subJ_chars (h : ∀ c ∈ t, c < 1114112) : ∀ (qs : List (Nat × Nat)) (k : Nat), ∀ c ∈ subJ (fun _ _ => [35]) t k qs, c < 1114112
  | [], k, c, hc => h c (List.mem_of_mem_drop hc)
  | q :: qs, k, c, hc => by
    simp only [subJ, List.mem_append] at hc
    rcases hc with hc | hc | hc
    · exact seg_ch h c hc
    · simp at hc; lia
    · exact subJ_chars h qs q.2 c hc
theorem rr1 (htx : Env.get ρ 1954047348 = some (.str t)) (hs : Env.get ρ 495773118579 = some (.loc sp)) (hsp : H[sp]? = some (.list (tups Q))) (hc : Chain t.length 0 Q) (hq : Q.length < 900) :
    ∃ fl H', evS ((prg L sc ora).ctx (n + 16)) (f973.body[1]?.getD .bad) ρ H = some ((.next, (ρ.put 126875152509286 (.loc fl)).put 2037277037 (.int Q.length)), H') ∧ Gr [] H H' ∧ H'[fl]? = some (.list (txs (pieces t 0 Q))) := by
  obtain ⟨g, G, e, _, hg⟩ := between_c (L := L) (sc := sc) (ora := ora) (n := n + 15) hsp hc hq
  have hsp' : (H ++ G)[sp]? = some (.list (tups Q)) := by rw [app_old (lt_of_get hsp)]; exact hsp
  have e' : ((prg L sc ora).ctx (n + 16)).call 961 [.str t, .loc sp] H = some (.loc g, H ++ G) := e
  have hl : builtin .len [.loc sp] (H ++ G) = some (.int Q.length, H ++ G) := by rw [len_list hsp', show (tups Q).length = Q.length from List.length_map _]
  exact ⟨g, H ++ G, t_asgs (r_tup (rs_cons (r_call (rs_cons (r_var htx) (rs_cons (r_var hs) es_nil)) e') (rs_cons (r_bi (rs_cons (r_var hs) es_nil) hl) es_nil))) rfl, Gr.app, hg⟩
theorem rr2 {rows : List V} {side : Option (Nat × List V)} (S : PatSpec rows 0 side (lift mt0)) (hm : Takes mt0) (hp : PatAt H p rows 0 side) (ht : t.length < 100) (hch : ∀ c ∈ t, c < 1114112) (htx : Env.get ρ 1954047348 = some (.str t)) (hpr : Env.get ρ 30787916450984560 = some (.loc p)) (hfv : Env.get ρ 126875152509286 = some (.loc fl)) (hmv : Env.get ρ 2037277037 = some (.int (sp0 mt0 t (t.length + 1) 0).length))
    (hfl : H[fl]? = some (.list (txs (pieces t 0 (sp0 mt0 t (t.length + 1) 0))))) (hq : (sp0 mt0 t (t.length + 1) 0).length < 900) :
    ∃ H', evS ((prg L sc ora).ctx (n + 16)) (f973.body[2]?.getD .bad) ρ H = some ((.next, ρ), H') ∧ Gr [] H H' := by
  have hc := sp0_chain hm (t.length + 1) 0 (Nat.zero_le t.length)
  have hlen := subJ_len _ 0 hc (Nat.zero_le _)
  obtain ⟨H1, e1, g1⟩ := sub_all_e (L := L) (sc := sc) (ora := ora) (n := n) (ρ := ρ) (pe := .var 30787916450984560) (fe := .c (.ref 954)) (tt := false) S hm (mark_c (L := L) (sc := sc) (ora := ora) (t := t)) hp ht (by lia) (r_var hpr) htx e_c
  have hf1 := g1.get hfl (by simp)
  have hjt := join_pieces (t := t) (sp0 mt0 t (t.length + 1) 0) 0
  have hpf := pieces_flat _ 0 hc (Nat.zero_le _)
  have hjc : joinCost [35] (txs (pieces t 0 (sp0 mt0 t (t.length + 1) 0))) ≤ top := by rw [cost_one, pieces_len]; unfold top; lia
  have hj := r_meth (C := (prg L sc ora).ctx (n + 16)) (ρ := ρ) (t := false) (e_c (v := .str [35])) (m := 1852403562) rfl (rs_cons (r_var hfv) es_nil) (a_join hf1 hjc hjt)
  exact ⟨H1, t_if_f (r_cmp (op := .ne) (q := false) e1 (r_tup (rs_cons hj (rs_cons (r_var hmv) es_nil))) (mp1 (eqv_pair (subJ_chars hch _ 0)))) rfl ss_nil, g1⟩
theorem rr3 {rows : List V} {side : Option (Nat × List V)} (S : PatSpec rows 0 side (lift mt0)) (hm : Takes mt0) (hR : RepOK L sc ora t a (seg t)) (hp : PatAt H p rows 0 side) (ht : t.length < 100) (hch : ∀ c ∈ t, c < 1114112) (htx : Env.get ρ 1954047348 = some (.str t)) (hpr : Env.get ρ 30787916450984560 = some (.loc p)) (hsv : Env.get ρ 1701667187 = some (.ref a)) (hmv : Env.get ρ 2037277037 = some (.int (sp0 mt0 t (t.length + 1) 0).length)) :
    ∃ H', evS ((prg L sc ora).ctx (n + 16)) (f973.body[3]?.getD .bad) ρ H = some ((.next, ρ), H') ∧ Gr [] H H' := by
  have hc := sp0_chain hm (t.length + 1) 0 (Nat.zero_le t.length)
  have hs := subJ_same hc
  rw [List.drop_zero] at hs
  obtain ⟨H1, e1, g1⟩ := sub_all_e (L := L) (sc := sc) (ora := ora) (n := n) (ρ := ρ) (pe := .var 30787916450984560) (fe := .var 1701667187) (tt := false) S hm hR hp ht (by rw [hs]; lia) (r_var hpr) htx (r_var hsv)
  rw [hs] at e1
  exact ⟨H1, t_if_f (r_cmp (op := .ne) (q := false) e1 (r_tup (rs_cons (r_var htx) (rs_cons (r_var hmv) es_nil))) (mp1 (eqv_pair hch))) rfl ss_nil, g1⟩
end
section
variable {L : Nat} {sc : List V} {ora : Nat → Nat → List V → MH → R V} {n : Nat} {H : MH} {t : List Nat}
variable {mt0 : List Nat → Nat → Option Nat} {ρ : Env} {p sp fl a : Nat} {Q : List (Nat × Nat)}
noncomputable def oneOf (t : List Nat) : List (Nat × Nat) → List Nat
  | [] => t
  | q :: _ => (seg t 0 q.1 ++ [35]) ++ t.drop q.2
theorem rr4 (htx : Env.get ρ 1954047348 = some (.str t)) (hs : Env.get ρ 495773118579 = some (.loc sp)) (hfv : Env.get ρ 126875152509286 = some (.loc fl)) (hmv : Env.get ρ 2037277037 = some (.int Q.length)) (hsp : H[sp]? = some (.list (tups Q))) (hfl : H[fl]? = some (.list (txs (pieces t 0 Q)))) (hc : Chain t.length 0 Q) (ht : t.length < 100) (hq : Q.length < 900) :
    evS ((prg L sc ora).ctx n) (f973.body[4]?.getD .bad) ρ H = some ((.next, ρ.put 6647407 (.str (oneOf t Q))), H) := by
  cases Q with
  | nil => exact t_asg (r_ite_t (q := true) (r_cmp (r_var hmv) e_c rfl) rfl (r_var htx))
  | cons q qs =>
    have hqb := chain_bd hc q (.head _)
    have h0 : compare ((prg L sc ora).ctx n) .eq (.int (((q :: qs).length : Nat) : Int)) (.int 0) H = some false := congrArg some (decide_eq_false (by rw [List.length_cons]; lia))
    have hg1 : subscript ((prg L sc ora).ctx n) (.loc sp) (.int 0) H = some (.tup [.int q.1, .int q.2]) := s_int0 hsp
    have a1 : binop .add (.str (seg t 0 q.1)) (.str [35]) H = some (.str (seg t 0 q.1 ++ [35]), H) := add_ss (by simp [seg]; lia)
    have a2 : binop .add (.str (seg t 0 q.1 ++ [35])) (.str (t.drop q.2)) H = some (.str ((seg t 0 q.1 ++ [35]) ++ t.drop q.2), H) := add_ss (by simp [seg]; lia)
    exact t_asg (r_ite_f (r_cmp (r_var hmv) e_c h0) rfl (r_bin (r_bin (r_sub (r_var hfv) e_c (s_int0 hfl)) e_c a1) (r_slice (r_var htx) (r_sub (r_sub (r_var hs) e_c hg1) e_c (s_tup rfl rfl rfl)) e_c e_c (sl_str rfl rfl (cut_from hqb.2))) a2))
end
section
variable {L : Nat} {sc : List V} {ora : Nat → Nat → List V → MH → R V} {n : Nat} {H : MH} {t : List Nat}
variable {mt0 : List Nat → Nat → Option Nat} {ρ : Env} {p sp fl a : Nat} {Q : List (Nat × Nat)}
theorem one_chars (h : ∀ c ∈ t, c < 1114112) : ∀ c ∈ oneOf t Q, c < 1114112 := by
  intro c hc
  cases Q with
  | nil => exact h c hc
  | cons q qs =>
    simp only [oneOf, List.mem_append] at hc
    rcases hc with (hc | hc) | hc
    · exact seg_ch h c hc
    · simp at hc; lia
    · exact h c (List.mem_of_mem_drop hc)
theorem one_is : (subL (lift mt0) t (fun _ _ => [35]) false (2 * t.length + 2) 0 false).1.flatten ++ t.drop (subL (lift mt0) t (fun _ _ => [35]) false (2 * t.length + 2) 0 false).2.1 = oneOf t (sp0 mt0 t (t.length + 1) 0) ∧
    (subL (lift mt0) t (fun _ _ => [35]) false (2 * t.length + 2) 0 false).2.2 = min (sp0 mt0 t (t.length + 1) 0).length 1 := by
  rw [sub_val1]
  cases sp0 mt0 t (t.length + 1) 0 with
  | nil => simp [oneOf]
  | cons q qs => simp [oneOf]
theorem rr5 {rows : List V} {side : Option (Nat × List V)} (S : PatSpec rows 0 side (lift mt0)) (hp : PatAt H p rows 0 side) (ht : t.length < 100) (hch : ∀ c ∈ t, c < 1114112) (htx : Env.get ρ 1954047348 = some (.str t)) (hpr : Env.get ρ 30787916450984560 = some (.loc p)) (hov : Env.get ρ 6647407 = some (.str (oneOf t (sp0 mt0 t (t.length + 1) 0)))) (hmv : Env.get ρ 2037277037 = some (.int (sp0 mt0 t (t.length + 1) 0).length)) :
    ∃ H', evS ((prg L sc ora).ctx (n + 16)) (f973.body[5]?.getD .bad) ρ H = some ((.ret (.bool true), ρ), H') ∧ Gr [] H H' := by
  have ho := one_is (t := t) (mt0 := mt0)
  have hlen : (subL (lift mt0) t (fun _ _ => [35]) false (2 * t.length + 2) 0 false).1.flatten.length ≤ 100000 := by
    have h1 := congrArg List.length ho.1
    rw [List.length_append] at h1
    have h2 : (oneOf t (sp0 mt0 t (t.length + 1) 0)).length ≤ 500 := by
      cases sp0 mt0 t (t.length + 1) 0 with
      | nil => simp [oneOf]; lia
      | cons q qs => simp [oneOf, seg]; omega
    lia
  obtain ⟨H1, e1, g1⟩ := sub_e (L := L) (sc := sc) (ora := ora) (n := n) (ρ := ρ) (pe := .var 30787916450984560) (fe := .c (.ref 954)) (tt := false) (glob := false) S (mark_c (L := L) (sc := sc) (ora := ora) (t := t)) hp ht hlen (r_var hpr) htx e_c
  rw [ho.1, ho.2] at e1
  have hmin : min ((sp0 mt0 t (t.length + 1) 0).length : Int) 1 = ((min (sp0 mt0 t (t.length + 1) 0).length 1 : Nat) : Int) := by omega
  exact ⟨H1, t_ret (r_cmp (op := .eq) (q := true) e1 (r_tup (rs_cons (r_var hov) (rs_cons (r_bi (rs_cons (r_var hmv) (rs_cons e_c es_nil)) (b_min hmin)) es_nil))) (eqv_pair (H := H1) (one_chars hch))), g1⟩
end
section
variable {L : Nat} {sc : List V} {ora : Nat → Nat → List V → MH → R V} {n : Nat} {H : MH} {t : List Nat}
variable {mt0 : List Nat → Nat → Option Nat} {ρ : Env} {p sp a : Nat}
theorem replaced_body {rows : List V} {side : Option (Nat × List V)} (S : PatSpec rows 0 side (lift mt0)) (hm : Takes mt0) (hR : RepOK L sc ora t a (seg t)) (hp : PatAt H p rows 0 side) (ht : t.length < 100) (hch : ∀ c ∈ t, c < 1114112)
    (htx : Env.get ρ 1954047348 = some (.str t)) (hpr : Env.get ρ 30787916450984560 = some (.loc p)) (hs : Env.get ρ 495773118579 = some (.loc sp)) (hsv : Env.get ρ 1701667187 = some (.ref a))
    (hsp : H[sp]? = some (.list (tups (sp0 mt0 t (t.length + 1) 0)))) (hq : (sp0 mt0 t (t.length + 1) 0).length < 900) :
    ∃ ρ' H', evSs ((prg L sc ora).ctx (n + 16)) (f973.body.drop 1) ρ H = some ((.ret (.bool true), ρ'), H') ∧ Gr [] H H' := by
  have hc := sp0_chain hm (t.length + 1) 0 (Nat.zero_le t.length)
  obtain ⟨fl, H1, e1, g1, hf1⟩ := rr1 (L := L) (sc := sc) (ora := ora) (n := n) htx hs hsp hc hq
  obtain ⟨H2, e2, g2⟩ := rr2 (L := L) (sc := sc) (ora := ora) (n := n) (ρ := (ρ.put 126875152509286 (.loc fl)).put 2037277037 (.int (sp0 mt0 t (t.length + 1) 0).length)) S hm (hp.gr g1) ht hch (gp_ne rfl (gp_ne rfl htx)) (gp_ne rfl (gp_ne rfl hpr)) (gp_ne rfl gp_eq) gp_eq hf1 hq
  have g12 := g1.trans g2 (by simp)
  obtain ⟨H3, e3, g3⟩ := rr3 (L := L) (sc := sc) (ora := ora) (n := n) (ρ := (ρ.put 126875152509286 (.loc fl)).put 2037277037 (.int (sp0 mt0 t (t.length + 1) 0).length)) S hm hR (hp.gr g12) ht hch (gp_ne rfl (gp_ne rfl htx)) (gp_ne rfl (gp_ne rfl hpr)) (gp_ne rfl (gp_ne rfl hsv)) gp_eq
  have g13 := g12.trans g3 (by simp)
  have e4 := rr4 (L := L) (sc := sc) (ora := ora) (n := n + 16) (H := H3) (fl := fl) (sp := sp) (Q := sp0 mt0 t (t.length + 1) 0) (ρ := (ρ.put 126875152509286 (.loc fl)).put 2037277037 (.int (sp0 mt0 t (t.length + 1) 0).length)) (gp_ne rfl (gp_ne rfl htx)) (gp_ne rfl (gp_ne rfl hs)) (gp_ne rfl gp_eq) gp_eq (g13.get hsp (by simp)) (g3.get (g2.get hf1 (by simp)) (by simp)) hc ht hq
  obtain ⟨H5, e5, g5⟩ := rr5 (L := L) (sc := sc) (ora := ora) (n := n) (ρ := ((ρ.put 126875152509286 (.loc fl)).put 2037277037 (.int (sp0 mt0 t (t.length + 1) 0).length)).put 6647407 (.str (oneOf t (sp0 mt0 t (t.length + 1) 0)))) S (hp.gr g13) ht hch (gp_ne rfl (gp_ne rfl (gp_ne rfl htx))) (gp_ne rfl (gp_ne rfl (gp_ne rfl hpr))) gp_eq (gp_ne rfl gp_eq)
  exact ⟨((ρ.put 126875152509286 (.loc fl)).put 2037277037 (.int (sp0 mt0 t (t.length + 1) 0).length)).put 6647407 (.str (oneOf t (sp0 mt0 t (t.length + 1) 0))), H5, ts_go e1 (ts_go e2 (ts_go e3 (ts_go e4 (ts_ret e5)))), g13.trans g5 (by simp)⟩
end
section
variable {L : Nat} {sc : List V} {ora : Nat → Nat → List V → MH → R V} {n : Nat} {H : MH}
theorem quote_c1 : ((prg L sc ora).ctx (n + 2)).call 937 [.str [45]] H = some (.str [92, 45], H) := by rfl
theorem quote_c2 : ((prg L sc ora).ctx (n + 2)).call 937 [.str [45, 45]] H = some (.str [92, 45, 92, 45], H) := by rfl
theorem quote_c3 : ((prg L sc ora).ctx (n + 2)).call 937 [.str [43]] H = some (.str [92, 43], H) := by rfl
theorem quote_c4 : ((prg L sc ora).ctx (n + 2)).call 937 [.str [46, 42]] H = some (.str [92, 46, 92, 42], H) := by rfl
end
section
variable {L : Nat} {sc : List V} {ora : Nat → Nat → List V → MH → R V} {n : Nat}
noncomputable def sideOf (H : MH) : Option (Nat × List V) → Prop
  | none => True
  | some q => H[q.1]? = some (.list q.2)
theorem comp_ok {src : List Nat} {rows : List V} {ng p pr nl : Nat} {side : Option (Nat × List V)} {v : V} {G : MH}
    (h : runF ((prg L sc ora).ctx n) f923 [.str src, .str []] [] = some (v, G)) (hv : v = .loc p)
    (hp : G[p]? = some (.inst 499 [(1937207154, .loc pr), (126926843769447, .int ng), (2129618691208608441714, .int ng), (495622906222, .loc nl)]))
    (hr : G[pr]? = some (.list rows)) (hs : sideOf G side) :
    CompOK L sc ora (n + 1) src (fun k => shVs k rows) ng (fun k => side.map fun q => (k + q.1, shVs k q.2)) := by
  intro H
  subst hv
  refine ⟨H.length + p, H ++ G.map (shO H.length), ?_, Gr.app, ⟨H.length + pr, H.length + nl, ?_, ?_⟩, ?_⟩
  · have : ((prg L sc ora).ctx (n + 1)).call 923 [.str src, .str []] H = (runF ((prg L sc ora).ctx n) f923 [.str src, .str []] []).map fun r => (shV H.length r.1, H ++ r.2.map (shO H.length)) := rfl
    rw [this, h]
    simp [shV]
    try (first | lia | omega)
  · rw [app_get, List.getElem?_map, hp]
    simp [shO, shV]
  · rw [app_get, List.getElem?_map, hr]
    simp [shO]
  · cases side with
    | none => trivial
    | some q =>
      show (H ++ G.map (shO H.length))[H.length + q.1]? = _
      have hs' : G[q.1]? = some (.list q.2) := hs
      rw [app_get, List.getElem?_map, hs']
      simp [shO]
end
section
variable {L : Nat} {sc : List V} {ora : Nat → Nat → List V → MH → R V}
theorem comp_ok2 {n : Nat} {src : List Nat} {rows : List V} {ng p pr nl si : Nat} {side : Option (List V)}
    (h : (runF ((prg L sc ora).ctx n) f923 [.str src, .str []] []).map (fun r => (r.1, r.2[p]?, r.2[pr]?, side.bind fun _ => r.2[si]?)) = some (.loc p, some (.inst 499 [(1937207154, .loc pr), (126926843769447, .int ng), (2129618691208608441714, .int ng), (495622906222, .loc nl)]), some (.list rows), side.map O.list)) :
    CompOK L sc ora (n + 1) src (fun k => shVs k rows) ng (fun k => side.map fun q => (k + si, shVs k q)) := by
  cases hr : runF ((prg L sc ora).ctx n) f923 [.str src, .str []] [] with
  | none => rw [hr] at h; cases h
  | some r =>
    rw [hr] at h
    simp only [Option.map_some, Option.some.injEq, Prod.mk.injEq] at h
    obtain ⟨h1, h2, h3, h4⟩ := h
    have := comp_ok (L := L) (sc := sc) (ora := ora) (n := n) (src := src) (rows := rows) (ng := ng) (p := p) (pr := pr) (nl := nl) (side := side.map fun q => (si, q)) (v := r.1) (G := r.2) hr h1 h2 h3 (by
      cases side with
      | none => trivial
      | some q => exact h4)
    cases side with
    | none => exact this
    | some q => exact this
theorem cp44_0 : CompOK L sc ora 45 [45] (fun k => shVs k [.tup [.str [115, 105, 103, 110], .str [45], .bool false], .tup [.str [101, 110, 100]]]) 0 (fun k => (none : Option (List V)).map fun q => (k + 0, shVs k q)) := comp_ok2 (p := 8) (pr := 7) (nl := 1) (by kernel_rfl)
theorem cp44_1 : CompOK L sc ora 45 [97, 98] (fun k => shVs k [.tup [.str [115, 105, 103, 110], .str [97], .bool false], .tup [.str [115, 105, 103, 110], .str [98], .bool false], .tup [.str [101, 110, 100]]]) 0 (fun k => (none : Option (List V)).map fun q => (k + 0, shVs k q)) := comp_ok2 (p := 8) (pr := 7) (nl := 1) (by kernel_rfl)
theorem cp44_2 : CompOK L sc ora 45 [91, 45, 44, 93] (fun k => shVs k [.tup [.str [115, 101, 116], .loc 6, .bool false, .bool false], .tup [.str [101, 110, 100]]]) 0 (fun k => ((some [.tup [.str [114, 97, 110, 103, 101], .int 45, .int 45], .tup [.str [114, 97, 110, 103, 101], .int 44, .int 44]]) : Option (List V)).map fun q => (k + 6, shVs k q)) := comp_ok2 (p := 11) (pr := 10) (nl := 1) (by kernel_rfl)
theorem cp44_3 : CompOK L sc ora 45 [45, 43] (fun k => shVs k [.tup [.str [114, 117, 110], .tup [.str [115, 105, 103, 110], .str [45], .bool false], .int (1), .int (-1), .bool false], .tup [.str [101, 110, 100]]]) 0 (fun k => (none : Option (List V)).map fun q => (k + 0, shVs k q)) := comp_ok2 (p := 8) (pr := 7) (nl := 1) (by kernel_rfl)
theorem cp44_4 : CompOK L sc ora 45 [97, 124, 97, 98] (fun k => shVs k [.tup [.str [115, 112, 108, 105, 116], .int (1), .int (3)], .tup [.str [115, 105, 103, 110], .str [97], .bool false], .tup [.str [106, 117, 109, 112], .int (5)], .tup [.str [115, 105, 103, 110], .str [97], .bool false], .tup [.str [115, 105, 103, 110], .str [98], .bool false], .tup [.str [101, 110, 100]]]) 0 (fun k => (none : Option (List V)).map fun q => (k + 0, shVs k q)) := comp_ok2 (p := 11) (pr := 8) (nl := 1) (by kernel_rfl)
theorem cp44_5 : CompOK L sc ora 45 [45, 63, 98] (fun k => shVs k [.tup [.str [114, 117, 110], .tup [.str [115, 105, 103, 110], .str [45], .bool false], .int (0), .int (1), .bool false], .tup [.str [115, 105, 103, 110], .str [98], .bool false], .tup [.str [101, 110, 100]]]) 0 (fun k => (none : Option (List V)).map fun q => (k + 0, shVs k q)) := comp_ok2 (p := 8) (pr := 7) (nl := 1) (by kernel_rfl)
theorem cp44_6 : CompOK L sc ora 45 [40, 45, 41] (fun k => shVs k [.tup [.str [111, 112, 101, 110], .int (0)], .tup [.str [115, 105, 103, 110], .str [45], .bool false], .tup [.str [99, 108, 111, 115, 101], .int (1), .int (0)], .tup [.str [101, 110, 100]]]) 1 (fun k => (none : Option (List V)).map fun q => (k + 0, shVs k q)) := comp_ok2 (p := 10) (pr := 9) (nl := 1) (by kernel_rfl)
theorem cp44_7 : CompOK L sc ora 45 [40, 97, 98, 41] (fun k => shVs k [.tup [.str [111, 112, 101, 110], .int (0)], .tup [.str [115, 105, 103, 110], .str [97], .bool false], .tup [.str [115, 105, 103, 110], .str [98], .bool false], .tup [.str [99, 108, 111, 115, 101], .int (1), .int (0)], .tup [.str [101, 110, 100]]]) 1 (fun k => (none : Option (List V)).map fun q => (k + 0, shVs k q)) := comp_ok2 (p := 10) (pr := 9) (nl := 1) (by kernel_rfl)
theorem cp44_8 : CompOK L sc ora 45 [40, 91, 45, 44, 93, 41] (fun k => shVs k [.tup [.str [111, 112, 101, 110], .int (0)], .tup [.str [115, 101, 116], .loc 8, .bool false, .bool false], .tup [.str [99, 108, 111, 115, 101], .int (1), .int (0)], .tup [.str [101, 110, 100]]]) 1 (fun k => ((some [.tup [.str [114, 97, 110, 103, 101], .int 45, .int 45], .tup [.str [114, 97, 110, 103, 101], .int 44, .int 44]]) : Option (List V)).map fun q => (k + 8, shVs k q)) := comp_ok2 (p := 13) (pr := 12) (nl := 1) (by kernel_rfl)
theorem cp44_9 : CompOK L sc ora 45 [40, 45, 43, 41] (fun k => shVs k [.tup [.str [111, 112, 101, 110], .int (0)], .tup [.str [114, 117, 110], .tup [.str [115, 105, 103, 110], .str [45], .bool false], .int (1), .int (-1), .bool false], .tup [.str [99, 108, 111, 115, 101], .int (1), .int (0)], .tup [.str [101, 110, 100]]]) 1 (fun k => (none : Option (List V)).map fun q => (k + 0, shVs k q)) := comp_ok2 (p := 10) (pr := 9) (nl := 1) (by kernel_rfl)
theorem cp44_10 : CompOK L sc ora 45 [40, 97, 124, 97, 98, 41] (fun k => shVs k [.tup [.str [111, 112, 101, 110], .int (0)], .tup [.str [115, 112, 108, 105, 116], .int (2), .int (4)], .tup [.str [115, 105, 103, 110], .str [97], .bool false], .tup [.str [106, 117, 109, 112], .int (6)], .tup [.str [115, 105, 103, 110], .str [97], .bool false], .tup [.str [115, 105, 103, 110], .str [98], .bool false], .tup [.str [99, 108, 111, 115, 101], .int (1), .int (0)], .tup [.str [101, 110, 100]]]) 1 (fun k => (none : Option (List V)).map fun q => (k + 0, shVs k q)) := comp_ok2 (p := 13) (pr := 10) (nl := 1) (by kernel_rfl)
theorem cp44_11 : CompOK L sc ora 45 [40, 45, 63, 98, 41] (fun k => shVs k [.tup [.str [111, 112, 101, 110], .int (0)], .tup [.str [114, 117, 110], .tup [.str [115, 105, 103, 110], .str [45], .bool false], .int (0), .int (1), .bool false], .tup [.str [115, 105, 103, 110], .str [98], .bool false], .tup [.str [99, 108, 111, 115, 101], .int (1), .int (0)], .tup [.str [101, 110, 100]]]) 1 (fun k => (none : Option (List V)).map fun q => (k + 0, shVs k q)) := comp_ok2 (p := 10) (pr := 9) (nl := 1) (by kernel_rfl)
theorem cp43_12 : CompOK L sc ora 44 [40, 63, 58, 41] (fun k => shVs k [.tup [.str [101, 110, 100]]]) 0 (fun k => (none : Option (List V)).map fun q => (k + 0, shVs k q)) := comp_ok2 (p := 12) (pr := 11) (nl := 1) (by kernel_rfl)
theorem cp44_13 : CompOK L sc ora 45 [92, 45] (fun k => shVs k [.tup [.str [115, 105, 103, 110], .str [45], .bool false], .tup [.str [101, 110, 100]]]) 0 (fun k => (none : Option (List V)).map fun q => (k + 0, shVs k q)) := comp_ok2 (p := 8) (pr := 7) (nl := 1) (by kernel_rfl)
theorem cp44_14 : CompOK L sc ora 45 [92, 45, 92, 45] (fun k => shVs k [.tup [.str [115, 105, 103, 110], .str [45], .bool false], .tup [.str [115, 105, 103, 110], .str [45], .bool false], .tup [.str [101, 110, 100]]]) 0 (fun k => (none : Option (List V)).map fun q => (k + 0, shVs k q)) := comp_ok2 (p := 8) (pr := 7) (nl := 1) (by kernel_rfl)
theorem cp44_15 : CompOK L sc ora 45 [92, 43] (fun k => shVs k [.tup [.str [115, 105, 103, 110], .str [43], .bool false], .tup [.str [101, 110, 100]]]) 0 (fun k => (none : Option (List V)).map fun q => (k + 0, shVs k q)) := comp_ok2 (p := 8) (pr := 7) (nl := 1) (by kernel_rfl)
theorem cp44_16 : CompOK L sc ora 45 [92, 46, 92, 42] (fun k => shVs k [.tup [.str [115, 105, 103, 110], .str [46], .bool false], .tup [.str [115, 105, 103, 110], .str [42], .bool false], .tup [.str [101, 110, 100]]]) 0 (fun k => (none : Option (List V)).map fun q => (k + 0, shVs k q)) := comp_ok2 (p := 8) (pr := 7) (nl := 1) (by kernel_rfl)
end
theorem PatSpec.of0 {side : Option (Nat × List V)} {rowsM : List V} {mt0 : List Nat → Nat → Option Nat} (M : Mid (ExOf side) 0 rowsM mt0) (h : Takes mt0) : PatSpec (rowsM ++ [.tup [sEnd]]) 0 side (lift mt0) :=
  ⟨match_plain M fun t s e he => (h t s e he).1, Or.inl rfl, fun t le s e hl he => by
    obtain ⟨h1, h2⟩ := h t s e he
    exact ⟨by lia, by lia, h2⟩⟩
theorem PatSpec.of1 {side : Option (Nat × List V)} {rowsM : List V} {mt0 : List Nat → Nat → Option Nat} (M : Mid (ExOf side) 1 rowsM mt0) (h : Takes mt0) :
    PatSpec (.tup [.str [111, 112, 101, 110], .int 0] :: (rowsM ++ [.tup [.str [99, 108, 111, 115, 101], .int 1, .int 0], .tup [sEnd]])) 1 side (lift mt0) :=
  ⟨match_grouped M fun t s e he => (h t s e he).1, Or.inr rfl, fun t le s e hl he => by
    obtain ⟨h1, h2⟩ := h t s e he
    exact ⟨by lia, by lia, h2⟩⟩
theorem takes_one {fit : Nat → Bool} : Takes (mtOne fit) := fun t s e h => by
  obtain ⟨ha, _, rfl⟩ := mtOne_some h
  exact ⟨by exact Nat.lt_succ_self _, ha⟩
theorem takes_two {x y : Nat} : Takes (mtTwo x y) := fun t s e h => by
  unfold mtTwo at h
  split at h
  · split at h
    · obtain ⟨h1, h2⟩ := takes_one t _ e h; exact ⟨by lia, h2⟩
    · cases h
  · cases h
theorem takes_opt : Takes mtOpt := fun t s e h => by
  unfold mtOpt at h
  split at h
  · rename_i c hc
    obtain ⟨hs, _⟩ := List.getElem?_eq_some_iff.mp hc
    split at h
    · obtain ⟨h1, h2⟩ := takes_one t _ e h; exact ⟨by lia, h2⟩
    · split at h
      · cases h; exact ⟨by exact Nat.lt_succ_self _, hs⟩
      · cases h
  · cases h
theorem takes_run : Takes mtRun := fun t s e h => by
  unfold mtRun at h
  split at h
  · rename_i hh
    cases h
    refine ⟨hh, ?_⟩
    by_cases hs : s ≤ t.length
    · have := runTo_le (fun c => c == 45) t (t.length - s) s
      omega
    · have : t.length - s = 0 := by lia
      rw [this] at hh
      simp [runTo] at hh
  · cases h
section
variable {L : Nat} {sc : List V} {ora : Nat → Nat → List V → MH → R V}
structure Pat (L : Nat) (sc : List V) (ora : Nat → Nat → List V → MH → R V) (src src1 : List Nat) (mt0 : List Nat → Nat → Option Nat) : Prop where
  takes : Takes mt0
  p0 : ∃ rows side, CompOK L sc ora 45 src rows 0 side ∧ ∀ k, PatSpec (rows k) 0 (side k) (lift mt0)
  p1 : ∃ rows side, CompOK L sc ora 45 src1 rows 1 side ∧ ∀ k, PatSpec (rows k) 1 (side k) (lift mt0)
theorem mid_sign {s : Nat} (off : Nat) : Mid (ExOf none) off [.tup [sSign, .str [s], .bool false]] (mtOne (· == s)) := mid_one (Or.inl rfl) (by simp) (fun L sc ora H r _ => fit_sign) off
theorem mid_set {i : Nat} (off : Nat) : Mid (ExOf (some (i, [.tup [sRange, .int 45, .int 45], .tup [sRange, .int 44, .int 44]]))) off [.tup [sSet, .loc i, .bool false, .bool false]] (mtOne fun c => (decide ((45 : Int) ≤ c) && decide ((c : Int) ≤ 45)) || (decide ((44 : Int) ≤ c) && decide ((c : Int) ≤ 44))) :=
  mid_one (Or.inr rfl) (by simp) (fun L sc ora H r h => fit_set h.1 h.2) off
theorem pat0 : Pat L sc ora [45] [40, 45, 41] (mtOne (· == 45)) := ⟨takes_one, ⟨_, _, cp44_0, fun k => .of0 (mid_sign 0) takes_one⟩, ⟨_, _, cp44_6, fun k => .of1 (mid_sign 1) takes_one⟩⟩
theorem pat1 : Pat L sc ora [97, 98] [40, 97, 98, 41] (mtTwo 97 98) := ⟨takes_two, ⟨_, _, cp44_1, fun k => .of0 (side := none) (mid_two 0) takes_two⟩, ⟨_, _, cp44_7, fun k => .of1 (side := none) (mid_two 1) takes_two⟩⟩
theorem pat2 : Pat L sc ora [91, 45, 44, 93] [40, 91, 45, 44, 93, 41] (mtOne fun c => (decide ((45 : Int) ≤ c) && decide ((c : Int) ≤ 45)) || (decide ((44 : Int) ≤ c) && decide ((c : Int) ≤ 44))) := ⟨takes_one, ⟨_, _, cp44_2, fun k => .of0 (mid_set 0) takes_one⟩, ⟨_, _, cp44_8, fun k => .of1 (mid_set 1) takes_one⟩⟩
theorem pat3 : Pat L sc ora [45, 43] [40, 45, 43, 41] mtRun := ⟨takes_run, ⟨_, _, cp44_3, fun k => .of0 (side := none) (mid_run 0) takes_run⟩, ⟨_, _, cp44_9, fun k => .of1 (side := none) (mid_run 1) takes_run⟩⟩
theorem pat4 : Pat L sc ora [97, 124, 97, 98] [40, 97, 124, 97, 98, 41] (mtOne (· == 97)) := ⟨takes_one, ⟨_, _, cp44_4, fun k => .of0 (side := none) (mid_alt 0) takes_one⟩, ⟨_, _, cp44_10, fun k => .of1 (side := none) (mid_alt 1) takes_one⟩⟩
theorem pat5 : Pat L sc ora [45, 63, 98] [40, 45, 63, 98, 41] mtOpt := ⟨takes_opt, ⟨_, _, cp44_5, fun k => .of0 (side := none) (mid_opt 0) takes_opt⟩, ⟨_, _, cp44_11, fun k => .of1 (side := none) (mid_opt 1) takes_opt⟩⟩
structure Sep (L : Nat) (sc : List V) (ora : Nat → Nat → List V → MH → R V) (src : List Nat) (mt0 : List Nat → Nat → Option Nat) : Prop where
  takes : Takes mt0
  p0 : ∃ rows side, CompOK L sc ora 45 src rows 0 side ∧ ∀ k, PatSpec (rows k) 0 (side k) (lift mt0)
theorem sep0 : Sep L sc ora [92, 45] (mtOne (· == 45)) := ⟨takes_one, ⟨_, _, cp44_13, fun k => .of0 (mid_sign 0) takes_one⟩⟩
theorem sep1 : Sep L sc ora [92, 45, 92, 45] (mtTwo 45 45) := ⟨takes_two, ⟨_, _, cp44_14, fun k => .of0 (side := none) (mid_two 0) takes_two⟩⟩
theorem sep2 : Sep L sc ora [92, 43] (mtOne (· == 43)) := ⟨takes_one, ⟨_, _, cp44_15, fun k => .of0 (mid_sign 0) takes_one⟩⟩
theorem sep3 : Sep L sc ora [92, 46, 92, 42] (mtTwo 46 42) := ⟨takes_two, ⟨_, _, cp44_16, fun k => .of0 (side := none) (mid_two 0) takes_two⟩⟩
end
noncomputable def jn (sep : List Nat) : List (List Nat) → List Nat
  | [] => []
  | [p] => p
  | p :: q :: r => p ++ (sep ++ jn sep (q :: r))
noncomputable def Lit (mt0 : List Nat → Nat → Option Nat) (x : Nat) (xs : List Nat) : Prop := ∀ t s, ((x :: xs) <+: t.drop s → mt0 t s = some (s + (xs.length + 1))) ∧ (∀ c r, t.drop s = c :: r → c ≠ x → mt0 t s = none) ∧ (t.drop s = [] → mt0 t s = none)
theorem drop_cons {t : List Nat} {s c : Nat} {r : List Nat} (h : t.drop s = c :: r) : t[s]? = some c ∧ t.drop (s + 1) = r := by
  constructor
  · have := List.getElem?_drop (xs := t) (i := s) (j := 0)
    rw [h] at this
    simpa using this.symm
  · rw [← List.drop_drop, h]; rfl
theorem lit_one {x : Nat} : Lit (mtOne (· == x)) x [] := fun t s => by
  refine ⟨fun h => ?_, fun c r h hc => ?_, fun h => ?_⟩
  · obtain ⟨r, hr⟩ := h
    obtain ⟨h1, _⟩ := drop_cons (t := t) (s := s) (c := x) (r := r) hr.symm
    simp [mtOne, h1]
  · obtain ⟨h1, _⟩ := drop_cons h
    simp [mtOne, h1, hc]
  · have : t[s]? = none := by rw [List.getElem?_eq_none_iff]; exact List.drop_eq_nil_iff.mp h
    simp [mtOne, this]
theorem lit_two {x y : Nat} : Lit (mtTwo x y) x [y] := fun t s => by
  refine ⟨fun h => ?_, fun c r h hc => ?_, fun h => ?_⟩
  · obtain ⟨r, hr⟩ := h
    obtain ⟨h1, h2⟩ := drop_cons (t := t) (s := s) (c := x) (r := y :: r) hr.symm
    obtain ⟨h3, _⟩ := drop_cons h2
    simp [mtTwo, mtOne, h1, h3]
  · obtain ⟨h1, _⟩ := drop_cons h
    simp [mtTwo, h1, hc]
  · have : t[s]? = none := by rw [List.getElem?_eq_none_iff]; exact List.drop_eq_nil_iff.mp h
    simp [mtTwo, this]
section
variable {mt0 : List Nat → Nat → Option Nat} {x : Nat} {xs t : List Nat}
theorem srch_skip (hl : Lit mt0 x xs) {le : Int} : ∀ (p r : List Nat) (a k : Nat), t.drop a = p ++ r → (∀ c ∈ p, c ≠ x) → srch (lift mt0) t le (p.length + k) a = srch (lift mt0) t le k (a + p.length)
  | [], r, a, k, _, _ => by simp
  | c :: p, r, a, k, h, hc => by
    have h1 : (lift mt0) t le a = none := (hl t a).2.1 c (p ++ r) h (hc c (.head _))
    obtain ⟨_, h2⟩ := drop_cons (t := t) (s := a) (c := c) (r := p ++ r) h
    have ih := srch_skip hl (le := le) p r (a + 1) k h2 fun d hd => hc d (.tail _ hd)
    rw [List.length_cons, show p.length + 1 + k = (p.length + k) + 1 by exact Nat.add_right_comm _ _ _]
    have e0 : srch (lift mt0) t le (p.length + k + 1) a = srch (lift mt0) t le (p.length + k) (a + 1) := by rw [srch, h1]
    rw [e0, ih, show a + (p.length + 1) = a + 1 + p.length by lia]
theorem find_part (hl : Lit mt0 x xs) {le : Int} {p r : List Nat} {a : Nat} (ha : a ≤ t.length) (h : t.drop a = p ++ ((x :: xs) ++ r)) (hc : ∀ c ∈ p, c ≠ x) : find (lift mt0) t le a = some (a + p.length, a + p.length + (xs.length + 1)) := by
  have hlen := congrArg List.length h
  simp only [List.length_drop, List.length_append, List.length_cons] at hlen
  unfold find
  rw [show t.length + 1 - a = p.length + ((xs.length + r.length + 1) + 1) by lia, srch_skip hl p _ a _ h hc]
  unfold srch
  have h2 : t.drop (a + p.length) = (x :: xs) ++ r := by rw [← List.drop_drop, h]; simp
  have h1 : (lift mt0) t le (a + p.length) = some (a + p.length + (xs.length + 1)) := (hl t _).1 ⟨r, h2.symm⟩
  rw [h1]
theorem find_last (hl : Lit mt0 x xs) {le : Int} {p : List Nat} {a : Nat} (ha : a ≤ t.length) (h : t.drop a = p) (hc : ∀ c ∈ p, c ≠ x) : find (lift mt0) t le a = none := by
  have hlen := congrArg List.length h
  simp only [List.length_drop] at hlen
  unfold find
  rw [show t.length + 1 - a = p.length + 1 by lia, srch_skip hl p [] a _ (by simpa using h) hc]
  unfold srch
  have h1 : (lift mt0) t le (a + p.length) = none := (hl t _).2.2 (by rw [List.drop_eq_nil_iff]; lia)
  rw [h1]
  rfl
theorem jn_cut (hl : Lit mt0 x xs) : ∀ (ps : List (List Nat)) (p : List Nat) (a d : Nat), a ≤ t.length → t.drop a = jn (x :: xs) (p :: ps) → (∀ q ∈ p :: ps, ∀ c ∈ q, c ≠ x) → t.length < a + d →
    pieces t a (sp0 mt0 t d a) = p :: ps ∧ (sp0 mt0 t d a).length = ps.length ∧ subJ (fun _ _ => [35]) t a (sp0 mt0 t d a) = jn [35] (p :: ps)
  | [], p, a, d, ha, h, hc, hd => by
    obtain ⟨d, rfl⟩ : ∃ k, d = k + 1 := ⟨d - 1, by lia⟩
    unfold sp0
    rw [find_last hl ha (p := p) h (hc p (.head _))]
    refine ⟨?_, rfl, ?_⟩
    · simp only [pieces]; rw [h]; rfl
    · simp only [subJ]; rw [h]; rfl
  | q :: ps, p, a, d, ha, h, hc, hd => by
    obtain ⟨d, rfl⟩ : ∃ k, d = k + 1 := ⟨d - 1, by lia⟩
    have hlen := congrArg List.length h
    have h : t.drop a = p ++ ((x :: xs) ++ jn (x :: xs) (q :: ps)) := h
    simp only [jn, List.length_drop, List.length_append, List.length_cons] at hlen
    have h2 : t.drop (a + p.length) = (x :: xs) ++ jn (x :: xs) (q :: ps) := by rw [← List.drop_drop, h]; simp
    have h3 : t.drop (a + p.length + (xs.length + 1)) = jn (x :: xs) (q :: ps) := by rw [← List.drop_drop, h2]; simp
    have ih := jn_cut hl ps q (a + p.length + (xs.length + 1)) d (by omega) h3 (fun r hr => hc r (.tail _ hr)) (by lia)
    unfold sp0
    rw [find_part hl ha h (hc p (.head _))]
    have hseg : seg t a (a + p.length) = p := by
      unfold seg
      rw [h, show a + p.length - a = p.length by lia]; simp
    simp only [pieces, subJ, List.length_cons, hseg]
    rw [ih.1, ih.2.1, ih.2.2]
    exact ⟨rfl, rfl, rfl⟩
end
noncomputable def NetAt (H : MH) : Prop := ∃ (is : List Int) (k : Nat), H[2]? = some (.list [.loc 1, .int k]) ∧ H[1]? = some (.list (is.map V.int))
theorem NetAt.gr {X : List Nat} {H H' : MH} (a : NetAt H) (g : Gr X H H') (h1 : 1 ∉ X) (h2 : 2 ∉ X) : NetAt H' := by
  obtain ⟨is, k, e1, e2⟩ := a
  exact ⟨is, k, g.get e1 h2, g.get e2 h1⟩
theorem NetAt.lt {H : MH} (a : NetAt H) : 2 < H.length := by
  obtain ⟨is, k, e1, e2⟩ := a
  exact lt_of_get e1
section
variable {C : Ctx} {t : Bool} {ρ ρ1 : Env} {h h1 h2 h3 h4 h5 : MH}
theorem t_augi {o i e : ME} {op : BOp} {x k y b c : V} (a1 : evE C false o ρ h = some (x, h1)) (a2 : evE C false i ρ h1 = some (k, h2)) (a3 : subscript C x k h2 = some y) (a4 : evE C false e ρ h2 = some (b, h3)) (a5 : augop op y b h3 = some (c, h4)) (a6 : setSub x k c h4 = some h5) : evS C (.aug (.sub o i) op e) ρ h = some ((.next, ρ), h5) :=
  at1 a1 (at1 a2 (bn1 a3 (at1 a4 (at1 a5 (mp1 a6)))))
end
section
variable {L : Nat} {sc : List V} {ora : Nat → Nat → List V → MH → R V} {n : Nat} {H : MH}
theorem mod_c {i m : Int} (hm : 0 < m) {h : MH} : ∃ r : Nat, (r : Int) < m ∧ binop .mod (.int i) (.int m) h = some (.int r, h) := by
  refine ⟨(Int.fmod i m).toNat, ?_, ?_⟩
  · have h1 := Int.fmod_nonneg_of_pos i hm
    have h2 := Int.fmod_lt_of_pos i hm
    omega
  · have h1 := Int.fmod_nonneg_of_pos i hm
    show (if 0 < m then some (V.int (Int.fmod i m), h) else none) = _
    rw [if_pos hm, show ((Int.fmod i m).toNat : Int) = Int.fmod i m by exact Int.toNat_of_nonneg h1]
theorem rest_c {j : Nat} (hj : j < 17) {C : Ctx} {h : MH} : ∃ x : Int, subscript C (.tup [(.int 2), (.int 6), (.int 0), (.int 2), (.int 3), (.int 1), (.int 0), (.int 2), (.int 1), (.int 2), (.int 2), (.int 0), (.int 1), (.int 0), (.int 1), (.int 1), (.int 1)]) (.int j) h = some (.int x) :=
  ⟨([2, 6, 0, 2, 3, 1, 0, 2, 1, 2, 2, 0, 1, 0, 1, 1, 1] : List Int)[j]'hj, s_tup rfl (seqIndex_nat hj) (by
    show (([2, 6, 0, 2, 3, 1, 0, 2, 1, 2, 2, 0, 1, 0, 1, 1, 1] : List Int).map V.int)[j]? = _
    rw [List.getElem?_map, List.getElem?_eq_getElem hj]; rfl)⟩
theorem catch_c (hN : NetAt H) {m : Int} (hm : 0 < m) : ∃ (r : Nat) (H' : MH), (r : Int) < m ∧ ((prg L sc ora).ctx (n + 1)).call 947 [.loc 2, .int m] H = some (.int r, H') ∧ NetAt H' ∧ Gr [2] H H' := by
  obtain ⟨is, k, e1, e2⟩ := hN
  have l2 := lt_of_get e1
  have hset : setSub (.loc 2) (.int 1) (.int ((k : Int) + 1)) H = some (H.set 2 (.list [.loc 1, .int ((k : Int) + 1)])) := u_sub (k := 1) e1 (by simp)
  have f1 : (H.set 2 (.list [.loc 1, .int ((k : Int) + 1)]))[2]? = some (.list [.loc 1, .int ((k : Int) + 1)]) := List.getElem?_set_self l2
  have f2 : (H.set 2 (.list [.loc 1, .int ((k : Int) + 1)]))[1]? = some (.list (is.map V.int)) := (List.getElem?_set_ne (by decide)).trans e2
  have hsp : (k : Int) + 1 - 1 = k := by lia
  have hN' : NetAt (H.set 2 (.list [.loc 1, .int ((k : Int) + 1)])) := ⟨is, k + 1, f1, f2⟩
  have hg : Gr [2] H (H.set 2 (.list [.loc 1, .int ((k : Int) + 1)])) := Gr.set
  generalize H.set 2 (.list [.loc 1, .int ((k : Int) + 1)]) = H1 at *
  have hb : binop .sub (.int ((k : Int) + 1)) (.int 1) H1 = some (.int k, H1) := by
    show some (V.int ((k : Int) + 1 - 1), H1) = _
    rw [hsp]
  have hlen : builtin .len [.loc 1] H1 = some (.int is.length, H1) := by rw [len_list f2, List.length_map]
  have a0 : evS ((prg L sc ora).ctx n) (.aug (.sub (.var 7628142) (.c (.int 1))) .add (.c (.int 1))) [(7628142, .loc 2), (2037277037, .int m)] H = some ((.next, [(7628142, .loc 2), (2037277037, .int m)]), H1) := t_augi (r_var rfl) e_c (s_int1 e1) e_c rfl hset
  by_cases hk : (k : Int) + 1 ≤ (is.length : Int)
  · have hkl : k < is.length := by lia
    have hi : (is.map V.int)[k]? = some (.int is[k]) := by rw [List.getElem?_map, List.getElem?_eq_getElem hkl]; rfl
    obtain ⟨r, hr, hmod⟩ := mod_c (i := is[k]) hm (h := H1)
    refine ⟨r, H1, hr, ?_, hN', hg⟩
    apply c_ret rfl rfl; wtm_at "z"
    apply ts_go; exact a0
    wtm_at "ts"
  · obtain ⟨x, hx⟩ := rest_c (j := k % 17) (by lia) (C := (prg L sc ora).ctx n) (h := H1)
    have hmm : binop .mod (.int k) (.int ((17 : Nat) : Int)) H1 = some (.int ((k % 17 : Nat) : Int), H1) := by
      show (if (0 : Int) < 17 then some (V.int (Int.fmod k 17), H1) else none) = _
      rw [if_pos (by decide), Int.fmod_eq_emod_of_nonneg _ (by decide)]; rfl
    have h17 : builtin .len [.tup [(.int 2), (.int 6), (.int 0), (.int 2), (.int 3), (.int 1), (.int 0), (.int 2), (.int 1), (.int 2), (.int 2), (.int 0), (.int 1), (.int 0), (.int 1), (.int 1), (.int 1)]] H1 = some (.int ((17 : Nat) : Int), H1) := rfl
    obtain ⟨r, hr, hmod⟩ := mod_c (i := x) hm (h := H1)
    refine ⟨r, H1, hr, ?_, hN', hg⟩
    apply c_ret rfl rfl; wtm_at "z"
    apply ts_go; exact a0
    wtm_at "ts"
theorem draw_go {C : Ctx} {elt : ME} {x acc : Nat} {ρ : Env} {m : Int} {items : List V} (P : List Nat → Prop) (hacc : 2 < acc)
    (hstep : ∀ (i : Nat) h, NetAt h → acc < h.length → ∃ s h', evE C false elt (ρ.put x (.int i)) h = some (.str s, h') ∧ P s ∧ NetAt h' ∧ Gr [2] h h') :
    ∀ (l : List Nat) (done : List (List Nat)) (h : MH), NetAt h → h[acc]? = some (.list (txs done)) → done.length + l.length < 1000 →
      ∃ out h', compGo (.rng m) items acc (compF C elt [x] true [] ρ) (l.map fun i => .int (i : Nat)) h = some h' ∧ NetAt h' ∧ Gr [2, acc] h h' ∧ h'[acc]? = some (.list (txs (done ++ out))) ∧ out.length = l.length ∧ ∀ s ∈ out, P s
  | [], done, h, hN, ha, hl => ⟨[], h, cg_end rfl, hN, .refl, by rw [List.append_nil]; exact ha, rfl, fun s hs => by cases hs⟩
  | i :: l, done, h, hN, ha, hl => by
    obtain ⟨s, h1, e1, hP, hN1, g1⟩ := hstep i h hN (lt_of_get ha)
    have ha1 : h1[acc]? = some (.list (txs done)) := g1.get ha (by simp; exact Nat.ne_of_gt hacc)
    have hp : push acc (.str s) h1 = some (h1.set acc (.list (txs (done ++ [s])))) := by
      rw [p_list ha1 (by simp [txs, top] at hl ⊢; lia)]; simp [txs]
    have hg2 : Gr [acc] h1 (h1.set acc (.list (txs (done ++ [s])))) := Gr.set
    have ha2 : (h1.set acc (.list (txs (done ++ [s]))))[acc]? = some (.list (txs (done ++ [s]))) := List.getElem?_set_self (lt_of_get ha1)
    obtain ⟨out, h', e2, hN2, g2, ha3, hlen, hPs⟩ := draw_go P hacc hstep l (done ++ [s]) _ (hN1.gr hg2 (by simp; lia) (by simp; exact Nat.ne_of_lt hacc)) ha2 (by simp at hl ⊢; lia)
    refine ⟨s :: out, h', cg_go rfl (cf_one rfl e1) hp e2, hN2, ((g1.mono (Y := [2, acc]) (by simp)).trans hg2 (by simp)).trans g2 (fun j hj _ => hj), ?_, by simp [hlen], fun u hu => ?_⟩
    · rw [ha3, List.append_assoc]; rfl
    · rcases List.mem_cons.mp hu with rfl | hu
      · exact hP
      · exact hPs u hu
theorem draw_comp {C : Ctx} {elt it : ME} {x : Nat} {ρ : Env} {m : Nat} {h0 : MH} (P : List Nat → Prop) (hm : m < 900) (hit : evE C false it ρ h0 = some (.rng m, H)) (hN : NetAt H)
    (hstep : ∀ (i : Nat) h, NetAt h → H.length < h.length → ∃ s h', evE C false elt (ρ.put x (.int i)) h = some (.str s, h') ∧ P s ∧ NetAt h' ∧ Gr [2] h h') {t : Bool} :
    ∃ out h', evE C t (.comp elt [x] true it []) ρ h0 = some (.loc H.length, h') ∧ NetAt h' ∧ Gr [2] H h' ∧ h'[H.length]? = some (.list (txs out)) ∧ out.length = m ∧ ∀ s ∈ out, P s := by
  have hl := hN.lt
  obtain ⟨out, h', e1, hN1, g1, h1, h2, h3⟩ := draw_go (C := C) (elt := elt) (x := x) (acc := H.length) (ρ := ρ) (m := m) (items := (List.range m).map fun i => .int (i : Nat)) P hl hstep (List.range m) [] (H ++ [.list []]) (hN.gr Gr.app (by simp) (by simp)) (by simp [txs]) (by simp; exact Nat.lt_add_left _ hm)
  have hi : itemsOf C (.rng m) H = some ((List.range m).map fun i => .int (i : Nat)) := by
    simp only [itemsOf, Int.toNat_natCast]
    rw [if_pos (by simp [small]; lia)]
  refine ⟨out, h', r_comp hit hi e1, hN1, ?_, by simpa using h1, by simpa using h2, h3⟩
  exact (Gr.app (G := [.list []])).mono (by simp) |>.trans g1 (by intro j hj h; simp at hj; rcases hj with rfl | rfl; simp; lia)
end
section
variable {L : Nat} {sc : List V} {ora : Nat → Nat → List V → MH → R V} {n : Nat} {H : MH}
theorem join_jn (sep : List Nat) : ∀ ps : List (List Nat), joinTexts sep (txs ps) = some (jn sep ps)
  | [] => rfl
  | [p] => rfl
  | p :: q :: r => by
    have ih := join_jn sep (q :: r)
    show (joinTexts sep (txs (q :: r))).map _ = _
    rw [ih]; rfl
theorem cost_jn (sep : List Nat) : ∀ ps : List (List Nat), (∀ p ∈ ps, p.length ≤ 10) → joinCost sep (txs ps) ≤ (10 + sep.length) * ps.length
  | [], _ => Nat.zero_le _
  | p :: r, h => by
    have ih := cost_jn sep r fun q hq => h q (.tail _ hq)
    have h1 := h p (.head _)
    show p.length + sep.length + joinCost sep (txs r) ≤ _
    rw [List.length_cons, Nat.mul_add]; lia
theorem size_loop {C : Ctx} {all : List V} {l : Nat} (hall : H[l]? = some (.list all)) : ∀ (ps : List (List Nat)) (ρ : Env) (z : Int), (∀ p ∈ ps, p.length ≤ 10) → Env.get ρ 1702521203 = some (.int z) →
    ∃ ρ' z', forGo (.loc l) all (bindT (.var 1954047348)) (evSs C [.aug (.var 1702521203) .add (.call (.c (.bi .len)) [.var 1954047348])]) (txs ps) ρ H = some ((.next, ρ'), H) ∧ Env.get ρ' 1702521203 = some (.int z') ∧ z' ≤ z + 10 * ps.length ∧ ∀ x, x ≠ 1702521203 → x ≠ 1954047348 → Env.get ρ' x = Env.get ρ x
  | [], ρ, z, _, hz => ⟨ρ, z, for_end (st_list hall), hz, by simp, fun _ _ _ => rfl⟩
  | p :: ps, ρ, z, hp, hz => by
    have h1 := hp p (.head _)
    obtain ⟨ρ', z', e1, e2, e3, e4⟩ := size_loop (C := C) hall ps ((ρ.put 1954047348 (.str p)).put 1702521203 (.int (z + p.length))) (z + p.length) (fun q hq => hp q (.tail _ hq)) gp_eq
    refine ⟨ρ', z', for_go (st_list hall) rfl (ts_go (t_aug (gp_ne rfl hz) (r_bi (rs_cons (r_var gp_eq) es_nil) rfl) rfl) ss_nil) e1, e2, ?_, fun x hx hy => ?_⟩
    · rw [List.length_cons]; lia
    · rw [e4 x hx hy, getput, if_neg fun e => hx e.symm, getput, if_neg fun e => hy e.symm]
theorem join_c {l li : Nat} {sep : List Nat} {ps : List (List Nat)} (hl : H[l]? = some (.list (txs ps))) (hli : H[li]? = some limO) (hs : sep.length ≤ 10) (hn : ps.length ≤ 10) (hp : ∀ p ∈ ps, p.length ≤ 10) :
    ((prg L sc ora).ctx (n + 1)).call 930 [.str sep, .loc l, .loc li] H = some (.str (jn sep ps), H) := by
  have hlen : builtin .len [.loc l] H = some (.int ps.length, H) := by rw [len_list hl, show (txs ps).length = ps.length from List.length_map _]
  have hm1 : small (sep.length : Int) = true := by simp [small]; lia
  have hm2 : small (max ((ps.length : Int) - 1) 0) = true := by simp [small]; omega
  have hmul : binop .mul (.int sep.length) (.int (max ((ps.length : Int) - 1) 0)) H = some (.int (sep.length * (max ((ps.length : Int) - 1) 0)), H) := mul_ii (by rw [hm1, hm2]; rfl)
  have hz : (sep.length : Int) * (max ((ps.length : Int) - 1) 0) ≤ 100 := by
    have h1 : max ((ps.length : Int) - 1) 0 ≤ 10 := by omega
    have h2 : 0 ≤ max ((ps.length : Int) - 1) 0 := by lia
    have h3 : (sep.length : Int) ≤ 10 := by lia
    exact Int.mul_le_mul h3 h1 h2 (by decide)
  obtain ⟨ρ', z', e1, e2, e3, e4⟩ := size_loop (C := (prg L sc ora).ctx n) hl ps [(31073733908391266, .str sep), (495875286388, .loc l), (126943822178668, .loc li), (1702521203, .int ((sep.length : Int) * (max ((ps.length : Int) - 1) 0)))] ((sep.length : Int) * (max ((ps.length : Int) - 1) 0)) hp rfl
  have hi : itemsOf ((prg L sc ora).ctx n) (.loc l) H = some (txs ps) := it_list hl
  have k1 : Env.get ρ' 31073733908391266 = some (.str sep) := (e4 _ (by decide) (by decide)).trans rfl
  have k2 : Env.get ρ' 495875286388 = some (.loc l) := (e4 _ (by decide) (by decide)).trans rfl
  have k3 : Env.get ρ' 126943822178668 = some (.loc li) := (e4 _ (by decide) (by decide)).trans rfl
  have hgt : ¬ z' > 100000 := by omega
  have hj : applyM ((prg L sc ora).ctx n) (.join sep) [.loc l] H = some (.str (jn sep ps), H) := by
    have hc := cost_jn sep ps hp
    have : (10 + sep.length) * ps.length ≤ 20 * 10 := Nat.mul_le_mul (by lia) hn
    exact a_join hl (by unfold top; lia) (join_jn ..)
  apply c_ret rfl rfl; wtm_at "z"
  apply ts_go; wtm_at "t"
  apply ts_go; exact t_for (r_var rfl) hi e1
  wtm_at "ts"
theorem spans_go {C : Ctx} {B f : Nat} {all : List V} {ρ : Env} (hf : H[f]? = some (.list all)) : ∀ (l : List V) (qs done : List (Nat × Nat)), AllG H 0 B l qs → done.length + l.length < 1000 →
    compGo (.loc f) all H.length (compF C (.sub (.var 126926843769447) (.c (.int 0))) [126926843769447] true [] ρ) l (H ++ [.list (tups done)]) = some (H ++ [.list (tups (done ++ qs))])
  | [], [], done, _, _ => by
    rw [List.append_nil]
    exact cg_end (st_list ((app_old (lt_of_get hf)).trans hf))
  | v :: l, q :: qs, done, ⟨⟨g, hv, _, hg⟩, hr⟩, hl => by
    subst hv
    have ih := spans_go (C := C) (ρ := ρ) hf l qs (done ++ [q]) hr (by simp at hl ⊢; lia)
    rw [List.append_assoc] at ih
    have hg2 : (H ++ [O.list (tups done)])[g]? = some (.list (.tup [.int q.1, .int q.2] :: [])) := (app_old (lt_of_get hg)).trans hg
    refine cg_go (st_list ((app_old (lt_of_get hf)).trans hf)) (cf_one rfl (r_sub (r_var gp_eq) e_c (s_int0 hg2))) ?_ ih
    rw [p_list app_get0 (by simp [tups, top] at hl ⊢; lia), app_set0]; simp [tups]
  | [], _ :: _, _, h, _ => h.elim
  | _ :: _, [], _, h, _ => h.elim
end
theorem cut_map {α β : Type} (f : α → β) {xs : List α} {hi : Int} : cut (xs.map f) none (some hi) none = (cut xs none (some hi) none).map f := by
  rw [cut_none, cut_none]
  simp only [List.length_map, List.map_take, List.map_drop]
section
variable {L : Nat} {sc : List V} {ora : Nat → Nat → List V → MH → R V} {n : Nat} {H : MH}
theorem pick_pat {r : Nat} (hr : (r : Int) < 6) {C : Ctx} {h : MH} : ∃ src mt0, subscript C (.tup [(.str [45]), (.str [97, 98]), (.str [91, 45, 44, 93]), (.str [45, 43]), (.str [97, 124, 97, 98]), (.str [45, 63, 98])]) (.int r) h = some (.str src) ∧ Pat L sc ora src (([40] ++ src) ++ [41]) mt0 ∧ src.length ≤ 5 := by
  have : r = 0 ∨ r = 1 ∨ r = 2 ∨ r = 3 ∨ r = 4 ∨ r = 5 := by lia
  rcases this with rfl | rfl | rfl | rfl | rfl | rfl
  · exact ⟨_, _, rfl, pat0, by decide⟩
  · exact ⟨_, _, rfl, pat1, by decide⟩
  · exact ⟨_, _, rfl, pat2, by decide⟩
  · exact ⟨_, _, rfl, pat3, by decide⟩
  · exact ⟨_, _, rfl, pat4, by decide⟩
  · exact ⟨_, _, rfl, pat5, by decide⟩
theorem pick_sep {r : Nat} (hr : (r : Int) < 4) {C : Ctx} {h : MH} : ∃ x xs src mt0, subscript C (.tup [(.str [45]), (.str [45, 45]), (.str [43]), (.str [46, 42])]) (.int r) h = some (.str (x :: xs)) ∧ (∀ h, ((prg L sc ora).ctx 45).call 937 [.str (x :: xs)] h = some (.str src, h)) ∧ Sep L sc ora src mt0 ∧ Lit mt0 x xs ∧ (x ≠ 97 ∧ x ≠ 98 ∧ xs.length ≤ 1) ∧ ∀ c ∈ x :: xs, c < 128 := by
  have : r = 0 ∨ r = 1 ∨ r = 2 ∨ r = 3 := by lia
  rcases this with rfl | rfl | rfl | rfl
  · exact ⟨_, _, _, _, rfl, fun h => quote_c1 (n := 43), sep0, lit_one, by decide, by decide⟩
  · exact ⟨_, _, _, _, rfl, fun h => quote_c2 (n := 43), sep1, lit_two, by decide, by decide⟩
  · exact ⟨_, _, _, _, rfl, fun h => quote_c3 (n := 43), sep2, lit_one, by decide, by decide⟩
  · exact ⟨_, _, _, _, rfl, fun h => quote_c4 (n := 43), sep3, lit_two, by decide, by decide⟩
theorem draw_sign {net : Nat} {s : List Nat} {m : Int} (hm : 0 < m) (hs : m ≤ s.length) {ρ : Env} (hn : Env.get ρ 7628142 = some (.loc 2)) {h : MH} (hN : NetAt h) :
    ∃ u h', evE ((prg L sc ora).ctx (n + 1)) false (.sub (.c (.str s)) (.call (.c (.ref 947)) [.var 7628142, .c (.int m)])) ρ h = some (.str u, h') ∧ (∃ c ∈ s, u = [c]) ∧ NetAt h' ∧ Gr [2] h h' := by
  obtain ⟨r, h', hr, e1, hN', g⟩ := catch_c (L := L) (sc := sc) (ora := ora) (n := n) hN hm
  have hrs : r < s.length := by lia
  exact ⟨[s[r]], h', r_sub e_c (r_call (rs_cons (r_var hn) (rs_cons e_c es_nil)) e1) (s_str hrs), ⟨s[r], List.getElem_mem _, rfl⟩, hN', g⟩
theorem draw_text {s : List Nat} {m : Int} {k : Nat} (hm : 0 < m) (hs : m ≤ s.length) (hk : k < 900) {ρ : Env} (hn : Env.get ρ 7628142 = some (.loc 2)) {it : ME} {h0 : MH} (hit : evE ((prg L sc ora).ctx (n + 1)) false it ρ h0 = some (.rng k, H)) (hN : NetAt H) {tt : Bool} :
    ∃ u H', evE ((prg L sc ora).ctx (n + 1)) tt (.meth (.c (.str [])) 1852403562 [.comp (.sub (.c (.str s)) (.call (.c (.ref 947)) [.var 7628142, .c (.int m)])) [1852994932] true it []]) ρ h0 = some (.str u, H') ∧ u.length = k ∧ (∀ c ∈ u, c ∈ s) ∧ NetAt H' ∧ Gr [2] H H' := by
  obtain ⟨out, H', e1, hN', g, hl, hlen, hP⟩ := draw_comp (C := (prg L sc ora).ctx (n + 1)) (elt := .sub (.c (.str s)) (.call (.c (.ref 947)) [.var 7628142, .c (.int m)])) (x := 1852994932) (P := fun u => ∃ c ∈ s, u = [c]) hk hit hN (fun i h hh _ => draw_sign (net := 2) hm hs (gp_ne rfl hn) hh) (t := false)
  have hfl : ∀ (l : List (List Nat)), (∀ u ∈ l, ∃ c ∈ s, u = [c]) → l.flatten.length = l.length ∧ ∀ c ∈ l.flatten, c ∈ s := by
    intro l
    induction l with
    | nil => intro _; exact ⟨rfl, fun c hc => by cases hc⟩
    | cons u l ih =>
      intro h
      obtain ⟨c, hc, rfl⟩ := h u (.head _)
      obtain ⟨i1, i2⟩ := ih fun v hv => h v (.tail _ hv)
      refine ⟨by rw [List.flatten_cons, List.length_append, i1, List.length_cons, List.length_cons]; exact Nat.add_comm _ _, fun d hd => ?_⟩
      rw [List.flatten_cons, List.mem_append] at hd
      rcases hd with hd | hd
      · rw [List.mem_singleton.mp hd]; exact hc
      · exact i2 d hd
  obtain ⟨f1, f2⟩ := hfl out hP
  exact ⟨out.flatten, H', join_e rfl e1 hl (by lia), by lia, f2, hN', g⟩
theorem range_c {k : Nat} (hk : k ≤ 1000) {h : MH} : builtin .range [.int k] h = some (.rng k, h) := by
  show (if (k : Int) ≤ 1000 then some (V.rng k, h) else none) = _
  rw [if_pos (by exact Int.ofNat_le.mpr hk)]
end
section
variable {L : Nat} {sc : List V} {ora : Nat → Nat → List V → MH → R V} {n : Nat} {H : MH}
noncomputable def lawS (i : Nat) : MS := f983.body[i]?.getD .bad
theorem clist_c (hL : look listTab L = none) : ((prg L sc ora).ctx n).clist L = some sc := by
  have e : ((prg L sc ora).ctx n).clist = (prg L sc ora).clist := by cases n <;> rfl
  rw [e]
  show (match look listTab L with | some l => some l | none => if L = L then some sc else none) = _
  rw [hL]; exact if_pos rfl
inductive LawA (L : Nat) (sc : List V) (ora : Nat → Nat → List V → MH → R V) : Prop
  | mk (src mt0 t most p pg rows0 side0 rows1 side1 H') (h1 : evSs ((prg L sc ora).ctx 45) [lawS 0, lawS 1, lawS 2, lawS 3, lawS 4] [(128026154263411, .ref L)] [.tab false] = some ((.next, [(128026154263411, .ref L), (7628142, .loc 2), (31088027509219696, .str src), (1954047348, .str t), (1953722221, .int (most : Nat)), (30787916450984560, .loc p), (28259031352046183, .loc pg)]), H')) (h2 : NetAt H') (h3 : H'[0]? = some (.tab false)) (h4 : Takes mt0) (h5 : PatSpec rows0 0 side0 (lift mt0)) (h6 : PatSpec rows1 1 side1 (lift mt0)) (h7 : PatAt H' p rows0 0 side0) (h8 : PatAt H' pg rows1 1 side1) (h9 : t.length ≤ 6) (h10 : (∀ c ∈ t, c < 128)) (h11 : 1 ≤ most) : LawA L sc ora
theorem law_a (hL : look listTab L = none) {is : List Int} (hsc : sc = is.map V.int) :
    LawA L sc ora := by
  subst hsc
  have e1 : evS ((prg L (is.map V.int) ora).ctx 45) (lawS 0) [(128026154263411, .ref L)] [.tab false] = some ((.next, [(128026154263411, .ref L), (7628142, .loc 2)]), [.tab false, .list ((cut is none (some 30) none).map V.int), .list [.loc 1, .int (0 : Nat)]]) := by
    have hs : slicing ((prg L (is.map V.int) ora).ctx 45) (.ref L) .none (.int 30) .none [.tab false] = some (.loc 1, [.tab false, .list ((cut is none (some 30) none).map V.int)]) := by
      have e : cut (is.map V.int) none (some 30) none = (cut is none (some 30) none).map V.int := cut_map ..
      exact bn1 (x := none) rfl (bn1 (x := some 30) rfl (bn1 (x := none) rfl ((if_pos rfl).trans (bn1 (clist_c hL) (by rw [e]; rfl)))))
    exact t_asg (r_list (rs_cons (r_slice (r_var rfl) e_c e_c e_c hs) (rs_cons e_c es_nil)))
  have N1 : NetAt [.tab false, .list ((cut is none (some 30) none).map V.int), .list [.loc 1, .int (0 : Nat)]] := ⟨_, 0, rfl, rfl⟩
  have T1 : ([.tab false, .list ((cut is none (some 30) none).map V.int), .list [.loc 1, .int (0 : Nat)]] : MH)[0]? = some (.tab false) := rfl
  generalize ([.tab false, .list ((cut is none (some 30) none).map V.int), .list [.loc 1, .int (0 : Nat)]] : MH) = H1 at e1 N1 T1
  generalize is.map V.int = sc at *
  obtain ⟨r2, H2, hr2, c2, N2, g2⟩ := catch_c (L := L) (sc := sc) (ora := ora) (n := 44) N1 (m := 6) (by decide)
  obtain ⟨src, mt0, hsub, hP, hsl⟩ := pick_pat (L := L) (sc := sc) (ora := ora) hr2 (C := (prg L sc ora).ctx 45) (h := H2)
  have e2 : evS ((prg L sc ora).ctx 45) (lawS 1) [(128026154263411, .ref L), (7628142, .loc 2)] H1 = some ((.next, [(128026154263411, .ref L), (7628142, .loc 2), (31088027509219696, .str src)]), H2) := t_asg (r_sub e_c (r_call (rs_cons (r_var rfl) (rs_cons e_c es_nil)) c2) hsub)
  obtain ⟨r3, H3, hr3, c3, N3, g3⟩ := catch_c (L := L) (sc := sc) (ora := ora) (n := 44) N2 (m := 7) (by decide)
  obtain ⟨t, H4, c4, hlen, hch, N4, g4⟩ := draw_text (L := L) (sc := sc) (ora := ora) (n := 44) (s := [97, 98, 45, 44]) (m := 4) (k := r3) (by decide) (by decide) (by lia) (ρ := [(128026154263411, .ref L), (7628142, .loc 2), (31088027509219696, .str src)]) rfl (it := .call (.c (.bi .range)) [.call (.c (.ref 947)) [.var 7628142, .c (.int 7)]]) (h0 := H2) (r_bi (rs_cons (r_call (rs_cons (r_var rfl) (rs_cons e_c es_nil)) c3) es_nil) (range_c (by lia))) N3 (tt := false)
  have e3 : evS ((prg L sc ora).ctx 45) (lawS 2) [(128026154263411, .ref L), (7628142, .loc 2), (31088027509219696, .str src)] H2 = some ((.next, [(128026154263411, .ref L), (7628142, .loc 2), (31088027509219696, .str src), (1954047348, .str t)]), H4) := t_asg c4
  obtain ⟨r5, H5, hr5, c5, N5, g5⟩ := catch_c (L := L) (sc := sc) (ora := ora) (n := 44) N4 (m := 4) (by decide)
  have hb5 : binop .add (.int 1) (.int r5) H5 = some (.int ((1 + r5 : Nat) : Int), H5) := by
    show some (V.int (1 + (r5 : Int)), H5) = _
    rw [show 1 + (r5 : Int) = ((1 + r5 : Nat) : Int) by exact Int.natCast_add _ _]
  have e4 : evS ((prg L sc ora).ctx 45) (lawS 3) [(128026154263411, .ref L), (7628142, .loc 2), (31088027509219696, .str src), (1954047348, .str t)] H4 = some ((.next, [(128026154263411, .ref L), (7628142, .loc 2), (31088027509219696, .str src), (1954047348, .str t), (1953722221, .int ((1 + r5 : Nat) : Int))]), H5) := t_asg (r_bin e_c (r_call (rs_cons (r_var rfl) (rs_cons e_c es_nil)) c5) hb5)
  obtain ⟨rows0, side0, k0, S0⟩ := hP.p0
  obtain ⟨rows1, side1, k1, S1⟩ := hP.p1
  obtain ⟨p, H6, c6, g6, P6⟩ := k0 H5
  obtain ⟨pg, H7, c7, g7, P7⟩ := k1 H6
  have a1 : binop .add (.str [40]) (.str src) H6 = some (.str ([40] ++ src), H6) := add_ss (by simp; lia)
  have a2 : binop .add (.str ([40] ++ src)) (.str [41]) H6 = some (.str (([40] ++ src) ++ [41]), H6) := add_ss (by simp; lia)
  have e5 : evS ((prg L sc ora).ctx 45) (lawS 4) [(128026154263411, .ref L), (7628142, .loc 2), (31088027509219696, .str src), (1954047348, .str t), (1953722221, .int ((1 + r5 : Nat) : Int))] H5 = some ((.next, [(128026154263411, .ref L), (7628142, .loc 2), (31088027509219696, .str src), (1954047348, .str t), (1953722221, .int ((1 + r5 : Nat) : Int)), (30787916450984560, .loc p), (28259031352046183, .loc pg)]), H7) :=
    t_asgs (r_tup (rs_cons (r_call (rs_cons (r_var rfl) (rs_cons e_c es_nil)) c6) (rs_cons (r_call (rs_cons (r_bin (r_bin e_c (r_var rfl) a1) e_c a2) (rs_cons e_c es_nil)) c7) es_nil))) rfl
  have g67 := g6.trans g7 (by simp)
  refine ⟨src, mt0, t, 1 + r5, p, pg, _, _, _, _, H7, ts_go e1 (ts_go e2 (ts_go e3 (ts_go e4 (ts_go e5 ss_nil)))), N5.gr g67 (by simp) (by simp), ?_, hP.takes, S0 _, S1 _, P6.gr g7, P7, by lia, fun c hc => ?_, by exact Nat.le_add_right _ _⟩
  · exact g67.get (g5.get (g4.get (g3.get (g2.get T1 (by simp)) (by simp)) (by simp)) (by simp)) (by simp)
  · have := hch c hc
    simp at this
    lia
end
section
variable {L : Nat} {sc : List V} {ora : Nat → Nat → List V → MH → R V} {n : Nat} {H : MH}
theorem ora_c {args : List V} : ((prg L sc ora).ctx (n + 1)).call 973 args H = ora n 973 args H := rfl
theorem chain_len {n : Nat} : ∀ {qs : List (Nat × Nat)} {a : Nat}, Chain n a qs → qs.length + a ≤ n
  | [], a, h => by rw [List.length_nil, Nat.zero_add]; exact h
  | q :: qs, a, ⟨h1, h2, h3, h4⟩ => by have := chain_len h4; rw [List.length_cons]; lia
noncomputable def OraOK (L : Nat) (sc : List V) (ora : Nat → Nat → List V → MH → R V) : Prop :=
  ∀ (H : MH) (t : List Nat) (p sp : Nat) (mt0 : List Nat → Nat → Option Nat) (rows : List V) (side : Option (Nat × List V)), Takes mt0 → PatSpec rows 0 side (lift mt0) → PatAt H p rows 0 side → t.length < 100 → (∀ c ∈ t, c < 1114112) →
    H[sp]? = some (.list (tups (sp0 mt0 t (t.length + 1) 0))) → (sp0 mt0 t (t.length + 1) 0).length < 900 → H[0]? = some (.tab false) → ora 44 973 [.str t, .loc p, .loc sp] H = some (.bool true, H.set 0 (.tab true))
noncomputable abbrev LawB (L : Nat) (sc : List V) (ora : Nat → Nat → List V → MH → R V) (ρ : Env) (H : MH) : Prop := ∃ sp H', evSs ((prg L sc ora).ctx 45) [lawS 5, lawS 6, lawS 7] ρ H = some ((.next, ρ.put 495773118579 (.loc sp)), H') ∧ NetAt H' ∧ H'[0]? = some (.tab true)
theorem law_b (ho : OraOK L sc ora) {ρ : Env} {t : List Nat} {p pg most : Nat} {mt0 : List Nat → Nat → Option Nat} {rows0 rows1 : List V} {side0 side1 : Option (Nat × List V)} (z1 : Env.get ρ 1954047348 = some (.str t)) (z2 : Env.get ρ 1953722221 = some (.int most)) (z3 : Env.get ρ 30787916450984560 = some (.loc p)) (z4 : Env.get ρ 28259031352046183 = some (.loc pg))
    (hN : NetAt H) (hT : H[0]? = some (.tab false)) (hm : Takes mt0) (S0 : PatSpec rows0 0 side0 (lift mt0)) (S1 : PatSpec rows1 1 side1 (lift mt0)) (P0 : PatAt H p rows0 0 side0) (P1 : PatAt H pg rows1 1 side1) (ht : t.length ≤ 6) (hch : ∀ c ∈ t, c < 128) (hmost : 1 ≤ most) :
    LawB L sc ora ρ H := by
  have hch' : ∀ c ∈ t, c < 1114112 := fun c hc => by have := hch c hc; lia
  have g0 : Gr [] H (H ++ [limO]) := Gr.app
  obtain ⟨f, H1, fs, B, c1, g1, hf, hA⟩ := all_c (L := L) (sc := sc) (ora := ora) (n := 29) (H := H ++ [limO]) (t := t) (li := H.length) S0 (P0.gr g0) (by simp) (by lia)
  rw [spans_sp0, sp0_stable hm (2 * t.length + 2) (t.length + 1) 0 (by lia) (by exact Nat.le_add_left _ _)] at hA
  have hc := sp0_chain hm (t := t) (t.length + 1) 0 (by exact Nat.zero_le _)
  have hql := chain_len hc
  have hit : evE ((prg L sc ora).ctx 45) false (.call (.c (.ref 425)) [.var 30787916450984560, .var 1954047348, .c (.int 0), .call (.c (.ref 477)) []]) ρ H = some (.loc f, H1) :=
    r_call (rs_cons (r_var z3) (rs_cons (r_var z1) (rs_cons e_c (rs_cons (r_call es_nil (limits_c (n := 43))) es_nil)))) c1
  have hi : itemsOf ((prg L sc ora).ctx 45) (.loc f) H1 = some fs := it_list hf
  have hgo := spans_go (C := (prg L sc ora).ctx 45) (ρ := ρ) hf fs (sp0 mt0 t (t.length + 1) 0) [] hA (by have := hA.len; simp; lia)
  have e5 : evS ((prg L sc ora).ctx 45) (lawS 5) ρ H = some ((.next, ρ.put 495773118579 (.loc H1.length)), H1 ++ [.list (tups (sp0 mt0 t (t.length + 1) 0))]) := t_asg (r_comp hit hi hgo)
  have g2 : Gr [] H (H1 ++ [.list (tups (sp0 mt0 t (t.length + 1) 0))]) := (g0.trans g1 (by simp)).trans Gr.app (by simp)
  have hsp : (H1 ++ [O.list (tups (sp0 mt0 t (t.length + 1) 0))])[H1.length]? = some (.list (tups (sp0 mt0 t (t.length + 1) 0))) := app_get0
  generalize hH2 : (H1 ++ [O.list (tups (sp0 mt0 t (t.length + 1) 0))]) = H2 at e5 g2 hsp
  generalize H1.length = sp at e5 hsp
  generalize hρ : ρ.put 495773118579 (.loc sp) = ρ1 at e5
  have y1 : Env.get ρ1 1954047348 = some (.str t) := hρ ▸ gp_ne rfl z1
  have y2 : Env.get ρ1 1953722221 = some (.int most) := hρ ▸ gp_ne rfl z2
  have y3 : Env.get ρ1 30787916450984560 = some (.loc p) := hρ ▸ gp_ne rfl z3
  have y4 : Env.get ρ1 28259031352046183 = some (.loc pg) := hρ ▸ gp_ne rfl z4
  have y5 : Env.get ρ1 495773118579 = some (.loc sp) := hρ ▸ gp_eq
  obtain ⟨g, G, c6, _, _⟩ := between_c (L := L) (sc := sc) (ora := ora) (n := 44) (t := t) hsp hc (by lia)
  have g3 : Gr [] H2 (H2 ++ G) := Gr.app
  have g23 := g2.trans g3 (by simp)
  obtain ⟨H4, c7, g4⟩ := fields_right_c (L := L) (sc := sc) (ora := ora) (n := 29) (most := most) S0 S1 hm (P0.gr g23) (P1.gr g23) (by lia) hch' (g3.get hsp (by simp)) (by lia) hmost
  have e6 : evS ((prg L sc ora).ctx 45) (lawS 6) ρ1 H2 = some ((.next, ρ1), H4) :=
    t_if_f (r_bop (rb_go (r_cmp (r_call (rs_cons (r_var y1) (rs_cons (r_var y5) es_nil)) c6) e_c rfl) rfl (rb_one (r_not (r_call (rs_cons (r_var y1) (rs_cons (r_var y3) (rs_cons (r_var y4) (rs_cons (r_var y5) (rs_cons (r_var y2) es_nil))))) c7))))) rfl ss_nil
  have g24 := g23.trans g4 (by simp)
  have c8 := ho H4 t p sp mt0 rows0 side0 hm S0 (P0.gr g24) (by lia) hch' (g4.get (g3.get hsp (by simp)) (by simp)) (by lia) (g24.get hT (by simp))
  obtain ⟨H6, c9, g6⟩ := empty_right_c (L := L) (sc := sc) (ora := ora) (n := 28) (H := H4.set 0 (.tab true)) cp43_12 (by lia) hch
  have e7 : evS ((prg L sc ora).ctx 45) (lawS 7) ρ1 H4 = some ((.next, ρ1), H6) :=
    t_if_f (r_bop (rb_go (r_not (r_call (rs_cons (r_var y1) (rs_cons (r_var y3) (rs_cons (r_var y5) es_nil))) c8)) rfl (rb_one (r_not (r_call (rs_cons (r_var y1) es_nil) c9))))) rfl ss_nil
  exact ⟨sp, H6, hρ ▸ ts_go e5 (ts_go e6 (ts_go e7 ss_nil)), ((hN.gr g24 (by simp) (by simp)).gr (Gr.set (j := 0)) (by simp) (by simp)).gr g6 (by simp) (by simp), g6.get (List.getElem?_set_self (lt_of_get (g24.get hT (by simp)))) (by simp)⟩
end
theorem jn_len (sep : List Nat) : ∀ ps : List (List Nat), (∀ p ∈ ps, p.length ≤ 2) → (jn sep ps).length ≤ (2 + sep.length) * ps.length
  | [], _ => Nat.zero_le _
  | [p], h => by have := h p (.head _); simp [jn]; exact Nat.le_add_right_of_le this
  | p :: q :: r, h => by
    have ih := jn_len sep (q :: r) fun x hx => h x (.tail _ hx)
    have h1 := h p (.head _)
    simp only [jn, List.length_append]
    rw [List.length_cons, Nat.mul_add]; lia
theorem jn_all {sep : List Nat} {b : Nat} (hs : ∀ c ∈ sep, c < b) : ∀ ps : List (List Nat), (∀ p ∈ ps, ∀ c ∈ p, c < b) → ∀ c ∈ jn sep ps, c < b
  | [], _, c, hc => by cases hc
  | [p], h, c, hc => h p (.head _) c hc
  | p :: q :: r, h, c, hc => by
    simp only [jn, List.mem_append] at hc
    rcases hc with hc | hc | hc
    · exact h p (.head _) c hc
    · exact hs c hc
    · exact jn_all hs (q :: r) (fun x hx => h x (.tail _ hx)) c hc
theorem jn_nil {x : Nat} {xs : List Nat} {p : List Nat} {ps : List (List Nat)} : jn (x :: xs) (p :: ps) = [] ↔ p :: ps = [[]] := by
  cases ps with
  | nil => simp [jn]
  | cons q r => simp [jn]
section
variable {L : Nat} {sc : List V} {ora : Nat → Nat → List V → MH → R V} {n : Nat} {H : MH}
noncomputable abbrev LawC (L : Nat) (sc : List V) (ora : Nat → Nat → List V → MH → R V) (ρ : Env) (H : MH) (o0 : O) : Prop := ∃ ρ' H', evSs ((prg L sc ora).ctx 45) [lawS 8, lawS 9, lawS 10, lawS 11, lawS 12] ρ H = some ((.ret (.bool true), ρ'), H') ∧ H'[0]? = some o0
theorem law_c {ρ : Env} (z1 : Env.get ρ 7628142 = some (.loc 2)) (hN : NetAt H) {o0 : O} (hT : H[0]? = some o0) :
    LawC L sc ora ρ H o0 := by
  obtain ⟨r1, H1, hr1, c1, N1, g1⟩ := catch_c (L := L) (sc := sc) (ora := ora) (n := 44) hN (m := 3) (by decide)
  have hb1 : binop .add (.int 1) (.int r1) H1 = some (.int ((1 + r1 : Nat) : Int), H1) := by
    show some (V.int (1 + (r1 : Int)), H1) = _
    rw [show 1 + (r1 : Int) = ((1 + r1 : Nat) : Int) by exact Int.natCast_add _ _]
  obtain ⟨parts, H2, c2, N2, g2, hl2, hlen, hP⟩ := draw_comp (C := (prg L sc ora).ctx 45) (ρ := ρ) (h0 := H) (H := H1) (x := 1953653104) (m := 1 + r1) (t := false) (it := .call (.c (.bi .range)) [.bin .add (.c (.int 1)) (.call (.c (.ref 947)) [.var 7628142, .c (.int 3)])])
    (elt := .meth (.c (.str [])) 1852403562 [.comp (.sub (.c (.str [97, 98])) (.call (.c (.ref 947)) [.var 7628142, .c (.int 2)])) [1852994932] true (.call (.c (.bi .range)) [.call (.c (.ref 947)) [.var 7628142, .c (.int 3)]]) []])
    (P := fun u => u.length ≤ 2 ∧ ∀ c ∈ u, c ∈ [97, 98]) (by lia) (r_bi (rs_cons (r_bin e_c (r_call (rs_cons (r_var z1) (rs_cons e_c es_nil)) c1) hb1) es_nil) (range_c (by lia))) N1 (fun i h hh _ => by
      obtain ⟨r, h1, hr, d1, M1, k1⟩ := catch_c (L := L) (sc := sc) (ora := ora) (n := 44) hh (m := 3) (by decide)
      obtain ⟨u, h2, d2, hu, hcu, M2, k2⟩ := draw_text (L := L) (sc := sc) (ora := ora) (n := 44) (s := [97, 98]) (m := 2) (k := r) (by decide) (by decide) (by lia) (ρ := ρ.put 1953653104 (.int i)) (gp_ne rfl z1) (it := .call (.c (.bi .range)) [.call (.c (.ref 947)) [.var 7628142, .c (.int 3)]]) (h0 := h) (r_bi (rs_cons (r_call (rs_cons (r_var (gp_ne rfl z1)) (rs_cons e_c es_nil)) d1) es_nil) (range_c (by lia))) M1 (tt := false)
      exact ⟨u, h2, d2, ⟨by lia, hcu⟩, M2, k1.trans k2 (fun j hj _ => hj)⟩)
  have e8 : evS ((prg L sc ora).ctx 45) (lawS 8) ρ H = some ((.next, ρ.put 495874892144 (.loc H1.length)), H2) := t_asg c2
  generalize H1.length = pa at e8 hl2
  obtain ⟨p, ps, rfl⟩ : ∃ p ps, parts = p :: ps := by
    cases parts with
    | nil => simp only [List.length_nil] at hlen; lia
    | cons p ps => exact ⟨p, ps, rfl⟩
  obtain ⟨r3, H3, hr3, c3, N3, g3⟩ := catch_c (L := L) (sc := sc) (ora := ora) (n := 44) N2 (m := 4) (by decide)
  obtain ⟨x, xs, src, mt0, hsub, hq, hS, hL, ⟨hx1, hx2, hxs⟩, hsc⟩ := pick_sep (L := L) (sc := sc) (ora := ora) hr3 (C := (prg L sc ora).ctx 45) (h := H3)
  have e9 : evS ((prg L sc ora).ctx 45) (lawS 9) (ρ.put 495874892144 (.loc pa)) H2 = some ((.next, (ρ.put 495874892144 (.loc pa)).put 31073733908391266 (.str (x :: xs))), H3) := t_asg (r_sub e_c (r_call (rs_cons (r_var (gp_ne rfl z1)) (rs_cons e_c es_nil)) c3) hsub)
  have hpa3 : pa ∉ [2] ∨ True := .inr trivial
  have hl3 : H3[pa]? = some (.list (txs (p :: ps))) := by
    refine g3.get hl2 ?_
    intro m
    have e := List.mem_singleton.mp m
    subst e
    obtain ⟨is, k, f1, _⟩ := N2
    rw [hl2] at f1
    cases ps <;> simp [txs] at f1
  have hp10 : ∀ q ∈ p :: ps, q.length ≤ 10 := fun q hq => by have := (hP q hq).1; lia
  have hn10 : (p :: ps).length ≤ 3 := by lia
  have gl3 : Gr [] H3 (H3 ++ [limO]) := Gr.app
  have j1 := join_c (L := L) (sc := sc) (ora := ora) (n := 44) (H := H3 ++ [limO]) (l := pa) (li := H3.length) (sep := x :: xs) (ps := p :: ps) (gl3.get hl3 (by simp)) (by simp) (by simp; lia) (by lia) hp10
  obtain ⟨rows, side, k0, S0⟩ := hS.p0
  obtain ⟨cu, H4, c4, g4, P4⟩ := k0 (H3 ++ [limO])
  have g34 := gl3.trans g4 (by simp)
  have hl4 := g34.get hl3 (by simp)
  have e10 : evS ((prg L sc ora).ctx 45) (lawS 10) ((ρ.put 495874892144 (.loc pa)).put 31073733908391266 (.str (x :: xs))) H3 = some ((.next, (((ρ.put 495874892144 (.loc pa)).put 31073733908391266 (.str (x :: xs))).put 110386806878058 (.str (jn (x :: xs) (p :: ps)))).put 7632227 (.loc cu)), H4) :=
    t_asgs (r_tup (rs_cons (r_call (rs_cons (r_var gp_eq) (rs_cons (r_var (gp_ne rfl gp_eq)) (rs_cons (r_call es_nil (limits_c (n := 43))) es_nil))) j1) (rs_cons (r_call (rs_cons (r_call (rs_cons (r_var gp_eq) es_nil) (hq _)) (rs_cons e_c es_nil)) c4) es_nil))) rfl
  generalize hρ : ((((ρ.put 495874892144 (.loc pa)).put 31073733908391266 (.str (x :: xs))).put 110386806878058 (.str (jn (x :: xs) (p :: ps)))).put 7632227 (.loc cu)) = ρ4 at e10
  have y1 : Env.get ρ4 495874892144 = some (.loc pa) := hρ ▸ gp_ne rfl (gp_ne rfl (gp_ne rfl gp_eq))
  have y2 : Env.get ρ4 110386806878058 = some (.str (jn (x :: xs) (p :: ps))) := hρ ▸ gp_ne rfl gp_eq
  have y3 : Env.get ρ4 7632227 = some (.loc cu) := hρ ▸ gp_eq
  have hch : ∀ q ∈ p :: ps, ∀ c ∈ q, c < 128 := fun q hq c hc => by have := (hP q hq).2 c hc; simp at this; lia
  have hne : ∀ q ∈ p :: ps, ∀ c ∈ q, c ≠ x := fun q hq c hc => by have := (hP q hq).2 c hc; simp at this; lia
  have htl := jn_len (x :: xs) (p :: ps) fun q hq => (hP q hq).1
  have htl2 : (jn (x :: xs) (p :: ps)).length < 100 := by
    have h1 : (2 + (x :: xs).length) * (p :: ps).length ≤ 4 * 3 := Nat.mul_le_mul (by simp; lia) hn10
    omega
  obtain ⟨f1, f2, f3⟩ := jn_cut hL ps p 0 ((jn (x :: xs) (p :: ps)).length + 1) (Nat.zero_le _) rfl hne (by exact Nat.le_add_left _ _)
  have hcp : CharsOK (p :: ps) := fun q hq c hc => by have := hch q hq c hc; lia
  obtain ⟨g5, H5, c5, gr5, hg5⟩ := split_x (L := L) (sc := sc) (ora := ora) (n := 30) (H := H4) (ρ := ρ4) (pe := .var 7632227) (te := .var 110386806878058) (le := .neg (.c (.int 1))) (limit := -1) (tt := false) (S0 _) P4 htl2 (r_var y3) (r_var y2) (r_neg e_c)
  rw [split_all hS.takes, f1] at hg5
  have hl5 := gr5.get hl4 (by simp)
  have hsh : (35 : Nat) < 128 := by decide
  have e11 : ∃ H6, evS ((prg L sc ora).ctx 45) (lawS 11) ρ4 H4 = some ((.next, ρ4), H6) ∧ Gr [] H4 H6 := by
    have gA : Gr [] H5 (H5 ++ [.list (txs [[]])]) := Gr.app
    have hcm : compare ((prg L sc ora).ctx 45) .ne (.loc pa) (.loc H5.length) (H5 ++ [.list (txs [[]])]) = some (!decide (p :: ps = [[]])) := by
      show (eqV _ _ _).map _ = _
      rw [eq_lists (gA.get hl5 (by simp)) app_get0 hcp (fun f hf c hc => by rw [List.mem_singleton.mp hf] at hc; cases hc)]; rfl
    have hcn : evE ((prg L sc ora).ctx 45) true (.cmp (.var 495874892144) [.ne] [.list [.c (.str [])]]) ρ4 H5 = some (.bool (!decide (p :: ps = [[]])), H5 ++ [.list (txs [[]])]) := r_cmp (r_var y1) (r_list (rs_cons e_c es_nil)) hcm
    by_cases h : p :: ps = [[]]
    · have ht : jn (x :: xs) (p :: ps) = [] := jn_nil.mpr h
      rw [if_pos ht] at hg5
      rw [decide_eq_true h] at hcn
      have hcq : compare ((prg L sc ora).ctx 45) .ne (.loc g5) (.loc (H5 ++ [O.list (txs [[]])]).length) ((H5 ++ [.list (txs [[]])]) ++ [.list (txs [])]) = some false := by
        show (eqV _ _ _).map _ = _
        rw [eq_lists ((Gr.app (G := [.list (txs [])])).get (gA.get hg5 (by simp)) (by simp)) app_get0 (fun f hf => by cases hf) (fun f hf => by cases hf)]; rfl
      exact ⟨_, t_if_f (r_cmp c5 (r_ite_f hcn rfl (r_list es_nil)) hcq) rfl ss_nil, (gr5.trans gA (by simp)).trans Gr.app (by simp)⟩
    · have ht : jn (x :: xs) (p :: ps) ≠ [] := fun e => h (jn_nil.mp e)
      rw [if_neg ht] at hg5
      rw [decide_eq_false h] at hcn
      have hcq : compare ((prg L sc ora).ctx 45) .ne (.loc g5) (.loc pa) (H5 ++ [.list (txs [[]])]) = some false := by
        show (eqV _ _ _).map _ = _
        rw [eq_lists (gA.get hg5 (by simp)) (gA.get hl5 (by simp)) hcp hcp, decide_eq_true rfl]; rfl
      exact ⟨_, t_if_f (r_cmp c5 (r_ite_t hcn rfl (r_var y1)) hcq) rfl ss_nil, gr5.trans gA (by simp)⟩
  obtain ⟨H6, e11, g6⟩ := e11
  have hj35 := jn_len [35] (p :: ps) fun q hq => (hP q hq).1
  have hj36 : (jn [35] (p :: ps)).length ≤ 100 := by
    have h1 : (2 + [35].length) * (p :: ps).length ≤ 3 * 3 := Nat.mul_le_mul (by simp) hn10
    lia
  obtain ⟨H7, c7, g7⟩ := sub_all_x (L := L) (sc := sc) (ora := ora) (n := 29) (H := H6) (ρ := ρ4) (pe := .var 7632227) (te := .var 110386806878058) (fe := .c (.ref 954)) (tt := false) (S0 _) hS.takes (mark_c (L := L) (sc := sc) (ora := ora) (t := jn (x :: xs) (p :: ps))) (P4.gr g6) htl2 (by rw [f3]; lia) (r_var y3) (r_var y2) e_c
  rw [f2, f3] at c7
  have hl7 := g7.get (g6.get hl4 (by simp)) (by simp)
  have gl7 : Gr [] H7 (H7 ++ [limO]) := Gr.app
  have j7 := join_c (L := L) (sc := sc) (ora := ora) (n := 44) (H := H7 ++ [limO]) (l := pa) (li := H7.length) (sep := [35]) (ps := p :: ps) (gl7.get hl7 (by simp)) (by simp) (by simp) (by lia) hp10
  have hlen7 : builtin .len [.loc pa] (H7 ++ [limO]) = some (.int ((p :: ps).length : Nat), H7 ++ [limO]) := by rw [len_list (gl7.get hl7 (by simp)), show (txs (p :: ps)).length = (p :: ps).length from List.length_map _]
  have hb7 : binop .sub (.int ((p :: ps).length : Nat)) (.int 1) (H7 ++ [limO]) = some (.int ps.length, H7 ++ [limO]) := by
    show some (V.int (((p :: ps).length : Int) - 1), H7 ++ [limO]) = _
    rw [show ((p :: ps).length : Int) - 1 = ps.length by simp]
  have hall : ∀ c ∈ jn [35] (p :: ps), c < 1114112 := jn_all (fun c hc => by rw [List.mem_singleton.mp hc]; decide) (p :: ps) hcp
  refine ⟨ρ4, H7 ++ [limO], ts_go e8 (ts_go e9 (ts_go e10 (ts_go e11 (ts_ret (t_ret (r_cmp c7 (r_tup (rs_cons (r_call (rs_cons e_c (rs_cons (r_var y1) (rs_cons (r_call es_nil (limits_c (n := 43))) es_nil))) j7) (rs_cons (r_bin (r_bi (rs_cons (r_var y1) es_nil) hlen7) e_c hb7) es_nil))) (eqv_pair (H := H7 ++ [limO]) hall))))))), gl7.get (g7.get (g6.get (g34.get (g3.get (g2.get (g1.get hT (by simp)) (by simp)) (by simp)) (by simp)) (by simp)) (by simp)) (by simp)⟩
theorem law_run (ho : OraOK L sc ora) (hL : look listTab L = none) {is : List Int} (hsc : sc = is.map V.int) : ∃ H', runF ((prg L sc ora).ctx 45) f983 [.ref L] [.tab false] = some (.bool true, H') ∧ H'[0]? = some (.tab true) := by
  obtain ⟨src, mt0, t, most, p, pg, rows0, side0, rows1, side1, H1, e1, N1, T1, hm, S0, S1, P0, P1, ht, hch, h1⟩ := law_a (L := L) (sc := sc) (ora := ora) hL hsc
  obtain ⟨sp, H2, e2, N2, T2⟩ := law_b ho (ρ := [(128026154263411, .ref L), (7628142, .loc 2), (31088027509219696, .str src), (1954047348, .str t), (1953722221, .int (most : Nat)), (30787916450984560, .loc p), (28259031352046183, .loc pg)]) rfl rfl rfl rfl N1 T1 hm S0 S1 P0 P1 ht hch h1
  obtain ⟨ρ', H3, e3, T3⟩ := law_c (L := L) (sc := sc) (ora := ora) (ρ := Env.put [(128026154263411, .ref L), (7628142, .loc 2), (31088027509219696, .str src), (1954047348, .str t), (1953722221, .int (most : Nat)), (30787916450984560, .loc p), (28259031352046183, .loc pg)] 495773118579 (.loc sp)) rfl N2 T2
  exact ⟨H3, f_ret (zp_cons zp_nil).bind (ts_app (a := [lawS 0, lawS 1, lawS 2, lawS 3, lawS 4]) (b := [lawS 5, lawS 6, lawS 7] ++ [lawS 8, lawS 9, lawS 10, lawS 11, lawS 12]) e1 (ts_app e2 e3)), T3⟩
end
end Mine
set_option maxRecDepth 100000
set_option autoImplicit false
namespace Mine
open PySem PySem.W PyProof.Rows PySem.Calls PySem.SeqAt
section
variable {Γ : Gam} {C : Ctx} {n : Nat}
noncomputable def fSame (gr tx : Nat) (m : ME) : MF := ⟨[gr, tx], [], [.ret m]⟩
theorem same_frame {gr : Nat} {c a c' : Addr} {qual : Str} {sc : Scope} {H : MH} {S : St Γ H} {h' : Heap} {tk : Tok} {v : V} {t : List Nat} {X y : Value} (hX : Γ.h₀.IsCell c (some X)) (rX : VR Γ.h₀ [] (.str t) X) (r1 : S.rel v y)
    (hk : sc.kind = .function) (hnm : sc.names = [(nm gr, .local), (nm ice, .free)]) (hgi : gr ≠ ice) (hns : h'.Ns S.s.heap.objs.size (fun x => ([(nm gr, y)] : List (Str × Value)).reverse.lookup x)) (keep : ∀ b o, S.s.heap.get? b = some o → h'.get? b = some o) :
    FR (newEnv sc S.s.heap.objs.size mainGlobals [(nm ice, c)] qual (some a) (.ref c') none builtinsNs) [(gr, v), (ice, .str t)] (S.grow { S.s with heap := h', toks := tk } keep) := by
  have up : ∀ {u z}, S.rel u z → VR h' S.μ u z := fun r => VR.stay (W := []) (fun b o e _ => keep b o e) (bare_nil _) r
  have cX : ∀ o, Γ.h₀.get? c = some o → h'.get? c = some o := fun o e => keep _ _ (S.hr.base _ _ e)
  have hc0 : Γ.h₀.get? c ≠ none := fun e => hX.elim fun o q => nsm (e.symm.trans q.1)
  have hng : (nm ice == nm gr) = false := beq_false_of_ne fun q => hgi (nm_inj q.symm)
  have one : ∀ {z : Str} {d : Addr}, ([(nm ice, c)] : List (Str × Addr)).lookup z = some d → z = nm ice ∧ d = c := fun h => by
    have hm := List.mem_singleton.mp (lookup_mem h)
    exact ⟨congrArg (·.1) hm, congrArg (·.2) hm⟩
  have two : ∀ {z : Str} {k : NameKind}, sc.names.lookup z = some k → (z = nm gr ∧ k = .local) ∨ (z = nm ice ∧ k = .free) := fun h => by
    rw [hnm] at h
    exact (List.mem_cons.mp (lookup_mem h)).imp (fun e => ⟨congrArg (·.1) e, congrArg (·.2) e⟩) fun m => ⟨congrArg (·.1) (List.mem_singleton.mp m), congrArg (·.2) (List.mem_singleton.mp m)⟩
  have ce : ([(nm ice, c)] : List (Str × Addr)).lookup (nm ice) = some c := by rw [List.lookup_cons, beq_self_eq_true]
  refine ⟨hk, rfl, rfl, ⟨_, hns, fun z u _ hz _ hg => ?_⟩, fun z hz => ?_, fun z u d hz hd hg => ?_, fun z d hd => ?_, ⟨S.hr.ne (size_none _), S.dead0 (size_none _)⟩, fun z d hd => ?_, fun z z' d h1 h2 => (one h1).1.trans (one h2).1.symm, fun d hd => ?_⟩
  · rcases two hz with e | e
    · have e1 := nm_inj e.1
      rw [e1] at hg ⊢
      have hg : (if gr = gr then some v else _) = some u := hg
      rw [if_pos rfl] at hg
      exact ⟨y, by show ([(nm gr, y)] : List (Str × Value)).lookup (nm gr) = _; rw [List.lookup_cons, beq_self_eq_true], Option.some.inj hg ▸ up r1⟩
    · exact nomatch e.2
  · have : z = nm ice := hz.elim (fun hz => (two hz).elim (fun e => nomatch e.2) fun e => nomatch e.2) fun hz => (two hz).elim (fun e => nomatch e.2) fun e => e.1
    exact ⟨c, this ▸ ce⟩
  · obtain ⟨h1, h2⟩ := one hd
    rw [nm_inj h1] at hg
    have hg : (if gr = ice then some v else if ice = ice then some (V.str t) else none) = some u := hg
    rw [if_neg hgi, if_pos rfl] at hg
    exact ⟨X, h2 ▸ cell_at hX cX, Option.some.inj hg ▸ up (S.v0 rX)⟩
  · exact ⟨_, (one hd).2 ▸ cell_at hX cX⟩
  · obtain ⟨h1, h2⟩ := one hd
    rw [h2]
    exact ⟨fun mm => hc0 (S.hr.fresh _ mm), fun hne => absurd h1 hne⟩
  · exact ⟨nm ice, by rw [List.mem_singleton.mp hd]; exact ce⟩
theorem call_same {a c c' : Addr} {qual : Str} {params : Arguments} {sc : Scope} {e : PySem.Expr} {pos : Pos} {doc pm ctv : Value} {name : Str} {gr : Nat} {as : List Arg} {kd : List (Option PySem.Expr)} {m : ME} {t : List Nat} {X : Value}
    (lim : Γ.h₀.NoLimit) (tabs : Tabs Γ C) (glob : GlobOK Γ.h₀) (cs : CSound Γ n C)
    (ho : Γ.h₀.get? a = some (fnMade name qual params [.Return (some (em m e)) pos] sc [(nm ice, c)] doc pm c' ctv)) (hcode : Γ.h₀.CodeRec (.ref c') qual) (hX : Γ.h₀.IsCell c (some X)) (rX : VR Γ.h₀ [] (.str t) X)
    (hp : params = ⟨[], as, none, [], kd, none, []⟩) (has : as.map (·.arg) = [nm gr]) (hk : sc.kind = .function) (hnm : sc.names = [(nm gr, .local), (nm ice, .free)]) (hco : sc.isCoroutine = false) (hge : sc.isGenerator = false) (hgi : gr ≠ ice)
    (ok : okE m e (kap sc) = true) {v : V} {H : MH} : CallOK Γ (n + 1) a [v] H (runF C (fSame gr ice m) [v, .str t] H) := by
  intro A S xs R room rs h
  obtain ⟨y, ys, rfl, r1, r2⟩ := rs
  cases r2
  have hl : as.length = 1 := by have := congrArg List.length has; rwa [List.length_map] at this
  refine codeAny_call_function (Nat.lt_of_le_of_lt (Nat.le_trans (Nat.le_add_right _ _) (Nat.le_add_right _ _)) room.depth) (S.hr.base _ _ ho) rfl hco hge rfl (hcode.keeps S.hr.base) ?_
  refine binds_snd (as := as) (kd := kd) (dd := []) (ds := []) hp (.inl ⟨rfl, rfl⟩) (by rw [has]; exact List.nodup_cons.mpr ⟨nofun, List.nodup_nil⟩) (by rw [hl]; exact Nat.le_refl _) (by rw [hl]; exact Nat.le_refl _) (Nat.zero_le _) ?_
  rw [has]
  refine wpAny_newFunctionEnv (fun p hp => ?_) (fun p hp => ?_) (fun h' hns hsb => ?_) hk
  · have hp : p ∈ sc.names := hp
    rw [hnm] at hp
    rcases List.mem_cons.mp hp with e | hp
    · rw [e]; exact nofun
    · rw [List.mem_singleton.mp hp]; exact nofun
  · rw [List.mem_singleton.mp hp]
    show sc.names.lookup (nm gr) = _
    rw [hnm, List.lookup_cons, beq_self_eq_true]
  · have keep : ∀ b o, S.s.heap.get? b = some o → h'.get? b = some o := fun b o e => (hsb.2 b fun q => by rw [q] at e; exact nsm ((size_none _).symm.trans e)).trans (Heap.get?_push_of_some _ e)
    have F := same_frame (tk := S.s.toks + 1) (qual := qual ++ ".<locals>.") (a := a) (c' := c') hX rX r1 hk hnm hgi hns keep
    have t1 := S.to_grow (s' := { S.s with heap := h', toks := S.s.toks + 1 }) (X := []) keep
    refine ⟨(lim.keeps S.hr.base).keeps keep, codeAny_func (wpAny_execs_cons (wpAny_Return_some ?_))⟩
    exact evE_snd ⟨Γ, C, n, _, room.deeper, tabs, glob, cs⟩ m false ok F _ _ ((gp_then (gp_then (gp_then (show Gp (andThen (evSs C [.ret m] [(gr, v), (ice, .str t)] H) fun p h1 => (flEnd p.1).map (·, h1)) _ from h)))).mono fun p h S2 z t2 r2 => h S2 z (t1.trans t2) r2)
end
end Mine
set_option maxRecDepth 100000
set_option autoImplicit false
namespace Mine
open PySem PySem.W PyProof.Rows PySem.Calls PySem.SeqAt
noncomputable def noOra : Nat → Nat → List V → MH → R V := fun _ _ _ _ => none
noncomputable def gnm : Nat := 126926843769447
noncomputable def mSame : ME := .slice (.var ice) (.sub (.sub (.var gnm) (.c (.int 0))) (.c (.int 0))) (.sub (.sub (.var gnm) (.c (.int 0))) (.c (.int 1))) (.c .none)
noncomputable def oraS (L : Nat) (sc : List V) (a : Nat) (t : List Nat) : Nat → Nat → List V → MH → R V := fun _ f args H => if f = a then (match args with
  | [v] => runF ((prg L sc noOra).ctx 0) (fSame gnm ice mSame) [v, .str t] H
  | _ => none) else none
section
variable {L : Nat} {sc : List V} {n : Nat}
theorem look_big {α : Type} {l : List (Nat × α)} (h : (l.all fun p => Nat.ble p.1 983) = true) {a : Nat} (ha : 983 < a) : look l a = none := by
  induction l with
  | nil => rfl
  | cons p r ih =>
    rw [List.all_cons, Bool.and_eq_true] at h
    have := Nat.le_of_ble_eq_true h.1
    unfold look
    rw [if_neg (by lia)]
    exact ih h.2
theorem call_ora {ora : Nat → Nat → List V → MH → R V} {a : Nat} (ha : 983 < a) {args : List V} {H : MH} : ((prg L sc ora).ctx (n + 1)).call a args H = ora n a args H := by
  have h1 : (prg L sc ora).fns a = none := look_big (by decide +kernel) ha
  have h2 : (prg L sc ora).cls a = none := look_big (by decide +kernel) ha
  have h3 : (prg L sc ora).nat a = none := if_neg (by lia)
  simp only [Prg.ctx, h1, h2, h3]; rfl
theorem rep_same {a : Nat} {t : List Nat} (ha : 983 < a) : RepOK L sc (oraS L sc a t) t a (seg t) := by
  intro n H g s e rest h hs he
  rw [call_ora ha]
  unfold oraS
  rw [if_pos rfl]
  simp only []
  have c2 : cut t (some (s : Int)) (some (e : Int)) none = seg t s e := cut_seg hs he
  have hv : evE ((prg L sc noOra).ctx 0) false (.var gnm) [(gnm, .loc g), (ice, .str t)] H = some (.loc g, H) := r_var rfl
  exact f_ret (ρ := [(gnm, .loc g), (ice, .str t)]) (zp_cons (zp_cons zp_nil)).bind (ts_ret (t_ret (r_slice (r_var rfl) (r_sub (r_sub hv e_c (s_int0 h)) e_c (s_tup rfl rfl rfl)) (r_sub (r_sub hv e_c (s_int0 h)) e_c (s_tup rfl rfl rfl)) e_c (by rw [← c2]; rfl))))
theorem PatAt.tab {H : MH} {p : Nat} {rows : List V} {ng : Nat} {side : Option (Nat × List V)} (x : PatAt H p rows ng side) (hT : H[0]? = some (.tab false)) : PatAt (H.set 0 (.tab true)) p rows ng side := by
  have g : Gr [0] H (H.set 0 (.tab true)) := Gr.set
  have nt : ∀ {j : Nat} {o : O}, H[j]? = some o → (∀ b, o ≠ .tab b) → (H.set 0 (.tab true))[j]? = some o := fun {j o} e hn => g.get e fun m => by
    rw [List.mem_singleton.mp m, hT] at e; cases e; exact hn _ rfl
  obtain ⟨⟨pr, nl, h1, h2⟩, h3⟩ := x
  refine ⟨⟨pr, nl, nt h1 nofun, nt h2 nofun⟩, ?_⟩
  cases side with
  | none => trivial
  | some q => exact nt h3 nofun
end
section
variable {Γ : Gam} {L : Nat} {sc : List V}
noncomputable abbrev nSame : Str := nm 1701667187
structure RepAt (h₀ : Heap) (fd : FuncData) (params : Arguments) (sc2 : Scope) (e : PySem.Expr) (rest : List Stmt) (posd pos : Pos) : Prop where
  fn : FnHas h₀ 973 f973.params f973.dflts fd (.FunctionDef nSame params [.Return (some (em mSame e)) pos] [] none [] sc2 none nSame posd :: emSs (f973.body.drop 1) rest)
  code : fd.code = .ref 972
  same : fd.scope.names.lookup nSame = some .local
  text : fd.scope.names.lookup (nm ice) = some .cell
  rest : okSs (f973.body.drop 1) rest fd.scope = true
  pars : ∃ as kd, params = ⟨[], as, none, [], kd, none, []⟩ ∧ as.map (·.arg) = [nm gnm] ∧ kd = [] ∧ ∀ env, annTrees params none env = []
  kind : sc2.kind = .function
  names : sc2.names = [(nm gnm, .local), (nm ice, .free)]
  co : sc2.isCoroutine = false
  ge : sc2.isGenerator = false
  rep : okE mSame e (kap sc2) = true
theorem closure_one {sc2 : Scope} {env : PySem.Env} {x y : Str} {c : Addr} (h : sc2.names = [(x, .local), (y, .free)]) (hc : cellAt env y c) : closureFor sc2 env = pure [(y, c)] := by
  have hc : env.cells.lookup y = some c := hc
  unfold closureFor
  rw [h]
  simp [cellOf, hc]
structure NewAt {H : MH} (S : St Γ H) (X : List Addr) (fo : Obj) (a c c' : Addr) (q : Str) (Xv : Value) (t : List Nat) : Prop where
  k : ∀ b o, Γ.h₀.get? b = some o → (hideAll S.s.heap X).get? b = some o
  fn : (hideAll S.s.heap X).get? a = some fo
  code : (hideAll S.s.heap X).CodeRec (.ref c') q
  cell : (hideAll S.s.heap X).IsCell c (some Xv)
  val : VR (hideAll S.s.heap X) [] (.str t) Xv
theorem up_prg {H : MH} {S : St Γ H} {X : List Addr} {a c c' : Addr} {q : Str} {Xv : Value} {t : List Nat} {fd : FuncData} {params : Arguments} {sc2 : Scope} {e : PySem.Expr} {rest : List Stmt} {posd pos : Pos} {doc pm ctv : Value}
    (P : PrgOK Γ (prg L sc noOra)) (hn : ∀ h, (∀ b o, Γ.h₀.get? b = some o → h.get? b = some o) → ∀ n H, CallOK (Γ.at h) (n + 1) 375 [] H (some (.loc H.length, H ++ [.dict rowTab]))) (F0 : RepAt Γ.h₀ fd params sc2 e rest posd pos)
    (N : NewAt S X (fnMade nSame q params [.Return (some (em mSame e)) pos] sc2 [(nm ice, c)] doc pm c' ctv) a c c' q Xv t) : PrgOK (Γ.at (hideAll S.s.heap X)) ((prg L sc noOra).oraIs (oraS L sc a t)) :=
  P.up N.k (fun f o hf n H => by
    have hf : (if f = 375 then some (O.dict rowTab) else none) = some o := hf
    by_cases e : f = 375
    · rw [if_pos e] at hf
      rw [e, ← Option.some.inj hf]
      exact hn _ N.k n H
    · rw [if_neg e] at hf; exact nsm hf) fun n f args H => by
    unfold oraS
    by_cases e : f = a
    · rw [if_pos e, e]
      have keep : KeepOK (Γ.at (hideAll S.s.heap X)) a := fun h hh => keeps_F h ⟨_, _, _, _, hh _ _ N.fn⟩
      cases args with
      | nil => exact ⟨fun _ _ _ _ _ _ _ h => False.elim h, fun _ _ => keep⟩
      | cons v r =>
        cases r with
        | cons _ _ => exact ⟨fun _ _ _ _ _ _ _ h => False.elim h, fun _ _ => keep⟩
        | nil =>
          obtain ⟨as, kd, hpar, has, _, _⟩ := F0.pars
          exact ⟨fun _ => call_same (P.lim.keeps N.k) (P.tabs.up N.k) (P.glob.up N.k) (fun f args H => ⟨fun _ _ _ _ _ _ h => False.elim h, fun p e => nsm e⟩) N.fn N.code N.cell N.val hpar has F0.kind F0.names F0.co F0.ge (by decide) F0.rep, fun _ _ => keep⟩
    · rw [if_neg e]; exact ⟨fun _ _ _ _ _ _ _ h => False.elim h, fun p e => nsm e⟩
end
end Mine
set_option maxRecDepth 100000
set_option autoImplicit false
namespace Mine
open PySem PySem.W PyProof.Rows PySem.Calls PySem.SeqAt
section
variable {Γ : Gam} {L : Nat} {sc : List V}
theorem FRz.base {H : MH} {S : St Γ H} {env : PySem.Env} {ρ : Env} {X : List Addr} {c : Addr} (F : FR env ρ S) (hr : HR (Γ.at (hideAll S.s.heap X)) S.μ H S.s.heap) (hc : cellAt env (nm ice) c) (hX : ∀ b ∈ owns env, b ≠ c → b ∈ X) : FR (Γ := Γ.at (hideAll S.s.heap X)) env ρ ⟨S.s, S.μ, hr⟩ :=
  ⟨F.kind, F.globals, F.blt, F.ns, F.cells, F.cellv, F.alive, ⟨F.apart.1, hideAll_none X (hX _ (.head _) fun q => F.apart2 hc q.symm)⟩,
    fun y d hy => ⟨(F.apartC y d hy).1, fun hne => hideAll_none X (hX _ (mem_owns hy) fun q => hne (F.one _ _ _ (q ▸ hy) hc))⟩, F.one, F.mine⟩
theorem rep_rest {fd : FuncData} {params : Arguments} {sc2 : Scope} {e : PySem.Expr} {rest : List Stmt} {posd pos : Pos}
    (P : PrgOK Γ (prg L sc noOra)) (hn : ∀ h, (∀ b o, Γ.h₀.get? b = some o → h.get? b = some o) → ∀ n H, CallOK (Γ.at h) (n + 1) 375 [] H (some (.loc H.length, H ++ [.dict rowTab]))) (F0 : RepAt Γ.h₀ fd params sc2 e rest posd pos)
    {H : MH} {t : List Nat} {p sp : Nat} {mt0 : List Nat → Nat → Option Nat} {rows : List V} {side : Option (Nat × List V)} (hm : Takes mt0) (PS : PatSpec rows 0 side (lift mt0)) (hp : PatAt H p rows 0 side) (ht : t.length < 100) (hch : ∀ c ∈ t, c < 1114112)
    (hsp : H[sp]? = some (.list (tups (sp0 mt0 t (t.length + 1) 0)))) (hq : (sp0 mt0 t (t.length + 1) 0).length < 900) (hT : H[0]? = some (.tab false))
    {S : St Γ H} {S1 : St Γ (H.set 0 (.tab true))} {A : Around} {env : PySem.Env} {Q : Flow → Shared → Prop} {E : Value → Shared → Prop} {a c c' : Addr} {q : Str} {doc pm ctv : Value} {fo : Obj} (room : Room 44 A) (hsc : env.scope = fd.scope)
    (F : FR env [(1954047348, .str t), (30787916450984560, .loc p), (495773118579, .loc sp)] S) (t1 : To [] S S1) (F1 : FR env [(1954047348, .str t), (30787916450984560, .loc p), (495773118579, .loc sp)] S1) (hc : cellAt env (nm ice) c) (hbg : 983 < a)
    (h : Gd (kR env Q) S (some (.bool true, H.set 0 (.tab true)))) (hfm : fo = fnMade nSame q params [.Return (some (em mSame e)) pos] sc2 [(nm ice, c)] doc pm c' ctv) (ho : S1.s.heap.get? a = some fo) (da : S.s.heap.get? a = none)
    (hcd : ∃ c'' oc vs tq, Value.ref c' = .ref c'' ∧ S1.s.heap.get? c'' = some oc ∧ oc.data = .fields vs ∧ vs[1]? = some (.str q tq)) (dc : S.s.heap.get? c' = none) (hμ : S1.μ = S.μ) :
    wpAny Γ.M A (storeName env nSame (.ref a)) (fun _ s'' => match Flow.next with | .next => wpAny Γ.M A (execs (emSs (f973.body.drop 1) rest) env) Q E s'' | f => Q f s'') E S1.s := by
  have ko : ∀ y, env.kindOf y = fd.scope.names.lookup y := fun y => by show env.scope.names.lookup y = _; rw [hsc]
  refine store_snd (I := ⟨Γ, (prg L sc noOra).ctx 44, 44, A, room, tabs_ctx P.tabs 44, P.glob, P.sound 44⟩) (X := owns env) (y := 1701667187) (v := .ref a) F1 (.inl ⟨(ko _).trans F0.same, .head _⟩) rfl fun S2 t2 F2 => ?_
  generalize hX : S2.μ.flatten ++ (owns env).filter (fun b => b != c) = X
  have inX : ∀ {b : Addr}, b ∈ X → (b ∈ owns env ∧ b ≠ c) ∨ b ∈ S2.μ.flatten := fun {b} h => by
    rw [← hX] at h
    exact (List.mem_append.mp h).elim .inr fun h => .inl ((List.mem_filter.mp h).imp_right bne_iff_ne.mp)
  have toX : ∀ b ∈ owns env, b ≠ c → b ∈ X := fun b h hne => hX ▸ List.mem_append_right _ (List.mem_filter.mpr ⟨h, bne_iff_ne.mpr hne⟩)
  have new : ∀ {b : Addr} {o : Obj}, S1.s.heap.get? b = some o → S.s.heap.get? b = none → (hideAll S2.s.heap X).get? b = some o := fun {b o} h1 h2 => by
    have n1 : b ∉ owns env := fun m => (F.own_live m).elim fun o q => nsm (h2.symm.trans q)
    have n2 : b ∉ S1.μ.flatten := hμ ▸ S.hr.ne h2
    exact hideAll_get X (t2.keeps b o h1 fun m => (List.mem_append.mp m).elim n1 n2) fun m => (inX m).elim (fun m => n1 m.1) (t2.toTk.out n2 ⟨o, h1⟩)
  have k : ∀ b o, Γ.h₀.get? b = some o → (hideAll S2.s.heap X).get? b = some o := fun b o hb => hideAll_get X (S2.hr.base b o hb) fun m => (inX m).elim (fun m => (List.mem_cons.mp m.1).elim (fun e => by rw [e, F.apart.2] at hb; exact nsm hb) fun q => (F.mine b q).elim fun y hy => by
      by_cases hyi : y = nm ice
      · rw [hyi] at hy; exact m.2 (Option.some.inj (hy.symm.trans hc))
      · rw [(F.apartC y b hy).2 hyi] at hb; exact nsm hb) fun m => nsm ((S2.hr.fresh b m).symm.trans hb)
  have cX : c ∉ X := fun m => (inX m).elim (fun m => m.2 rfl) (F2.apartC _ _ hc).1
  obtain ⟨Xv, hXc, rX⟩ := F2.cellv ice (.str t) c (.inl ((ko _).trans F0.text)) hc rfl
  subst hfm
  have y := up_prg P hn F0 ⟨k, new ho da, hcd.elim fun c2 q => q.elim fun oc q => q.elim fun vs q => q.elim fun tq q => ⟨c2, oc, vs, tq, q.1, new q.2.1 (by rw [← Value.ref.inj q.1]; exact dc), q.2.2⟩, hXc.imp fun o q => ⟨hideAll_get X q.1 cX, q.2⟩, rX⟩
  have hp1 := hp.tab hT
  have hsp1 : (H.set 0 (.tab true))[sp]? = some (.list (tups (sp0 mt0 t (t.length + 1) 0))) := Gr.set.get hsp fun m => by rw [List.mem_singleton.mp m, hT] at hsp; cases hsp
  obtain ⟨ρ', H2, hev, gr⟩ := replaced_body (n := 28) (ρ := (Env.put [(1954047348, V.str t), (30787916450984560, .loc p), (495773118579, .loc sp)] 1701667187 (.ref a))) PS hm (rep_same hbg) hp1 ht hch rfl rfl rfl rfl hsp1 hq
  have hr2 := S2.hr.up X fun a ha => hX ▸ List.mem_append_left _ ha
  refine evSs_snd ⟨Γ.at (hideAll S2.s.heap X), (prg L sc (oraS L sc a t)).ctx 44, 44, A, room, tabs_ctx y.tabs 44, y.glob, y.sound 44⟩ (f973.body.drop 1) (S := ⟨S2.s, S2.μ, hr2⟩) (hsc ▸ F0.rest) (F2.base hr2 hc toX) ?_
  show Gp (evSs ((prg L sc (oraS L sc a t)).ctx 44) (f973.body.drop 1) _ _) _
  rw [hev]
  intro S3 fw t3 F3 r
  obtain ⟨z, rfl, rz⟩ := r
  obtain ⟨ν, eν, _⟩ := t3.ext
  have hr3 : HR Γ S2.μ (H.set 0 (.tab true)) S3.s.heap := S2.hr.cut (eν ▸ S3.hr.down k) fun i o hi => gr.get hi fun m => nomatch m
  exact h ⟨S3.s, S2.μ, hr3⟩ z _ ((t1.w.trans t2).trans ⟨⟨⟨[], (List.append_nil _).symm, fun _ m => nomatch m⟩, t3.keeps⟩, t3.live, t3.gens, t3.drawn, t3.os⟩) rz (.inl rfl)
theorem rep_body {mg : Str → Option Value} {fd : FuncData} {params : Arguments} {sc2 : Scope} {e : PySem.Expr} {rest : List Stmt} {posd pos : Pos}
    (P : PrgOK Γ (prg L sc noOra)) (hn : ∀ h, (∀ b o, Γ.h₀.get? b = some o → h.get? b = some o) → ∀ n H, CallOK (Γ.at h) (n + 1) 375 [] H (some (.loc H.length, H ++ [.dict rowTab])))
    (hmg : Γ.h₀.Ns mainGlobals mg) (hbt : Γ.h₀.BuiltinsAt mg tabP) (hcd : CodeHd Γ.h₀ 972 tabP) (hbig : ∃ o, Γ.h₀.get? 983 = some o) (F0 : RepAt Γ.h₀ fd params sc2 e rest posd pos)
    {H : MH} {t : List Nat} {p sp : Nat} {mt0 : List Nat → Nat → Option Nat} {rows : List V} {side : Option (Nat × List V)} (hm : Takes mt0) (PS : PatSpec rows 0 side (lift mt0)) (hp : PatAt H p rows 0 side) (ht : t.length < 100) (hch : ∀ c ∈ t, c < 1114112)
    (hsp : H[sp]? = some (.list (tups (sp0 mt0 t (t.length + 1) 0)))) (hq : (sp0 mt0 t (t.length + 1) 0).length < 900) (hT : H[0]? = some (.tab false)) :
    CallOK Γ 45 973 [.str t, .loc p, .loc sp] H (some (.bool true, H.set 0 (.tab true))) := by
  show CallOK Γ (44 + 1) 973 [.str t, .loc p, .loc sp] H ((Mine.bindArgs f973 [.str t, .loc p, .loc sp]).bind fun _ => some (.bool true, H.set 0 (.tab true)))
  refine call_gen F0.fn P.lim fun ρ hρ => ?_
  rw [← Option.some.inj hρ]
  intro A env S Q E room hsc hcode hlim F h
  have ko : ∀ y, env.kindOf y = fd.scope.names.lookup y := fun y => by show env.scope.names.lookup y = _; rw [hsc]
  obtain ⟨as, kd, hpar, has, hkd, hann⟩ := F0.pars
  obtain ⟨c, hc⟩ := F.cells (nm ice) (.inl ((ko _).trans F0.text))
  obtain ⟨l0, hl0, ps0, rfl, hP, hps⟩ := S.hr.at hT
  cases hps rfl
  obtain ⟨bm, ob, b1, b2, b3, b4, b5, b6⟩ := hbt
  have mP : tabP ∈ S.μ.flatten := List.mem_flatten.mpr ⟨_, List.mem_of_getElem? hl0, .head _⟩
  refine wpAny_execs_cons (nestDef_K (by rw [hpar]) (by rw [hpar, hkd]) (hann env) ?_)
  refine makeFunction_K (mg := mg) (c := 972) (P := tabP) (ps := #[]) (clos := [(nm ice, c)]) (closure_one F0.names hc) F.globals (hmg.keeps S.hr.base) (hcode.trans F0.code) (hcd.keeps S.hr.base) hP trivial rfl (by decide) ⟨bm, ob, b1, b2, b3, b4, S.hr.base _ _ b5, b6⟩ fun c' ctv doc h' tk hx hge hlt hrec htb => ?_
  generalize hfm : fnMade nSame (qualnameIn env nSame nSame) params [.Return (some (em mSame e)) pos] sc2 [(nm ice, c)] doc ((mg "__name__").getD .none) c' ctv = fo
  have k1 : Keeps [tabP] S.s.heap (h'.push fo) := fun b o eb hb => Heap.get?_push_of_some _ (hx b o (fun q => hb (by rw [q]; exact .head _)) eb)
  have ho1 : ORel Γ (h'.push fo) S.μ (.tab true) [tabP] := ⟨_, rfl, Heap.get?_push_of_some _ htb, nofun⟩
  have t1 : To [] S (S.set { S.s with heap := h'.push fo, toks := tk } (.tab true) hT hl0 k1 ho1) := S.to_set
  refine rep_rest (S1 := S.set { S.s with heap := h'.push fo, toks := tk } (.tab true) hT hl0 k1 ho1) (a := h'.objs.size) P hn F0 hm PS hp ht hch hsp hq hT room hsc F t1 (F.to t1) hc ?_ h hfm.symm (Heap.get?_push_size _ (by rw [← hfm]; rfl)) ?_ ?_ ?_ rfl
  · obtain ⟨o, ho⟩ := hbig
    exact Heap.lt_size (hx 983 o (by decide) (S.hr.base _ _ ho))
  · cases q : S.s.heap.get? h'.objs.size with
    | none => rfl
    | some o => exact absurd (Nat.lt_of_lt_of_le (Heap.lt_size q) (Nat.le_of_lt (Nat.lt_of_le_of_lt hge hlt))) (Nat.lt_irrefl _)
  · exact hrec.elim fun c2 q => q.elim fun oc q => q.elim fun vs q => q.elim fun tq q => ⟨c2, oc, vs, tq, q.1, Heap.get?_push_of_some _ q.2.1, q.2.2⟩
  · cases q : S.s.heap.get? c' with
    | none => rfl
    | some o => exact absurd (Nat.lt_of_lt_of_le (Heap.lt_size q) hge) (Nat.lt_irrefl _)
end
end Mine
set_option maxRecDepth 100000
set_option autoImplicit false
namespace Mine
open PySem PySem.W PyProof.Rows PySem.Calls PySem.SeqAt
section
variable {M : Model} {A : Around} {E : Value → Shared → Prop} {s : Shared}
theorem wp_ifT {α : Type} {c : Prop} [Decidable c] {a b : Sem α} {Q : α → Shared → Prop} (h : c) (ha : wpAny M A a Q E s) : wpAny M A (if c then a else b) Q E s := by rwa [if_pos h]
theorem wp_some {α β : Type} {o : Option α} {x : α} {f : α → Sem β} {g : Sem β} {Q : β → Shared → Prop} (e : o = some x) (h : wpAny M A (f x) Q E s) : wpAny M A (match o with | some x => f x | none => g) Q E s := e ▸ h
theorem range_loop {f : Nat → PUnit → Sem (ForInStep PUnit)} {I : Nat → Shared → Prop} {Q : PUnit → Shared → Prop} {n : Nat} (turn : ∀ j s (R : ForInStep PUnit → Shared → Prop), j < n → I j s → (∀ s', I (j + 1) s' → R (.yield ⟨⟩) s') → wpAny M A (f j ⟨⟩) R E s) (fin : ∀ s, I n s → Q ⟨⟩ s) :
    ∀ (k i : Nat) (s : Shared), i + k = n → I i s → wpAny M A (forIn (List.range' i k) ⟨⟩ f) Q E s
  | 0, i, s, e, h => wpAny_pure (fin s (e ▸ h))
  | k + 1, i, s, e, h => by
    rw [List.range'_succ, List.forIn_cons]
    exact wpAny_bind (turn i s _ (Nat.lt_of_lt_of_eq (Nat.lt_add_of_pos_right (Nat.succ_pos k)) e) h fun s' h' => range_loop turn fin k (i + 1) s' ((Nat.add_right_comm i 1 k).trans e) h')
end
section
variable {prog : Program} {w : World} {A : Around} {E : Value → Shared → Prop} {s : Shared} {h₀ : Heap}
noncomputable abbrev SK (prog : Program) (w : World) : KeyKind prog w Str := strKind prog w
theorem find_none {d : Addr} {o : Obj} {es : Array DictEntry} {ep : Nat} {k : Str} {key : Value} {Q : Option Nat → Shared → Prop} (hkey : (SK prog w).is k key = true) (ho : s.heap.get? d = some o) (hd : o.data = .dict es ep) (hk : KeysOf (SK prog w) es)
    (e : (es.findIdx? fun e => (SK prog w).is k e.key) = none) (h : Q none s) : wpAny (model prog w) A (dictFind d key ((SK prog w).hash k)) Q E s := wpAny_dictFind_of hkey ho hd hk (e.symm ▸ h)
theorem put_fresh {d : Addr} {kvs : List (Str × Value)} {k : Str} {key v : Value} {Q : Unit → Shared → Prop} (hkey : (SK prog w).is k key = true) (hm : s.heap.DictOf (SK prog w) d kvs) (hn : ((kvs ++ [(k, v)]).map (·.1)).Nodup) (hsz : kvs.length ≤ sizeLine)
    (hQ : ∀ h', h'.DictOf (SK prog w) d (kvs ++ [(k, v)]) → Heap.SameBut d s.heap h' → Q () { s with heap := h' }) : wpAny (model prog w) A (dictPut d ((SK prog w).hash k) key v) Q E s := by
  obtain ⟨o, es, ep, ho, hc, hd, hk, hp, _⟩ := hm
  have hf : k ∉ kvs.map (·.1) := fun m => (List.nodup_append.mp (List.map_append ▸ hn)).2.2 k m k (.head _) rfl
  have e1 : es.toList.findIdx? (fun e => (SK prog w).is k e.key) = none := (hp.findIdx k).trans (List.findIdx?_eq_none_iff.mpr fun kv m => decide_eq_false fun q => hf (q ▸ List.mem_map_of_mem m))
  exact wpAny_bind (find_none hkey ho hd hk (Array.findIdx?_eq_none_iff.mpr fun e m => List.findIdx?_eq_none_iff.mp e1 e (Array.mem_toList_iff.mpr m))
    (wpAny_updateDictKeys (hz := Nat.le_trans (Nat.le_of_eq hp.length) hsz) ho hd (hQ _ ⟨_, _, ep + 1, Heap.get?_update_self _ ho (Obj.isFreed_of_dict (Obj.data_mapDictKeys hd _)), hc.mapDictKeys _, Obj.data_mapDictKeys hd _, hk.push hkey _,
      (Array.toList_push (xs := es)).symm ▸ hp.append hkey _ v, hn⟩ (Heap.SameBut.update ..))))
theorem take_one {α : Type} {l : List α} {i : Nat} {a : α} (h : l[i]? = some a) : l.take (i + 1) = l.take i ++ [a] := by rw [List.take_add_one, h]; rfl
structure MgI (knd : KeyKind prog w Str) (d o : Addr) (oo : Obj) (kvs more : List (Str × Value)) (s : Shared) (i : Nat) (s' : Shared) : Prop where
  st : s' = { s with heap := s'.heap }
  dd : s'.heap.DictOf knd d (kvs ++ more.take i)
  oo : s'.heap.get? o = some oo
  same : Heap.SameBut d s.heap s'.heap
theorem merge_turn {d o : Addr} {oo : Obj} {eso : Array DictEntry} {epo i : Nat} {kvs more : List (Str × Value)} {s' : Shared} {R : PUnit → Shared → Prop} (hdo : d ≠ o) (hoo : oo.data = .dict eso epo) (hko : KeysOf (SK prog w) eso) (hpo : Pairs (SK prog w) eso.toList more)
    (hn : ((kvs ++ more).map (·.1)).Nodup) (hsz : (kvs ++ more).length ≤ sizeLine) (hi : i < eso.size) (h : MgI (SK prog w) d o oo kvs more s i s') (hQ : ∀ s', MgI (SK prog w) d o oo kvs more s (i + 1) s' → R ⟨⟩ s') :
    wpAny (model prog w) A (dictPut d eso[i].hash eso[i].key eso[i].val) R E s' := by
  have hm : i < more.length := Nat.lt_of_lt_of_eq hi hpo.length
  obtain ⟨k, hk1, hk2⟩ := hko eso[i] (Array.getElem_mem hi)
  obtain ⟨q1, q2⟩ := hpo.get? (e := eso[i]) (Array.getElem?_toList.trans (Array.getElem?_eq_getElem hi)) (List.getElem?_eq_getElem hm)
  have q3 : k = (more[i]).1 := (SK prog w).inj _ _ _ hk1 q1
  have t : (kvs ++ more.take i) ++ [(k, eso[i].val)] = kvs ++ more.take (i + 1) := by rw [List.append_assoc, take_one (List.getElem?_eq_getElem hm), q3, q2]; rfl
  rw [hk2]
  refine put_fresh hk1 h.dd ?_ (Nat.le_trans ?_ hsz) fun h' D sb => hQ _ ⟨?_, t ▸ D, (sb.2 o (Ne.symm hdo)).trans h.oo, h.same.trans sb⟩
  · rw [t]; exact hn.sublist (((List.take_sublist _ _).append_left _).map _)
  · exact (List.Sublist.append_left (List.take_sublist _ _) _).length_le
  · exact congrArg (fun x : Shared => { x with heap := h' }) h.st
theorem merge_map {d o : Addr} {kvs more : List (Str × Value)} {Q : Unit → Shared → Prop} (hdo : d ≠ o) (hoS : (o == sysModules) = false) (hne : 0 < kvs.length) (hd : s.heap.DictOf (SK prog w) d kvs) (ho : s.heap.DictOf (SK prog w) o more)
    (hn : ((kvs ++ more).map (·.1)).Nodup) (hsz : (kvs ++ more).length ≤ sizeLine) (hQ : ∀ h', h'.DictOf (SK prog w) d (kvs ++ more) → Heap.SameBut d s.heap h' → Q () { s with heap := h' }) : wpAny (model prog w) A (mergeMapping d (.ref o) false) Q E s := by
  have ty := ho.mapOf.typeIs
  obtain ⟨od, esd, epd, hod, _, hdd, _, hpd, _⟩ := id hd
  obtain ⟨oo, eso, epo, hoo, _, hdo', hko, hpo, _⟩ := ho
  have hdne : ¬esd.isEmpty = true := fun q => Nat.lt_irrefl 0 (Nat.lt_of_lt_of_eq hne (hpd.length.symm.trans (of_decide_eq_true q)))
  refine wpAny_bind (wpAny_isInstance (T := "dict") (U := "dict") ty (b := true) (by rfl) (wp_ifT rfl (wpAny_bind (wpAny_specialOf (T := "dict") ty (r := some (.builtin "dict.__iter__")) (by rfl) (wpAny_bind (wpAny_pure ?_))))))
  rw [beq_self_eq_true (some (Value.builtin "dict.__iter__"))]
  refine wp_ifF (fun q => ff (hoS.symm.trans q)) (wpAny_bind (wpAny_dictEntries hod hdd (wp_ifF hdne (wpAny_bind (wpAny_dictEntries hoo hdo' (wpAny_bind (wpAny_dictEpoch hoo hdo' ?_)))))))
  rw [List.range_eq_range']
  refine wpAny_bind (range_loop (I := MgI (SK prog w) d o oo kvs more s) (fun j s' R hj h hR => ?_) (fun s' h => wpAny_pure ?_) eso.size 0 s (Nat.zero_add _) ⟨rfl, (List.append_nil kvs).symm ▸ hd, hoo, Heap.SameBut.refl _ _⟩)
  · refine wpAny_bind (wpAny_dictEntries h.oo hdo' ?_)
    rw [Array.getElem?_eq_getElem hj]
    exact wpAny_bind (wpAny_holding (wp_ifF Bool.false_ne_true (merge_turn hdo hdo' hko hpo hn hsz hj h fun s' h => wpAny_bind (wpAny_dictEpoch h.oo hdo' (wp_ifF (fun q => ff ((bne_self_eq_false _).symm.trans q)) (wpAny_pure (hR _ h)))))))
  · rw [h.st]
    exact hQ _ ((List.take_length (l := more)) ▸ hpo.length ▸ h.dd) h.same
noncomputable def Yields (M : Model) (A : Around) (E : Value → Shared → Prop) (h₀ : Heap) (p : Sem Value × Sem Value) (q : Str × Value) : Prop :=
  (∀ (s : Shared) (Q : Value → Shared → Prop), (∀ t, Q (.str q.1 t) { s with toks := s.toks + 1 }) → wpAny M A p.1 Q E s) ∧
  (∀ (s : Shared) (Q : Value → Shared → Prop), (∀ b o, h₀.get? b = some o → s.heap.get? b = some o) → Q q.2 s → wpAny M A p.2 Q E s)
noncomputable abbrev setPair (d : Addr) (x : Sem Value × Sem Value) (_ : PUnit) : Sem (ForInStep PUnit) := do let kv ← x.1; let vv ← holding [kv] x.2; holding [kv, vv] (dictSet d kv vv); pure (ForInStep.yield PUnit.unit)
section
variable {α : Type} {p : α → Sem Value × Sem Value} {q : α → Str × Value}
theorem long_loop {d : Addr} (hd0 : h₀.get? d = none) : ∀ (Z : List α) (acc : List (Str × Value)) (s : Shared) (Q : PUnit → Shared → Prop), (∀ z ∈ Z, Yields (model prog w) A E h₀ (p z) (q z)) → (∀ b o, h₀.get? b = some o → s.heap.get? b = some o) →
    s.heap.DictOf (SK prog w) d acc → acc.length + Z.length ≤ sizeLine → (∀ h' tk, h'.DictOf (SK prog w) d (merged acc (Z.map q)) → Heap.SameBut d s.heap h' → Q ⟨⟩ { s with heap := h', toks := tk }) →
    wpAny (model prog w) A (forIn (Z.map p) PUnit.unit (setPair d)) Q E s
  | [], acc, s, Q, _, _, hm, _, hQ => wpAny_pure (hQ s.heap s.toks hm (Heap.SameBut.refl _ _))
  | z :: Z, acc, s, Q, hy, hb, hm, hsz, hQ => by
    rw [List.map_cons, List.forIn_cons]
    exact wpAny_bind (wpAny_bind ((hy z (.head _)).1 s _ fun t => wpAny_bind (wpAny_holding ((hy z (.head _)).2 _ _ hb (wpAny_bind (wpAny_holding (wpAny_dictSet_pairs (hsz := Nat.le_of_add_right_le hsz) (strKind_is prog w (q z).1 t) hm fun h₁ hm₁ hs₁ => wpAny_pure
      (long_loop hd0 Z (stored acc (q z).1 (q z).2) _ Q (fun y m => hy y (.tail _ m)) (fun b o e => (hs₁.2 b fun c => nsm (hd0.symm.trans (c ▸ e))).trans (hb b o e)) hm₁
        (Nat.le_trans (Nat.add_le_add_right (stored_length_le acc _ _) _) (Nat.le_trans (Nat.le_of_eq (Nat.add_right_comm _ 1 _)) hsz)) fun h' tk hm' hs' => hQ h' tk hm' (hs₁.trans hs')))))))))
theorem short_pairs : ∀ (Z : List α) (s : Shared) (Q : List (Value × Value) → Shared → Prop), (∀ z ∈ Z, Yields (model prog w) A E h₀ (p z) (q z)) → (∀ b o, h₀.get? b = some o → s.heap.get? b = some o) →
    (∀ vs tk, Carries (SK prog w) vs (Z.map q) → Q vs { s with toks := tk }) → wpAny (model prog w) A (evalPairs (Z.map p)) Q E s
  | [], s, Q, _, _, hQ => evalPairs_nil (hQ [] s.toks trivial)
  | z :: Z, s, Q, hy, hb, hQ => evalPairs_cons ((hy z (.head _)).1 s _ fun t => (hy z (.head _)).2 _ _ hb (short_pairs Z _ _ (fun y m => hy y (.tail _ m)) hb fun vs tk hc => hQ _ tk ⟨strKind_is prog w _ t, rfl, hc⟩))
theorem sub_dict {Z : List α} {ps : List (Sem Value × Sem Value)} (hps : ps = Z.map p) (hy : ∀ z ∈ Z, Yields (model prog w) A E h₀ (p z) (q z)) (hb : ∀ b o, h₀.get? b = some o → s.heap.get? b = some o) (hn : ((Z.map q).map (·.1)).Nodup) (hl : Z.length ≤ sizeLine) {Q : Addr → Shared → Prop}
    (hQ : ∀ h' tk, h'.DictOf (SK prog w) s.heap.objs.size (Z.map q) → (∀ b o, s.heap.get? b = some o → h'.get? b = some o) → Q s.heap.objs.size { s with heap := h', toks := tk }) : wpAny (model prog w) A (subDict ps) Q E s := by
  cases hps
  have k1 : ∀ b o, s.heap.get? b = some o → (s.heap.push { cls := .type "dict", data := .dict #[] }).get? b = some o := fun b o e => Heap.get?_push_of_some _ e
  have fin : ∀ h' tk, h'.DictOf (SK prog w) s.heap.objs.size (merged [] (Z.map q)) → Heap.SameBut s.heap.objs.size (s.heap.push { cls := .type "dict", data := .dict #[] }) h' → Q s.heap.objs.size { s with heap := h', toks := tk } := fun h' tk hm hs =>
    hQ h' tk (merged_nil_of_nodup _ hn ▸ hm) fun b o e => (hs.2 b fun c => nsm ((size_none s.heap).symm.trans (c ▸ e))).trans (k1 b o e)
  have d0 := Heap.DictOf.new (knd := SK prog w) s.heap
  by_cases h15 : (Z.map p).length ≤ 15
  · exact wpAny_subDict (knd := SK prog w) h15 (short_pairs Z _ _ hy (fun b o e => k1 b o (hb b o e)) fun vs tk hc => ⟨_, hc, d0, fun h' hm hs => fin h' _ hm hs⟩)
  · exact wpAny_bind (wpAny_alloc (wpAny_bind (wpAny_holding (wp_ifF h15 (wpAny_bind (wpAny_rule (wpAny_bind (long_loop (dead_of (fun b o e => ⟨o, hb b o e⟩) (size_none _)) Z [] _ _ hy (fun b o e => k1 b o (hb b o e)) d0 ((Nat.zero_add _).symm ▸ hl) fun h' tk hm hs => wpAny_pure (wpAny_pure (fin h' tk hm hs))))))))))
noncomputable abbrev item (x : Sem Value × Sem Value) : Option (Sem Value) × Sem Value := (some x.1, x.2)
theorem gather {f : (Option (Sem Value) × Sem Value) → (Option Addr × List (Sem Value × Sem Value)) → Sem (ForInStep (Option Addr × List (Sem Value × Sem Value)))}
    (hf : ∀ (x : Sem Value × Sem Value) d run, run.length < 16 → f (item x) (d, run) = pure (.yield (d, run ++ [x]))) :
    ∀ (items : List (Sem Value × Sem Value)) (rest : List (Option (Sem Value) × Sem Value)) (d : Option Addr) (run : List (Sem Value × Sem Value)), run.length + items.length ≤ 16 → forIn (items.map item ++ rest) (d, run) f = forIn rest (d, run ++ items) f
  | [], rest, d, run, _ => by rw [List.append_nil]; rfl
  | x :: items, rest, d, run, h => by
    have h1 : run.length + 1 + items.length ≤ 16 := Nat.le_trans (Nat.le_of_eq (Nat.add_right_comm _ 1 _)) h
    rw [List.map_cons, List.cons_append, List.forIn_cons, hf x d run (Nat.le_of_add_right_le h1), pure_bind]
    exact (gather hf items rest d (run ++ [x]) (Nat.le_trans (Nat.le_of_eq (congrArg (· + items.length) List.length_append)) h1)).trans (congrArg (fun l => forIn rest (d, l) f) (List.append_cons run x items).symm)
theorem gathered {f : (Option (Sem Value) × Sem Value) → (Option Addr × List (Sem Value × Sem Value)) → Sem (ForInStep (Option Addr × List (Sem Value × Sem Value)))} {g : List (Sem Value × Sem Value) → Sem (ForInStep (Option Addr × List (Sem Value × Sem Value)))}
    (hf : ∀ (x : Sem Value × Sem Value) d run, run.length < 16 → f (item x) (d, run) = pure (.yield (d, run ++ [x]))) (hg : ∀ (x : Sem Value × Sem Value) run, run.length = 16 → f (item x) (none, run) = g (run ++ [x]))
    (as bs : List (Sem Value × Sem Value)) (x : Sem Value × Sem Value) (ha : as.length = 16) (hb : bs.length ≤ 16) {Q : Option Addr × List (Sem Value × Sem Value) → Shared → Prop}
    (h : wpAny (model prog w) A (g (as ++ [x])) (fun r s' => ∃ d, r = .yield (d, []) ∧ Q (d, bs) s') E s) : wpAny (model prog w) A (forIn ((as ++ x :: bs).map item) (none, []) f) Q E s := by
  rw [List.map_append, gather hf as _ none [] (Nat.le_of_eq ((Nat.zero_add _).trans ha)), List.map_cons, List.forIn_cons, hg x _ ((congrArg List.length (List.nil_append as)).trans ha)]
  refine wpAny_bind (wpAny_mono h (fun r s' ⟨d, e, k⟩ => ?_) fun _ _ e => e)
  rw [e, ← List.append_nil (bs.map item)]
  show wpAny _ _ (forIn _ _ _) _ _ _
  rw [gather hf bs [] d [] ((Nat.zero_add _).symm ▸ hb)]
  exact wpAny_pure k
theorem Dict_long {env : PySem.Env} {keys : List (Option PySem.Expr)} {values : List PySem.Expr} {pos : Pos} {Z : List α} {Q : Value → Shared → Prop}
    (hshape : (evalEachOpt keys env).zip ((evalEach values env).map fun v => do let x ← v; standAt pos; pure x) = (Z.map p).map item) (as bs : List α) (x : α) (hZ : Z = as ++ x :: bs) (ha : as.length = 16) (hb0 : 0 < bs.length) (hb : bs.length ≤ 16)
    (hy : ∀ z ∈ Z, Yields (model prog w) A E h₀ (p z) (q z)) (hk : ∀ b o, h₀.get? b = some o → s.heap.get? b = some o) (hsys : ∃ o, h₀.get? sysModules = some o)
    (hn : ((Z.map q).map (·.1)).Nodup) (h : ∀ h' tk d, h'.DictOf (SK prog w) d (Z.map q) → (∀ b o, s.heap.get? b = some o → h'.get? b = some o) → s.heap.get? d = none → Q (.ref d) { s with heap := h', toks := tk }) :
    wpAny (model prog w) A (eval (.Dict keys values pos) env) Q E s := by
  have e1 : Z.map q = (as ++ [x]).map q ++ bs.map q := by rw [hZ, List.append_cons, List.map_append]
  have l1 : (as ++ [x]).length = 17 := List.length_append.trans (congrArg (· + 1) ha)
  rw [e1] at hn h
  have hn2 := List.nodup_append.mp (List.map_append ▸ hn)
  have hz : (as.map p ++ p x :: bs.map p).map item = (Z.map p).map item := congrArg (List.map item) (by rw [hZ, List.map_append]; rfl)
  rw [arm_eval_Dict, hshape, ← hz]
  refine wpAny_bind (wpAny_standAt (wpAny_bind (gathered (g := fun run => do let d ← subDict run; pure (.yield (some d, []))) (fun x d run hr => ?_) (fun x run hr => ?_) _ _ (p x) ((List.length_map _).trans ha) (Nat.le_trans (Nat.le_of_eq (List.length_map _)) hb) ?_)))
  · exact if_neg fun c => Nat.ne_of_lt (Nat.succ_lt_succ hr) (show run.length + 1 = 17 from (List.length_append (as := run) (bs := [x])).symm.trans (beq_iff_eq.mp c))
  · have c : ((run ++ [x]).length == 17) = true := beq_iff_eq.mpr (List.length_append.trans (congrArg (· + 1) hr))
    have ne : ¬(run ++ [x]).isEmpty = true := fun e => nomatch (congrArg List.length (List.isEmpty_iff.mp e)).symm.trans (beq_iff_eq.mp c)
    refine (if_pos c).trans ((congrArg (· >>= _) (if_neg ne)).trans ?_)
    exact (bind_assoc _ _ _).trans (congrArg _ (funext fun d => pure_bind _ _))
  · refine wpAny_bind (sub_dict (List.map_append (f := p) (l₂ := [x])).symm (fun z m => hy z (hZ ▸ List.append_cons as x bs ▸ List.mem_append_left _ m)) hk hn2.1 (Nat.le_trans (Nat.le_of_eq l1) (by decide +kernel)) fun h1 tk1 D1 k1 => wpAny_pure ⟨_, rfl, ?_⟩)
    have no1 := size_none h1
    refine wpAny_bind (wp_ifF (fun e => ?_) (wpAny_bind (wpAny_holding (sub_dict rfl (fun z m => hy z (hZ ▸ List.mem_append_right _ (.tail _ m))) (fun b o e => k1 b o (hk b o e)) hn2.2.1 (Nat.le_trans hb (by decide +kernel)) fun h2 tk2 D2 k2 => wpAny_bind (wpAny_onRaise (wpAny_holding
      (merge_map (fun e => ?_) ?_ ?_ (D1.keep k2) D2 hn ?_ fun h3 D3 s3 => wpAny_pure (wpAny_pure (h h3 tk2 _ D3 (fun b o e => (s3.2 b fun c => nsm ((size_none s.heap).symm.trans (c ▸ e))).trans (k2 b o (k1 b o e))) (size_none s.heap))))))))))
    · exact Nat.ne_of_gt hb0 ((List.length_map p).symm.trans (congrArg List.length (List.isEmpty_iff.mp e)))
    · exact D1.elim fun o q => q.elim fun _ q => q.elim fun _ q => nsm (no1.symm.trans (e ▸ q.1))
    · exact hsys.elim fun o e => beq_eq_false_iff_ne.mpr fun c => nsm (no1.symm.trans (c ▸ k1 _ _ (hk _ _ e)))
    · rw [List.length_map, l1]; exact Nat.succ_pos _
    · rw [List.length_append, List.length_map, List.length_map, l1]; exact Nat.le_trans (Nat.add_le_add_left hb 17) (by decide +kernel)
end
end
noncomputable abbrev RowZ := (List Nat × V) × PySem.Expr × PySem.Expr
noncomputable abbrev rowZ (es : List (List Nat × V)) (ks : List (Option PySem.Expr)) (vs : List PySem.Expr) : List RowZ := es.zip ((ks.map fun k => k.getD default).zip vs)
noncomputable abbrev keyZ (z : RowZ) : PySem.Expr := .Constant (.str ⟨z.1.1.toArray⟩) (numOf z.2.1) z.2.1.pos
noncomputable abbrev valZ (z : RowZ) : PySem.Expr := .Name (idOf z.2.2) z.2.2.pos
noncomputable abbrev refZ (z : RowZ) : Nat := (asR z.1.2).getD 0
noncomputable abbrev parZ (z : RowZ) : Str × Value := (⟨z.1.1.toArray⟩, .ref (refZ z))
noncomputable abbrev okZ (κ : Str → Nat) (z : RowZ) : Bool := z.1.2 == .ref (refZ z) && (κ (idOf z.2.2) == 3 && (gOf (idOf z.2.2) == some z.1.2 && !(idOf z.2.2 == ("__debug__" : Str))))
noncomputable abbrev trZ (env : PySem.Env) (pos : Pos) (z : RowZ) : Sem Value × Sem Value := (eval (keyZ z) env, do let x ← eval (valZ z) env; standAt pos; pure x)
theorem zipZ {env : PySem.Env} {pos : Pos} : ∀ Z : List RowZ, (evalEachOpt (Z.map fun z => some (keyZ z)) env).zip ((evalEach (Z.map valZ) env).map fun v => do let x ← v; standAt pos; pure x) = (Z.map (trZ env pos)).map item
  | [] => rfl
  | z :: Z => congrArg (item (trZ env pos z) :: ·) (zipZ Z)
theorem row_rel {h : Heap} {μ : Mu} {κ : Str → Nat} : ∀ Z : List RowZ, Z.all (okZ κ) = true → DRel h μ (Z.map (·.1)) (valueAt (Z.map parZ))
  | [], _, _ => rfl
  | z :: Z, hz, k => by
    by_cases c : z.1.1 = k.cps.toList
    · have e1 : inDict k.cps.toList ((z :: Z).map (·.1)) = some z.1.2 := if_pos c
      have e2 : (z :: Z).map parZ = parZ z :: Z.map parZ := rfl
      rw [e1, e2]
      exact ⟨_, congrArg (Option.map Prod.snd) (List.find?_cons_of_pos (decide_eq_true (Str.ext' (congrArg List.toArray c)))), (beq_iff_eq.mp (andL (andL hz))).symm ▸ rfl⟩
    · have e1 : inDict k.cps.toList ((z :: Z).map (·.1)) = inDict k.cps.toList (Z.map (·.1)) := if_neg c
      have e2 : valueAt ((z :: Z).map parZ) k = valueAt (Z.map parZ) k := congrArg (Option.map Prod.snd) (List.find?_cons_of_neg fun q => c (congrArg (fun s : Str => s.cps.toList) (of_decide_eq_true q)))
      rw [e1, e2]
      exact row_rel Z (andR hz) k
section
variable {prog : Program} {w : World} {h₀ : Heap} {A : Around} {E : Value → Shared → Prop}
theorem row_yields {env : PySem.Env} {pos : Pos} {z : RowZ} (GO : GlobOK h₀) (hk : env.scope.kind = .function) (hg : env.globals = mainGlobals) (hb : env.builtins = builtinsNs) (h : okZ (kap env.scope) z = true) : Yields (model prog w) A E h₀ (trZ env pos z) (parZ z) := by
  obtain ⟨mg, mb, g1, g2, g3⟩ := GO
  obtain ⟨X, r, g4⟩ := g3 _ _ (beq_iff_eq.mp (andL (andR (andR h))))
  rw [beq_iff_eq.mp (andL h)] at r
  cases r
  refine ⟨fun s Q hq => wpAny_Constant_str (env := env) (k := numOf z.2.1) (pos := z.2.1.pos) (hq _), fun s Q hs hq => wpAny_bind (Name_function_global hk (kkE.2.2 (beq_iff_eq.mp (andL (andR h)))) ?_ (notF (andR (andR (andR h)))))⟩
  have g1' : s.heap.Ns env.globals mg := hg ▸ g1.keeps hs
  exact g4.elim (fun g4 => loadGlobal_global g1' g4 (wpAny_bind (wpAny_standAt (wpAny_pure hq)))) fun g4 => loadGlobal_builtin g1' g4.1 (hb ▸ g2.keeps hs) g4.2 (wpAny_bind (wpAny_standAt (wpAny_pure hq)))
end
theorem cut_list {α : Type} {l : List α} (h : 16 < l.length) : ∃ as x bs, l = as ++ x :: bs ∧ as.length = 16 ∧ bs.length + 17 = l.length :=
  ⟨l.take 16, l[16], l.drop 17, (List.drop_eq_getElem_cons h ▸ (List.take_append_drop 16 l).symm), (List.length_take ..).trans (Nat.min_eq_left (Nat.le_of_lt h)), (congrArg (· + 17) List.length_drop).trans (Nat.sub_add_cancel h)⟩
noncomputable def RowIs (sc : Scope) (es : List (List Nat × V)) (ks : List (Option PySem.Expr)) (vs : List PySem.Expr) : Prop :=
  ∃ Z : List RowZ, ks = Z.map (fun z => some (keyZ z)) ∧ vs = Z.map valZ ∧ Z.all (okZ (kap sc)) = true ∧ Z.map (·.1) = es
theorem RowIs.mk {sc : Scope} {es : List (List Nat × V)} {ks : List (Option PySem.Expr)} {vs : List PySem.Expr} (h1 : ks = (rowZ es ks vs).map fun z => some (keyZ z)) (h2 : vs = (rowZ es ks vs).map valZ) (h3 : (rowZ es ks vs).all (okZ (kap sc)) = true) (h4 : (rowZ es ks vs).map (·.1) = es) : RowIs sc es ks vs := ⟨_, h1, h2, h3, h4⟩
theorem row_words_ok {Γ : Gam} {fd : FuncData} {keys : List (Option PySem.Expr)} {values : List PySem.Expr} {dp rp : Pos} {es : List (List Nat × V)} (hlim : Γ.h₀.NoLimit) (GO : GlobOK Γ.h₀) (hsys : ∃ o, Γ.h₀.get? sysModules = some o)
    (hf : FnHas Γ.h₀ 375 [] [] fd [.Return (some (.Dict keys values dp)) rp]) (hc : RowIs fd.scope es keys values) (hl0 : 17 < es.length) (hl1 : es.length ≤ 33) (hn : (es.map fun e => (⟨e.1.toArray⟩ : Str)).Nodup) (n : Nat) (H : MH) :
    CallOK Γ (n + 1) 375 [] H (some (.loc H.length, H ++ [.dict es])) := by
  show CallOK Γ (n + 1) 375 [] H ((Mine.bindArgs ⟨[], [], []⟩ []).bind fun _ => some (.loc H.length, H ++ [.dict es]))
  refine call_gen (mf := ⟨[], [], []⟩) hf hlim fun ρ hρ A env S Q E room hsc _ _ F h => ?_
  obtain ⟨Z, rfl, rfl, c3, rfl⟩ := hc
  rw [← hsc] at c3
  have ll : (Z.map (·.1)).length = Z.length := List.length_map _
  obtain ⟨as, x, bs, e1, e2, e3⟩ := cut_list (l := Z) (ll ▸ Nat.le_of_lt hl0)
  refine wpAny_execs_cons (wpAny_Return_some (Dict_long (zipZ Z) as bs x e1 e2 (Nat.lt_of_add_lt_add_right (e3.symm ▸ ll ▸ hl0 : 0 + 17 < bs.length + 17)) (Nat.le_of_add_le_add_right (e3.symm ▸ ll ▸ hl1 : bs.length + 17 ≤ 16 + 17)) (fun z m => row_yields GO F.kind F.globals F.blt (List.all_eq_true.mp c3 z m)) S.hr.base hsys ?_ fun h' tk d D k1 hd => ?_))
  · rw [List.map_map] at hn ⊢; exact hn
  have ho : ORel Γ h' (S.μ ++ [[d]]) (.dict (Z.map (·.1))) [d] := ⟨d, _, rfl, D.mapOf, row_rel Z c3⟩
  exact h (S.put { S.s with heap := h', toks := tk } [d] k1 (List.nodup_cons.mpr ⟨nofun, List.nodup_nil⟩) (fun a ha => by rw [List.mem_singleton.mp ha]; exact hd) ho) _ _ S.to_put ⟨d, [], S.put_loc, rfl⟩ (.inl rfl)
end Mine
set_option maxRecDepth 100000
set_option autoImplicit false
namespace Mine
open PySem PySem.W PyProof.Rows PySem.Calls PySem.SeqAt
noncomputable def tokOf : Value → Tok
  | .int _ t => t
  | .str _ t => t
  | _ => 0
noncomputable def adrOf : Value → Option Addr
  | .ref a => some a
  | _ => none
noncomputable def fnD : Data → Option FuncData
  | .func fd => some fd
  | _ => none
noncomputable def sqD : Data → Option (Array Value)
  | .seq xs _ => some xs
  | .fields xs => some xs
  | _ => none
noncomputable def isSq : Data → Bool
  | .seq _ _ => true
  | _ => false
noncomputable def stB : FuncBody → List Stmt
  | .stmts b => b
  | _ => []
noncomputable def isSt : FuncBody → Bool
  | .stmts _ => true
  | _ => false
theorem adr_some {v : Value} {a : Addr} (h : adrOf v = some a) : v = .ref a := by
  cases v with
  | ref b => exact congrArg Value.ref (Option.some.inj h)
  | _ => exact nsm h
theorem fnD_some {d : Data} {fd : FuncData} (h : fnD d = some fd) : d = .func fd := by
  cases d with
  | func b => exact congrArg Data.func (Option.some.inj h)
  | _ => exact nsm h
theorem sqD_some {d : Data} {xs : Array Value} (h : sqD d = some xs) : (isSq d = true → ∃ n, d = .seq xs n) ∧ (isSq d = false → d = .fields xs) := by
  cases d with
  | seq ys n => exact ⟨fun _ => ⟨n, by rw [Option.some.inj h]⟩, fun e => ff e.symm⟩
  | fields ys => exact ⟨fun e => ff e, fun _ => congrArg Data.fields (Option.some.inj h)⟩
  | _ => exact nsm h
theorem isSt_eq {b : FuncBody} (h : isSt b = true) : b = .stmts (stB b) := by
  cases b with
  | stmts b => rfl
  | expr _ => exact ff h
section
variable (K : Frag)
noncomputable def sqAt (v : Value) : Option (Array Value × Obj) := (adrOf v).bind fun a => (K.lookup a).bind fun o => (sqD o.data).map (·, o)
theorem sqAt_some {K : Frag} {h : Heap} (X : K.In h) {v : Value} {p : Array Value × Obj} (e : sqAt K v = some p) : ∃ a, v = .ref a ∧ h.get? a = some p.2 ∧ sqD p.2.data = some p.1 := by
  obtain ⟨a, h1, e⟩ := bn_some e
  obtain ⟨o, h2, e⟩ := bn_some e
  obtain ⟨xs, h3, e⟩ := Option.map_eq_some_iff.mp e
  rw [← e]
  exact ⟨a, adr_some h1, X _ _ h2, h3⟩
noncomputable def isTy (o : Obj) (T : String) : Bool := o.cls == .type T && isSq o.data
mutual
noncomputable def chkV : V → Value → Bool
  | .none, x => x == .none
  | .bool b, x => x == .bool b
  | .int i, x => x == .int i (tokOf x)
  | .str s, x => decide (s.length ≤ 100) && (x == .str ⟨s.toArray⟩ (tokOf x))
  | .ref a, x => x == .ref a
  | .bi b, x => x == biVal b
  | .tup vs, x => match sqAt K x with
    | some p => isTy p.2 "tuple" && chkVs vs p.1.toList
    | none => false
  | .loc _, _ => false
  | .rng _, _ => false
noncomputable def chkVs : List V → List Value → Bool
  | [], xs => xs.isEmpty
  | v :: vs, xs => match xs with
    | y :: ys => chkV v y && chkVs vs ys
    | [] => false
end
variable {K}
theorem sq_isTy {o : Obj} {T : String} {xs : Array Value} (h : isTy o T = true) (e : sqD o.data = some xs) : o.cls = .type T ∧ ∃ n, o.data = .seq xs n := ⟨beq_iff_eq.mp (andL h), (sqD_some e).1 (andR h)⟩
mutual
theorem chkV_ok {h : Heap} (X : K.In h) : ∀ {v : V} {x : Value}, chkV K v x = true → VR h [] v x
  | .none, _, e => beq_iff_eq.mp e
  | .bool _, _, e => beq_iff_eq.mp e
  | .int _, _, e => ⟨_, beq_iff_eq.mp e⟩
  | .str _, _, e => ⟨Nat.le_trans (of_decide_eq_true (andL e)) (by decide), _, beq_iff_eq.mp (andR e)⟩
  | .ref _, _, e => beq_iff_eq.mp e
  | .bi _, _, e => beq_iff_eq.mp e
  | .tup vs, x, e => by
    have e : (match sqAt K x with | some p => isTy p.2 "tuple" && chkVs K vs p.1.toList | none => false) = true := e
    cases hs : sqAt K x with
    | none => rw [hs] at e; exact ff e
    | some p =>
      rw [hs] at e
      obtain ⟨a, h1, h2, h3⟩ := sqAt_some X hs
      have h4 := sq_isTy (andL e) h3
      exact ⟨a, p.1.toList, h1, ⟨p.2, h2, h4.1, h4.2⟩, chkVs_ok X (andR e)⟩
  | .loc _, _, e => ff e
  | .rng _, _, e => ff e
theorem chkVs_ok {h : Heap} (X : K.In h) : ∀ {v : List V} {x : List Value}, chkVs K v x = true → VRs h [] v x
  | [], _, e => List.isEmpty_iff.mp e
  | v :: vs, xs, e => by cases xs with
    | nil => exact ff e
    | cons y ys =>
      have e : (chkV K v y && chkVs K vs ys) = true := e
      exact ⟨y, ys, rfl, chkV_ok X (andL e), chkVs_ok X (andR e)⟩
end
variable (K)
noncomputable def fnOpt (f : Nat) : Option FuncData := (K.lookup f).bind fun o => fnD o.data
noncomputable def fdAt (f : Nat) : FuncData := (fnOpt K f).getD default
noncomputable def bdAt (f : Nat) : List Stmt := stB (fdAt K f).body
noncomputable def chkCode (cd : Value) (q : Str) : Bool := match sqAt K cd with
  | some p => !isSq p.2.data && ((p.1[1]?).getD default == .str q (tokOf ((p.1[1]?).getD default)) && decide (1 < p.1.size))
  | none => false
noncomputable def chkDfl (dV : Value) (dfl : List V) : Bool := match sqAt K dV with
  | some p => isSq p.2.data && chkVs K dfl p.1.toList
  | none => dV == .none && dfl.isEmpty
noncomputable def chkPar (p : Arguments) (ps : List Nat) : Bool := p.posonlyargs.isEmpty && (p.vararg.isNone && (p.kwonlyargs.isEmpty && (p.kwarg.isNone && (p.args.map (·.arg) == ps.map nm))))
noncomputable def chkHas (f : Nat) (ps : List Nat) (dfl : List V) : Bool := (fnOpt K f).isSome && (isSt (fdAt K f).body && (!(fdAt K f).scope.isCoroutine && (!(fdAt K f).scope.isGenerator && (((fdAt K f).scope.kind == .function) && (chkCode K (fdAt K f).code (fdAt K f).qualname && ((fdAt K f).closure.isEmpty &&
  (((fdAt K f).globals == mainGlobals) && (((fdAt K f).builtins == builtinsNs) && (chkPar (fdAt K f).params ps && (chkDfl K (fdAt K f).defaults dfl && (decide (dfl.length ≤ ps.length) && (noDupN ps &&
  ((ps.all fun x => ((fdAt K f).scope.names.lookup (nm x) == some .local) || ((fdAt K f).scope.names.lookup (nm x) == some .cell)) && (noDupN ((fdAt K f).scope.names.map (·.1)) && ((fdAt K f).scope.names.all fun y => !(y.2 == .free))))))))))))))))
variable {K}
theorem none_of {α : Type} {o : Option α} (h : o.isNone = true) : o = none := by cases o with
  | none => rfl
  | some _ => exact ff h
theorem par_ok {p : Arguments} {ps : List Nat} (h : chkPar p ps = true) : ∃ as kd dd, p = ⟨[], as, none, [], kd, none, dd⟩ ∧ as.map (·.arg) = ps.map nm := by
  have h1 := andR h
  have h2 := andR h1
  have h3 := andR h2
  obtain ⟨a, b, c, d, e, f, g⟩ := p
  refine ⟨b, e, g, ?_, beq_iff_eq.mp (andR h3)⟩
  rw [show a = [] from List.isEmpty_iff.mp (andL h), show c = none from none_of (andL h1), show d = [] from List.isEmpty_iff.mp (andL h2), show f = none from none_of (andL h3)]
theorem code_ok {h : Heap} (X : K.In h) {cd : Value} {q : Str} (e : chkCode K cd q = true) : h.CodeRec cd q := by
  unfold chkCode at e
  cases hs : sqAt K cd with
  | none => rw [hs] at e; exact ff e
  | some p =>
    rw [hs] at e
    obtain ⟨a, h1, h2, h3⟩ := sqAt_some X hs
    have e1 := andR e
    have hl := of_decide_eq_true (andR e1)
    have e2 := beq_iff_eq.mp (andL e1)
    rw [Array.getElem?_eq_getElem hl] at e2
    exact ⟨a, p.2, p.1, _, h1, h2, (sqD_some h3).2 (notF (andL e)), (Array.getElem?_eq_getElem hl).trans (congrArg some e2)⟩
theorem dfl_ok {h : Heap} (X : K.In h) {dV : Value} {dfl : List V} (e : chkDfl K dV dfl = true) : ∃ ds, DefaultsAre h dV ds ∧ VRs h [] dfl ds := by
  unfold chkDfl at e
  cases hs : sqAt K dV with
  | none =>
    rw [hs] at e
    exact ⟨[], .inl ⟨beq_iff_eq.mp (andL e), rfl⟩, by rw [List.isEmpty_iff.mp (andR e)]; exact rfl⟩
  | some p =>
    rw [hs] at e
    obtain ⟨a, h1, h2, h3⟩ := sqAt_some X hs
    obtain ⟨n, h4⟩ := (sqD_some h3).1 (andL e)
    exact ⟨p.1.toList, .inr ⟨a, p.2, n, h1, h2, h4⟩, chkVs_ok X (andR e)⟩
theorem has_ok {h : Heap} (X : K.In h) {f : Nat} {ps : List Nat} {dfl : List V} (e : chkHas K f ps dfl = true) : FnHas h f ps dfl (fdAt K f) (bdAt K f) := by
  have e1 := andR e
  have e2 := andR e1
  have e3 := andR e2
  have e4 := andR e3
  have e5 := andR e4
  have e6 := andR e5
  have e7 := andR e6
  have e8 := andR e7
  have e9 := andR e8
  have e10 := andR e9
  have e11 := andR e10
  have e12 := andR e11
  have e13 := andR e12
  have e14 := andR e13
  refine ⟨?_, notF (andL e2), notF (andL e3), beq_iff_eq.mp (andL e4), isSt_eq (andL e1), code_ok X (andL e5), List.isEmpty_iff.mp (andL e6), beq_iff_eq.mp (andL e7), beq_iff_eq.mp (andL e8), par_ok (andL e9), dfl_ok X (andL e10), of_decide_eq_true (andL e11), noDupN_ok (andL e12),
    fun p hp => (Bool.or_eq_true_iff.mp (List.all_eq_true.mp (andL e13) p hp)).imp beq_iff_eq.mp beq_iff_eq.mp, noDupN_ok (andL e14), fun y hy => ne_of (List.all_eq_true.mp (andR e14) y hy)⟩
  obtain ⟨fd, hfd⟩ := Option.isSome_iff_exists.mp (andL e)
  obtain ⟨o, h1, h2⟩ := bn_some hfd
  refine ⟨o, X _ _ h1, ?_⟩
  unfold fdAt
  rw [hfd]
  exact fnD_some h2
end
end Mine
set_option maxRecDepth 100000
set_option autoImplicit false
namespace Mine
open PySem PySem.W PyProof.Rows PySem.Calls PySem.SeqAt
section
variable (K : Frag)
noncomputable def chkG (v : V) (n : Str) : Bool := match nsIn K mainGlobals n with
  | some o => (match o with
    | some X => chkV K v X
    | none => (match asF v with
      | some b => !(n == "__name__") && (bootBuiltins n == some (biVal b))
      | none => false))
  | none => false
noncomputable def chkGlob : Bool := gTab.all fun p => chkG K p.2 (nm p.1)
noncomputable def chkD : List DictEntry → List (List Nat × V) → Bool
  | [], ps => ps.isEmpty
  | e :: es, ps => match ps with
    | p :: ps => (e.key == .str ⟨p.1.toArray⟩ (tokOf e.key)) && (chkV K p.2 e.val && chkD es ps)
    | [] => false
noncomputable def dcD : Data → Option (Array DictEntry)
  | .dict es _ => some es
  | _ => none
noncomputable def dcAt (a : Addr) : Option (Array DictEntry × Obj) := (K.lookup a).bind fun o => (dcD o.data).map (·, o)
noncomputable def chkDict (a : Addr) (ps : List (List Nat × V)) : Bool := match dcAt K a with
  | some p => (p.2.cls == .type "dict") && (p.2.dict.isNone && (p.2.slots.toList.isEmpty && chkD K p.1.toList ps))
  | none => false
noncomputable def chkList (a : Addr) (vs : List V) : Bool := match sqAt K (.ref a) with
  | some p => isTy p.2 "list" && (chkVs K vs p.1.toList && decide (vs.length ≤ 100))
  | none => false
noncomputable def chkAttr (c a : Nat) : Bool := plainGet K c (nm a) && (hasDictIn K c && ((match findIn K (.ref c) (nm a) with | some at_ => noGet K at_ | none => false) && ((findIn K (.ref c) "__setattr__" == some (some (.builtin "object.__setattr__"))) && (plainOver K c && (takerIn K c (nm a) == some none)))))
noncomputable def chkMeth (c m f : Nat) : Bool := plainGet K c (nm m) && ((findIn K (.ref c) (nm m) == some (some (.ref f))) && isFn K (.ref f))
noncomputable def chkCls (c i : Nat) : Bool := makesIn K c && ((findIn K (.ref c) "__init__" == some (some (.ref i))) && (isFn K (.ref i) && keepIn K (.ref c)))
variable {K}
theorem glob_ok {h : Heap} {mg mb : Str → Option Value} (X : K.In h) (g : h.Ns mainGlobals mg) (b : h.Ns builtinsNs mb) (hb : ∀ x : Str, x ≠ "__name__" → mb x = bootBuiltins x) (e : chkGlob K = true) : GlobOK h := by
  refine ⟨mg, mb, g, b, fun x v hx => ?_⟩
  unfold gOf at hx
  cases hok : okName x with
  | false => rw [hok] at hx; exact nsm hx
  | true =>
    rw [hok] at hx
    have := List.all_eq_true.mp e _ (look_mem hx)
    have this : chkG K v (nm (codeOf x)) = true := this
    rw [nm_code hok] at this
    unfold chkG at this
    cases hn : nsIn K mainGlobals x with
    | none => rw [hn] at this; exact ff this
    | some o =>
      rw [hn] at this
      cases o with
      | some Y => exact ⟨Y, chkV_ok X this, .inl (mg_of X g hn)⟩
      | none =>
        have this : (match asF v with | some b => !(x == "__name__") && (bootBuiltins x == some (biVal b)) | none => false) = true := this
        cases hf : asF v with
        | none => rw [hf] at this; exact ff this
        | some bi =>
          rw [hf] at this
          rw [asF_some hf]
          exact ⟨biVal bi, rfl, .inr ⟨mg_none_of X g hn, (hb x (ne_of (andL this))).trans (beq_iff_eq.mp (andR this))⟩⟩
theorem chkD_ok {h : Heap} (X : K.In h) : ∀ {es : List DictEntry} {ps : List (List Nat × V)}, chkD K es ps = true → DRel h [] ps fun k => (es.find? fun e => Value.isStrOf k e.key).map (·.val)
  | [], ps, e, k => by rw [List.isEmpty_iff.mp e]; exact rfl
  | e :: es, ps, hc, k => by
    cases ps with
    | nil => exact ff hc
    | cons p ps =>
      have hc : ((e.key == .str ⟨p.1.toArray⟩ (tokOf e.key)) && (chkV K p.2 e.val && chkD K es ps)) = true := hc
      have ih := chkD_ok X (andR (andR hc)) k
      have hk : Value.isStrOf k e.key = decide (p.1 = k.cps.toList) := by
        rw [beq_iff_eq.mp (andL hc), ← isStr_of]
        exact dec_of (beq_iff_eq.trans ⟨fun q => q ▸ rfl, fun q => by rw [q]⟩)
      show match (if p.1 = k.cps.toList then some p.2 else inDict k.cps.toList ps) with
        | some v => ∃ x, ((e :: es).find? fun e => Value.isStrOf k e.key).map (·.val) = some x ∧ VR h [] v x
        | none => ((e :: es).find? fun e => Value.isStrOf k e.key).map (·.val) = none
      rw [List.find?_cons, hk]
      by_cases hp : p.1 = k.cps.toList
      · rw [if_pos hp, decide_eq_true hp]
        exact ⟨e.val, rfl, chkV_ok X (andL (andR hc))⟩
      · rw [if_neg hp, decide_eq_false hp]
        exact ih
noncomputable def keysOf (K : Frag) (a : Addr) : List DictEntry := match dcAt K a with
  | some p => p.1.toList
  | none => []
theorem obj_is {o : Obj} {ds : Array DictEntry} (h1 : o.cls = .type "dict") (h2 : o.dict = none) (h3 : o.slots.toList = []) (h4 : dcD o.data = some ds) : ∃ n, o = { cls := .type "dict", data := .dict ds n } := by
  obtain ⟨oc, od, oa, os⟩ := o
  cases oa with
  | dict es n => exact ⟨n, by rw [show oc = _ from h1, show od = _ from h2, show es = ds from Option.some.inj h4, show os = #[] from by rw [← Array.toArray_toList (xs := os)]; exact congrArg _ h3]⟩
  | _ => exact nsm h4
theorem dict_ok {prog : Program} {w : World} {h : Heap} (X : K.In h) {a : Addr} {ps : List (List Nat × V)} (e : chkDict K a ps = true) (hk : KeysLit w.params (keysOf K a)) : ∃ f, h.MapOf (PySem.strKind prog w) a f ∧ DRel h [] ps f := by
  unfold chkDict at e
  unfold keysOf at hk
  cases hd : dcAt K a with
  | none => rw [hd] at e; exact ff e
  | some p =>
    rw [hd] at e hk
    obtain ⟨o, h1, e0⟩ := bn_some hd
    obtain ⟨ds, h2, h3⟩ := Option.map_eq_some_iff.mp e0
    rw [← h3] at e hk
    have e1 := andR e
    have e2 := andR e1
    obtain ⟨n, g⟩ := obj_is (o := o) (beq_iff_eq.mp (andL e)) (none_of (andL e1)) (List.isEmpty_iff.mp (andL e2)) h2
    rw [g] at h1
    refine ⟨_, mapOf_K X h1 hk, fun k => ?_⟩
    have := chkD_ok X (andR e2) k
    unfold findBy
    rw [← Array.find?_toList]
    exact this
end
end Mine
set_option maxRecDepth 100000
set_option autoImplicit false
namespace Mine
open PySem PySem.W PyProof.Rows PySem.Calls PySem.SeqAt
structure KOK (K : Frag) : Prop where
  fns : (fnTab.all fun p => chkHas K p.1 p.2.params p.2.dflts && (okSs p.2.body (bdAt K p.1) (fdAt K p.1).scope && keepIn K (.ref p.1))) = true
  trees : fnTab.map (fun p => emSs p.2.body (bdAt K p.1)) = fnTab.map (fun p => bdAt K p.1)
  cls : (clsTab.all fun p => chkCls K p.1 p.2) = true
  row : (chkHas K 375 [] [] && keepIn K (.ref 375)) = true
  disp : ∃ ks vs dp rp, bdAt K 375 = [.Return (some (.Dict ks vs dp)) rp] ∧ RowIs (fdAt K 375).scope rowTab ks vs
  lists : (listTab.all fun p => chkList K p.1 p.2) = true
  dicts : (dictTab.all fun p => chkDict K p.1 p.2 && !(p.1 == sysModules)) = true
  attr : (attrTab.all fun p => p.2.all fun a => chkAttr K p.1 a) = true
  meth : (methTab.all fun p => chkMeth K p.1.1 p.1.2 p.2) = true
  glob : chkGlob K = true
  sys : (K.lookup sysModules).isSome = true
theorem look2_mem : ∀ {l : List ((Nat × Nat) × Nat)} {a b c : Nat}, look2 l a b = some c → ((a, b), c) ∈ l
  | [], _, _, _, h => nsm h
  | p :: r, a, b, c, h => by
    have h : (if p.1.1 = a then (if p.1.2 = b then some p.2 else look2 r a b) else look2 r a b) = some c := h
    by_cases h1 : p.1.1 = a
    · rw [if_pos h1] at h
      by_cases h2 : p.1.2 = b
      · rw [if_pos h2] at h; rw [← h1, ← h2, ← Option.some.inj h]; exact .head _
      · rw [if_neg h2] at h; exact .tail _ (look2_mem h)
    · rw [if_neg h1] at h; exact .tail _ (look2_mem h)
section
variable {Γ : Gam}
theorem row_ok (k : KOK Γ.K) (X : Γ.K.In Γ.h₀) (lim : Γ.h₀.NoLimit) (glob : GlobOK Γ.h₀) (n : Nat) (H : MH) : CallOK Γ (n + 1) 375 [] H (some (.loc H.length, H ++ [.dict rowTab])) := by
  obtain ⟨ks, vs, dp, rp, h1, h2⟩ := k.disp
  exact row_words_ok lim glob ((Option.isSome_iff_exists.mp k.sys).imp fun o e => X _ _ e) (h1 ▸ has_ok X (andL k.row)) h2 (by decide) (by decide) (by decide +kernel) n H
theorem prg_ok (k : KOK Γ.K) (hd : ∀ a ps, look dictTab a = some ps → KeysLit Γ.w.params (keysOf Γ.K a)) (X : Γ.K.In Γ.h₀) (lim : Γ.h₀.NoLimit) (glob : GlobOK Γ.h₀) {L : Nat} {sc : List V} (hsc : sc.length ≤ top) {xs : List Value} (hl : Γ.h₀.IsList L xs.toArray) (hx : VRs Γ.h₀ [] sc xs)
    {ora : Nat → Nat → List V → MH → R V} (ho : ∀ n f args H, (CSound Γ n ((prg L sc ora).ctx n) → CallOK Γ (n + 1) f args H (ora n f args H)) ∧ ∀ p, ora n f args H = some p → KeepOK Γ f) : PrgOK Γ (prg L sc ora) where
  lim := lim
  glob := glob
  tabs := {
    X := X
    sys := (Option.isSome_iff_exists.mp k.sys).imp fun o e => X _ _ e
    clist := fun a vs e => by
      have e : (match look listTab a with | some l => some l | none => if a = L then some sc else none) = some vs := e
      cases hlk : look listTab a with
      | some l =>
        rw [hlk] at e
        rw [← Option.some.inj e]
        have := List.all_eq_true.mp k.lists _ (look_mem hlk)
        unfold chkList at this
        cases hs : sqAt Γ.K (.ref a) with
        | none => rw [hs] at this; exact ff this
        | some p =>
          rw [hs] at this
          obtain ⟨b, h1, h2, h3⟩ := sqAt_some X hs
          have h4 := sq_isTy (andL this) h3
          have h5 := andR this
          rw [Value.ref.inj h1]
          exact ⟨Nat.le_trans (of_decide_eq_true (andR h5)) (by decide), p.1.toList, ⟨p.2, h2, h4⟩, chkVs_ok X (andL h5)⟩
      | none =>
        rw [hlk] at e
        by_cases ha : a = L
        · have e := (if_pos ha).symm.trans e
          rw [ha, ← Option.some.inj e]; exact ⟨hsc, xs, hl, hx⟩
        · exact nsm ((if_neg ha).symm.trans e)
    cdict := fun d es e => by
      have := List.all_eq_true.mp k.dicts _ (look_mem e)
      exact ⟨notF (andR this), dict_ok X (andL this) (hd d es e)⟩
    attr := fun c a e => by
      have e : (match look attrTab c with | some l => l.contains a | none => false) = true := e
      cases hlk : look attrTab c with
      | none => rw [hlk] at e; exact ff e
      | some l =>
        rw [hlk] at e
        have := List.all_eq_true.mp (List.all_eq_true.mp k.attr _ (look_mem hlk)) a (List.contains_iff_mem.mp e)
        have h1 := andR this
        have h2 := andR h1
        have h3 := andR h2
        have h4 := andR h3
        refine ⟨andL this, andL h1, ?_, beq_iff_eq.mp (andL h3), andL h4, beq_iff_eq.mp (andR h4)⟩
        have h2 := andL h2
        cases hf : findIn Γ.K (.ref c) (nm a) with
        | none => rw [hf] at h2; exact ff h2
        | some at_ => rw [hf] at h2; exact ⟨at_, rfl, h2⟩
    meth := fun c m f e => by
      have := List.all_eq_true.mp k.meth _ (look2_mem e)
      exact ⟨andL this, beq_iff_eq.mp (andL (andR this)), andR (andR this)⟩ }
  fns := fun f mf e => by
    have m := look_mem e
    have := List.all_eq_true.mp k.fns _ m
    exact ⟨⟨_, _, has_ok X (andL this), List.map_inj_left.mp k.trees _ m, andL (andR this)⟩, andR (andR this)⟩
  cls := fun c i e => by
    have := List.all_eq_true.mp k.cls _ (look_mem e)
    have h1 := andR this
    exact ⟨andL this, beq_iff_eq.mp (andL h1), andL (andR h1), andR (andR h1)⟩
  nat := fun f o e => by
    have e : (if f = 375 then some (O.dict rowTab) else none) = some o := e
    by_cases hf : f = 375
    · have e := (if_pos hf).symm.trans e
      rw [hf, ← Option.some.inj e]; exact ⟨fun n H => row_ok k X lim glob n H, andR k.row⟩
    · exact nsm ((if_neg hf).symm.trans e)
  ora := ho
end
end Mine
set_option maxRecDepth 100000
set_option autoImplicit false
namespace Mine
open PySem PySem.W PyProof.Rows PySem.Calls PySem.SeqAt
theorem kf_fns (P : Params) : (fnTab.all fun p => chkHas (Kf P) p.1 p.2.params p.2.dflts && (okSs p.2.body (bdAt (Kf P) p.1) (fdAt (Kf P) p.1).scope && keepIn (Kf P) (.ref p.1))) = true := by kernel_rfl
theorem kf_trees (P : Params) : fnTab.map (fun p => emSs p.2.body (bdAt (Kf P) p.1)) = fnTab.map (fun p => bdAt (Kf P) p.1) := by kernel_rfl
theorem kf_cls (P : Params) : (clsTab.all fun p => chkCls (Kf P) p.1 p.2) = true := by kernel_rfl
theorem kf_row (P : Params) : (chkHas (Kf P) 375 [] [] && keepIn (Kf P) (.ref 375)) = true := by kernel_rfl
theorem kf_lists (P : Params) : (listTab.all fun p => chkList (Kf P) p.1 p.2) = true := by kernel_rfl
theorem kf_dicts (P : Params) : (dictTab.all fun p => chkDict (Kf P) p.1 p.2 && !(p.1 == sysModules)) = true := by kernel_rfl
theorem kf_attr (P : Params) : (attrTab.all fun p => p.2.all fun a => chkAttr (Kf P) p.1 a) = true := by kernel_rfl
theorem kf_meth (P : Params) : (methTab.all fun p => chkMeth (Kf P) p.1.1 p.1.2 p.2) = true := by kernel_rfl
theorem kf_glob (P : Params) : chkGlob (Kf P) = true := by kernel_rfl
theorem kf_sys (P : Params) : ((Kf P).lookup sysModules).isSome = true := by kernel_rfl
theorem kf_disp (P : Params) : ∃ ks vs dp rp, bdAt (Kf P) 375 = [.Return (some (.Dict ks vs dp)) rp] ∧ RowIs (fdAt (Kf P) 375).scope rowTab ks vs := ⟨_, _, _, _, rfl, .mk (by kernel_rfl) (by kernel_rfl) (by kernel_rfl) (by kernel_rfl)⟩
theorem kf_ok (P : Params) : KOK (Kf P) := ⟨kf_fns P, kf_trees P, kf_cls P, kf_row P, kf_disp P, kf_lists P, kf_dicts P, kf_attr P, kf_meth P, kf_glob P, kf_sys P⟩
noncomputable def defOf : Stmt → Arguments × List Stmt × Scope × Pos
  | .FunctionDef _ p b _ _ _ sc _ _ pos => (p, b, sc, pos)
  | _ => default
noncomputable def annNone (p : Arguments) : Bool := (p.args.all fun a => a.annotation.isNone) && p.defaults.isEmpty && p.kw_defaults.isEmpty
noncomputable abbrev st973 (P : Params) : Stmt := (bdAt (Kf P) 973).headD default
noncomputable abbrev def973 (P : Params) : Arguments × List Stmt × Scope × Pos := defOf (st973 P)
noncomputable abbrev ret973 (P : Params) : Stmt := (def973 P).2.1.headD default
theorem kf_has973 (P : Params) : chkHas (Kf P) 973 f973.params f973.dflts = true := by kernel_rfl
theorem kf_bd973 (P : Params) : bdAt (Kf P) 973 = .FunctionDef nSame (def973 P).1 [.Return (some (em mSame ((prS (ret973 P)).2.1.getD default))) (ret973 P).pos] [] none [] (def973 P).2.2.1 none nSame (def973 P).2.2.2 :: emSs (f973.body.drop 1) (bdAt (Kf P) 973).tail := by kernel_rfl
theorem kf_ok973 (P : Params) : ((fdAt (Kf P) 973).code == .ref 972 && (((fdAt (Kf P) 973).scope.names.lookup nSame == some .local) && (((fdAt (Kf P) 973).scope.names.lookup (nm ice) == some .cell) && (okSs (f973.body.drop 1) (bdAt (Kf P) 973).tail (fdAt (Kf P) 973).scope &&
  (((def973 P).2.2.1.kind == .function) && (((def973 P).2.2.1.names == [(nm gnm, .local), (nm ice, .free)]) && (!(def973 P).2.2.1.isCoroutine && (!(def973 P).2.2.1.isGenerator && okE mSame ((prS (ret973 P)).2.1.getD default) (kap (def973 P).2.2.1))))))))) = true := by kernel_rfl
theorem kf_par973 (P : Params) : ∃ as kd, (def973 P).1 = ⟨[], as, none, [], kd, none, []⟩ ∧ as.map (·.arg) = [nm gnm] ∧ kd = [] ∧ ∀ env, annTrees (def973 P).1 none env = [] := ⟨_, _, rfl, by kernel_rfl, rfl, fun _ => rfl⟩
theorem kf_rep {P : Params} {h : Heap} (X : (Kf P).In h) : RepAt h (fdAt (Kf P) 973) (def973 P).1 (def973 P).2.2.1 ((prS (ret973 P)).2.1.getD default) (bdAt (Kf P) 973).tail (def973 P).2.2.2 (ret973 P).pos := by
  have e := kf_ok973 P
  have e1 := andR e
  have e2 := andR e1
  have e3 := andR e2
  have e4 := andR e3
  have e5 := andR e4
  have e6 := andR e5
  have e7 := andR e6
  exact ⟨kf_bd973 P ▸ has_ok X (kf_has973 P), beq_iff_eq.mp (andL e), beq_iff_eq.mp (andL e1), beq_iff_eq.mp (andL e2), andL e3, kf_par973 P, beq_iff_eq.mp (andL e4), beq_iff_eq.mp (andL e5), notF (andL e6), notF (andL e7), andR e7⟩
theorem kf_983 {P : Params} {h : Heap} (X : (Kf P).In h) : FnRep h 983 f983 :=
  have e : (chkHas (Kf P) 983 f983.params f983.dflts && okSs f983.body (bdAt (Kf P) 983) (fdAt (Kf P) 983).scope) = true := by kernel_rfl
  have t : emSs f983.body (bdAt (Kf P) 983) = bdAt (Kf P) 983 := by kernel_rfl
  ⟨_, _, has_ok X (andL e), t, andR e⟩
theorem kf_keys (P : Params) (a : Nat) (ps : List (List Nat × V)) (h : look dictTab a = some ps) : KeysLit P (keysOf (Kf P) a) := by
  have h2 : a = 588 ∨ a = 730 := by
    have h : (if 588 = a then some _ else if 730 = a then some _ else none) = some ps := h
    by_cases h1 : 588 = a
    · exact .inl h1.symm
    · rw [if_neg h1] at h
      by_cases h2 : 730 = a
      · exact .inr h2.symm
      · rw [if_neg h2] at h; exact nsm h
  rcases h2 with rfl | rfl
  · exact ⟨⟨_, _, rfl, rfl⟩, ⟨_, _, rfl, rfl⟩, ⟨_, _, rfl, rfl⟩, ⟨_, _, rfl, rfl⟩, ⟨_, _, rfl, rfl⟩, ⟨_, _, rfl, rfl⟩, trivial⟩
  · exact ⟨⟨_, _, rfl, rfl⟩, ⟨_, _, rfl, rfl⟩, ⟨_, _, rfl, rfl⟩, trivial⟩
theorem kf_notabs (P : Params) : noTabs (Kf P) = true := by kernel_rfl
theorem kf_law (P : Params) : nsIn (Kf P) mainGlobals "law" = some (some (.ref 983)) := by kernel_rfl
end Mine
set_option maxRecDepth 100000
set_option autoImplicit false
namespace Mine
open PySem PySem.W PyProof.Rows PySem.Calls PySem.SeqAt
theorem kf_code (P : Params) : ∃ o vs file tf flags tg inF text tt, (Kf P).lookup 972 = some o ∧ o.cls = .type "code" ∧ o.data = .fields vs ∧ vs[11]? = some (.ref tabP) ∧ vs.getD 11 .none = .ref tabP ∧ vs.getD 18 .none = .str file tf ∧
    vs.getD 7 .none = .int flags tg ∧ vs.getD 9 .none = .bool inF ∧ vs.getD 10 .none = .int text tt ∧ (972 : Addr) ≠ tabP := ⟨_, _, _, _, _, _, _, _, _, rfl, rfl, rfl, rfl, rfl, rfl, rfl, rfl, rfl, by decide⟩
theorem kf_818 (P : Params) : ∃ o xs n, (Kf P).lookup 818 = some o ∧ o.data = .seq xs n ∧ xs.toList.head? = some (.ref 814) := ⟨_, _, _, rfl, rfl, rfl⟩
theorem kf_822 (P : Params) : ∃ o xs n, (Kf P).lookup 822 = some o ∧ o.data = .seq xs n ∧ xs.toList.head? = some (.ref 819) := ⟨_, _, _, rfl, rfl, rfl⟩
theorem kf_keep (P : Params) : keepIn (Kf P) (.ref 973) = true := by kernel_rfl
theorem kf_has (P : Params) : (Kf P).lookup tabP = none ∧ ((Kf P).lookup 983).isSome = true := by
  refine ⟨?_, ?_⟩ <;> kernel_rfl
noncomputable def OraAt (n f : Nat) (args : List V) (H : MH) : Prop := n = 44 ∧ f = 973 ∧ ∃ (t : List Nat) (p sp : Nat) (mt0 : List Nat → Nat → Option Nat) (rows : List V) (side : Option (Nat × List V)), args = [.str t, .loc p, .loc sp] ∧ Takes mt0 ∧ PatSpec rows 0 side (lift mt0) ∧ PatAt H p rows 0 side ∧ t.length < 100 ∧ (∀ c ∈ t, c < 1114112) ∧
    H[sp]? = some (.list (tups (sp0 mt0 t (t.length + 1) 0))) ∧ (sp0 mt0 t (t.length + 1) 0).length < 900 ∧ H[0]? = some (.tab false)
noncomputable def oraM (L : Nat) (sc : List V) : Nat → Nat → List V → MH → R V := fun n f args H => open Classical in
  if OraAt n f args H then some (.bool true, H.set 0 (.tab true)) else none
theorem oraM_ok {L : Nat} {sc : List V} : OraOK L sc (oraM L sc) := fun H t p sp mt0 rows side h1 h2 h3 h4 h5 h6 h7 h8 => if_pos ⟨rfl, rfl, t, p, sp, mt0, rows, side, rfl, h1, h2, h3, h4, h5, h6, h7, h8⟩
theorem ints_vrs {h : Heap} {μ : Mu} : ∀ {is : List Int} {xs : List Value}, IntsAre xs is → VRs h μ (is.map V.int) xs
  | _, _, .nil => rfl
  | _, _, .cons n t r => ⟨_, _, rfl, ⟨t, rfl⟩, ints_vrs r⟩
theorem ints_head {xs : List Value} {is : List Int} {a : Addr} (h : IntsAre xs is) : xs.head? ≠ some (.ref a) := by
  cases h <;> nofun
section
variable {Γ : Gam}
theorem law_call {mg mb : Str → Option Value} (X : (Kf Γ.w.params).In Γ.h₀) (g : Γ.h₀.Ns mainGlobals mg) (b : Γ.h₀.Ns builtinsNs mb) (hb : ∀ x : Str, x ≠ "__name__" → mb x = bootBuiltins x) (lim : Γ.h₀.NoLimit) (hbm : Γ.h₀.BuiltinsAt mg tabP) (hcd : CodeHd Γ.h₀ 972 tabP)
    {L : Addr} {xs : List Value} {is : List Int} (hl : Γ.h₀.IsList L xs.toArray) (hI : IntsAre xs is) (hn : is.length ≤ 63) : ∃ H', CallOK Γ 46 983 [.ref L] [.tab false] (some (.bool true, H')) ∧ H'[0]? = some (.tab true) := by
  have glob := glob_ok X g b hb (kf_glob Γ.w.params)
  have hne : ∀ {c d : Addr}, (∃ o ys n, (Kf Γ.w.params).lookup c = some o ∧ o.data = .seq ys n ∧ ys.toList.head? = some (.ref d)) → c ≠ L := fun hc e => by
    obtain ⟨o, ys, n, q1, q2, q3⟩ := hc
    obtain ⟨o', h1, _, n', h2⟩ := hl
    rw [← e, X _ _ q1] at h1
    rw [← Option.some.inj h1, q2] at h2
    rw [(Data.seq.inj h2).1] at q3
    exact ints_head hI q3
  have hL : look listTab L = none := (if_neg (hne (kf_818 Γ.w.params))).trans (if_neg (hne (kf_822 Γ.w.params)))
  have hsc : (is.map V.int).length ≤ top := Nat.le_trans (by rw [List.length_map]; exact hn) (by decide)
  have k : KOK Γ.K := kf_ok Γ.w.params
  have P0 : PrgOK Γ (prg L (is.map V.int) noOra) := prg_ok k (kf_keys Γ.w.params) X lim glob hsc hl (ints_vrs hI) fun n f args H => ⟨fun _ _ _ _ _ _ _ h => False.elim h, fun p e => nsm e⟩
  have P : PrgOK Γ (prg L (is.map V.int) (oraM L (is.map V.int))) := prg_ok k (kf_keys Γ.w.params) X lim glob hsc hl (ints_vrs hI) fun n f args H => by
    by_cases hc : OraAt n f args H
    · rw [show oraM L (is.map V.int) n f args H = some (.bool true, H.set 0 (.tab true)) from if_pos hc]
      obtain ⟨rfl, rfl, t, p, sp, mt0, rows, side, rfl, h1, h2, h3, h4, h5, h6, h7, h8⟩ := hc
      exact ⟨fun _ => rep_body P0 (fun h' up n H => row_ok (Γ := Γ.at h') k (fun a o q => up a o (X a o q)) (lim.keeps up) (glob.up up) n H) g hbm hcd ((Option.isSome_iff_exists.mp (kf_has Γ.w.params).2).imp fun o q => X _ _ q) (kf_rep X) h1 h2 h3 h4 h5 h6 h7 h8, fun _ _ => P0.keep (kf_keep Γ.w.params)⟩
    · rw [show oraM L (is.map V.int) n f args H = none from if_neg hc]
      exact ⟨fun _ _ _ _ _ _ _ h => False.elim h, fun p e => nsm e⟩
  obtain ⟨H', hv, hT⟩ := law_run (L := L) oraM_ok hL (is := is) rfl
  exact ⟨H', hv ▸ call_fn (kf_983 X) lim (tabs_ctx P.tabs 45) glob (P.sound 45), hT⟩
end
theorem law_walk {q : Program} {loose : List Str} {XP : (Str → Option Value) → Heap → Prop} {d : DefRec} {kwd : List (Str × PySem.Expr)} {e : ∀ P, Ka = (Kt P).map (·.1)} (hnm : d.name = "law") :
    WalkO q loose XP (kHook Kt Ka e).says PySem.Challenge.rw_sa0541_01.row.toRowW d kwd fun f vs => PySem.call f vs := by
  intro w s₀ s₁ mg mb G Y a o pm cd doc dV kV ho hdat hcd hD hmg hg args vals as hpre hlay hrd hwl hlo
  have X' := kIn_of Y
  have X : (Kf w.params).In s₁.heap := fun b ob hb => X' b ob (by
    show List.lookup b (_ :: _) = _
    rw [List.lookup_cons]
    split
    · rename_i hq; rw [beq_iff_eq.mp hq, show (968 : Addr) = tabP from rfl, (kf_has w.params).1] at hb; cases hb
    · exact hb)
  have hP : s₁.heap.get? tabP = some (tabObj #[]) := X' _ _ rfl
  have T := G.T
  wrow_args hpre hlay hrd hwl hlo
  refine enter_call ?_
  rename_i is _ _ _ _ _ _ L xs _ hL _ _ _ hI _ hlen _
  have hC : CodeHd s₁.heap 972 tabP := by
    obtain ⟨o, vs, file, tf, flags, tg, inF, text, tt, h1, r⟩ := kf_code w.params
    exact ⟨o, vs, file, tf, flags, tg, inF, text, tt, X _ _ h1, r⟩
  have hT : TabsAt [(972, 968)] s₁.heap := fun p hp => by rw [List.mem_singleton.mp hp]; exact ⟨hC, hP⟩
  refine kn_post hT (fun _ _ => rfl) ?_
  have Tg := ghost_top hT T
  have Xg := ghost_K hT X (kf_notabs w.params)
  obtain ⟨bm, ob, b1, b2, b3, b4, b5, b6⟩ := Tg.bmain
  have hbm : (ghostOf s₁.heap [(972, 968)]).BuiltinsAt mg tabP := by
    refine ⟨bm, ob, b1, b2, fun q => ?_, fun q => ?_, b3, b4, b5, b6⟩
    · obtain ⟨o, es, ep, e1, e2, _⟩ := Tg.g
      rw [q, e1] at b3; cases b3; rw [e2] at b6; cases b6
    · rw [q, show (ghostOf s₁.heap [(972, 968)]).get? tabP = none from hideAll_none _ (.head _)] at b3; cases b3
  have hCg : CodeHd (ghostOf s₁.heap [(972, 968)]) 972 tabP := (ghost_code hT).1
  have ha : a = 983 := by
    have := mg_of X T.g (kf_law w.params)
    rw [hnm, this] at hmg; cases hmg; rfl
  subst ha
  let Γ : Gam := ⟨PySem.Challenge.rw_sa0541_01.row.prog, w, ghostOf s₁.heap [(972, 968)]⟩
  obtain ⟨H', hc, hT0⟩ := law_call (Γ := Γ) Xg Tg.g Tg.b Tg.builtins Tg.nolimit hbm hCg (ghost_list hT hL) hI (by lia)
  have hr : HR Γ [[tabP]] [.tab false] s₁.heap := by
    refine ⟨rfl, List.nodup_cons.mpr ⟨nofun, List.nodup_nil⟩, fun a ha => ?_, fun b o e => of_hideAll _ e, fun i o l h1 h2 => ?_⟩
    · rw [List.mem_singleton.mp (show a ∈ [tabP] from ha)]; exact hideAll_none _ (.head _)
    · cases i with
      | zero => rw [← Option.some.inj h1, ← Option.some.inj h2]; exact ⟨#[], rfl, hP, fun _ => rfl⟩
      | succ i => exact nsm h1
  refine hc callerA ⟨s₁, [[tabP]], hr⟩ [.ref L] _ ⟨rfl, by decide +kernel, by decide +kernel⟩ ⟨_, [], rfl, rfl, rfl⟩ fun S' y t r => ?_
  cases r
  refine ⟨⟨.inl ⟨_, .bool true, [], rfl, fun _ => rfl, .bool true, by wrow_post, fun _ => ⟨List.nodup_nil, fun a h => nomatch h⟩⟩, S'.hr.base, t.os, t.gens.trans hg⟩, ?_, trivial⟩
  obtain ⟨ν, e, _⟩ := t.ext
  obtain ⟨l, hl, ps, rfl, h1, _⟩ := S'.hr.at hT0
  rw [e] at hl
  cases hl
  exact ⟨ps, h1⟩
end Mine
open PySem PySem.W PyProof.Rows PySem.Calls PySem.SeqAt
namespace Mine
namespace hd
theorem tw4971549296188076032:True:=⟨⟩
theorem tw8735263284916673568:True:=⟨⟩
theorem tw1800889605409440832:True:=⟨⟩
theorem tw4523669819894539328:True:=⟨⟩
theorem tw6276725880618359904:True:=⟨⟩
theorem tw17470177872615007328:True:=⟨⟩
theorem tw14951943216723881056:True:=⟨⟩
theorem tw16412773359747925120:True:=⟨⟩
theorem tw4706079058837389440:True:=⟨⟩
theorem tw5292301768408028288:True:=⟨⟩
theorem tw6830512106363814048:True:=⟨⟩
theorem tw17950676927832955104:True:=⟨⟩
theorem tw2739504486584576224:True:=⟨⟩
theorem tw17956543221229664512:True:=⟨⟩
theorem tw10259988299927297344:True:=⟨⟩
theorem tw8381844023166312768:True:=⟨⟩
theorem tw17387473266821786944:True:=⟨⟩
theorem tw6352655612330318208:True:=⟨⟩
theorem tw8912348807662434688:True:=⟨⟩
theorem tw7023726343779634624:True:=⟨⟩
theorem tw229552314494752288:True:=⟨⟩
theorem tw8134915037123179040:True:=⟨⟩
theorem tw15344866539931968096:True:=⟨⟩
theorem tw1359830224848277088:True:=⟨⟩
theorem tw7541792107247259296:True:=⟨⟩
theorem tw12070654863422294720:True:=⟨⟩
theorem tw16154546982801380032:True:=⟨⟩
theorem tw16694946328126371552:True:=⟨⟩
theorem tw7080932558258925280:True:=⟨⟩
theorem tw15643275761693703936:True:=⟨⟩
theorem tw5715356086224469760:True:=⟨⟩
theorem tw15278966056882409248:True:=⟨⟩
theorem tw5983496337302601536:True:=⟨⟩
theorem tw16635604280276938560:True:=⟨⟩
theorem tw15152743547302097792:True:=⟨⟩
theorem tw3350930974749635488:True:=⟨⟩
theorem tw14598272352848978880:True:=⟨⟩
theorem tw17252143746492648416:True:=⟨⟩
theorem tw6636792957720756321:True:=⟨⟩
theorem tw7691918140598264929:True:=⟨⟩
theorem tw10752148897807903841:True:=⟨⟩
theorem tw12127338746724423809:True:=⟨⟩
theorem tw7610815399733428385:True:=⟨⟩
theorem tw10403243965636340961:True:=⟨⟩
theorem tw16858285156579221889:True:=⟨⟩
theorem tw4111692666942324129:True:=⟨⟩
theorem tw4086058157674990017:True:=⟨⟩
theorem tw9429285754427346401:True:=⟨⟩
theorem tw7512474625130614241:True:=⟨⟩
theorem tw15220180469806662145:True:=⟨⟩
theorem tw16037735763661986305:True:=⟨⟩
theorem tw18067794650862307841:True:=⟨⟩
theorem tw2315301623876862497:True:=⟨⟩
theorem tw17336936450418997793:True:=⟨⟩
theorem tw4367455430839740993:True:=⟨⟩
theorem tw18343703819029505601:True:=⟨⟩
theorem tw8773699223549846113:True:=⟨⟩
theorem tw10678649693572172417:True:=⟨⟩
theorem tw13330244855972007585:True:=⟨⟩
theorem tw2371736936440567457:True:=⟨⟩
theorem tw2799716289819351777:True:=⟨⟩
theorem tw5343241284826551009:True:=⟨⟩
theorem tw16547865195752855329:True:=⟨⟩
theorem tw13218659294841961345:True:=⟨⟩
theorem tw6046454685291232161:True:=⟨⟩
theorem tw12602439190401603521:True:=⟨⟩
theorem tw7914949630228597729:True:=⟨⟩
theorem tw11210553801493137410:True:=⟨⟩
theorem tw8609351116199087170:True:=⟨⟩
theorem tw10905682514733158466:True:=⟨⟩
theorem tw14745743045033390146:True:=⟨⟩
theorem tw5480042469492414594:True:=⟨⟩
theorem tw6308581086252854402:True:=⟨⟩
theorem tw9731375825926819010:True:=⟨⟩
theorem tw4272726840584523970:True:=⟨⟩
theorem tw9430268157657104642:True:=⟨⟩
theorem tw13919464512627920130:True:=⟨⟩
theorem tw12936449754285732098:True:=⟨⟩
theorem tw4702841417184801058:True:=⟨⟩
theorem tw12337632362937886050:True:=⟨⟩
theorem tw758273949599710562:True:=⟨⟩
theorem tw17588044629489971554:True:=⟨⟩
theorem tw11052946933831473538:True:=⟨⟩
theorem tw11713075325732132258:True:=⟨⟩
theorem tw11912922877643110818:True:=⟨⟩
theorem tw12271959270614036898:True:=⟨⟩
theorem tw5781342201191254626:True:=⟨⟩
theorem tw7031273417212677730:True:=⟨⟩
theorem tw5549315172176941698:True:=⟨⟩
theorem tw15064902949301533346:True:=⟨⟩
theorem tw3919010098100093602:True:=⟨⟩
theorem tw5190246844813560578:True:=⟨⟩
theorem tw1448358952932078338:True:=⟨⟩
theorem tw13064122474441708322:True:=⟨⟩
theorem tw7525542149764818722:True:=⟨⟩
theorem tw3173010612589774626:True:=⟨⟩
theorem tw14446474709323646786:True:=⟨⟩
theorem tw9960721518486171458:True:=⟨⟩
theorem tw16443024508289211202:True:=⟨⟩
theorem tw16052320808349706082:True:=⟨⟩
theorem tw10365702040365258594:True:=⟨⟩
theorem tw17895171251205151618:True:=⟨⟩
theorem tw18245042118932799458:True:=⟨⟩
theorem tw2263123870574935043:True:=⟨⟩
theorem tw12364972598781006883:True:=⟨⟩
theorem tw8228950375871286339:True:=⟨⟩
theorem tw1882180444382439491:True:=⟨⟩
theorem tw17325209927041812611:True:=⟨⟩
theorem tw5318216170032084099:True:=⟨⟩
theorem tw2304311442786299043:True:=⟨⟩
theorem tw16904818350239718627:True:=⟨⟩
theorem tw18322514126500204803:True:=⟨⟩
theorem tw17130151131035750659:True:=⟨⟩
theorem tw15924899543223041283:True:=⟨⟩
theorem tw10847404155465417027:True:=⟨⟩
theorem tw1033889070964956483:True:=⟨⟩
theorem tw3229955645248102723:True:=⟨⟩
theorem tw5174551420813472067:True:=⟨⟩
theorem tw2783992281797965187:True:=⟨⟩
theorem tw11754176132448286083:True:=⟨⟩
theorem tw6411954120941647267:True:=⟨⟩
theorem tw4282359134580295075:True:=⟨⟩
theorem tw1760603350576429475:True:=⟨⟩
theorem tw13368278939475635651:True:=⟨⟩
theorem tw17087091549796120035:True:=⟨⟩
theorem tw9153386212771759811:True:=⟨⟩
theorem tw11513968764499736323:True:=⟨⟩
theorem tw5138769234217329475:True:=⟨⟩
theorem tw2480057099694739299:True:=⟨⟩
theorem tw11631947586910100387:True:=⟨⟩
theorem tw18293851220164018083:True:=⟨⟩
theorem tw519851828213033955:True:=⟨⟩
theorem tw17843490464661113860:True:=⟨⟩
theorem tw16477043939570097188:True:=⟨⟩
theorem tw14859038896228082724:True:=⟨⟩
theorem tw6060742912462422084:True:=⟨⟩
theorem tw6320253292602491972:True:=⟨⟩
theorem tw14896477498954680388:True:=⟨⟩
theorem tw8269573656231971908:True:=⟨⟩
theorem tw6407587892757256292:True:=⟨⟩
theorem tw17696971302532935780:True:=⟨⟩
theorem tw9228397985900620932:True:=⟨⟩
theorem tw6785817131721698500:True:=⟨⟩
theorem tw5278057926702712004:True:=⟨⟩
theorem tw10841399608879689956:True:=⟨⟩
theorem tw1299046323782801668:True:=⟨⟩
theorem tw14706022693812145444:True:=⟨⟩
theorem tw10507497572311344420:True:=⟨⟩
theorem tw14892549342360969540:True:=⟨⟩
theorem tw13855946660403688772:True:=⟨⟩
theorem tw9330943631129107780:True:=⟨⟩
theorem tw8068729725432388964:True:=⟨⟩
theorem tw3722166409189360004:True:=⟨⟩
theorem tw18358800413957953924:True:=⟨⟩
theorem tw13590489896138608164:True:=⟨⟩
theorem tw12861998865439983172:True:=⟨⟩
theorem tw8493152586797012548:True:=⟨⟩
theorem tw10949625832625181284:True:=⟨⟩
theorem tw7379015992945566340:True:=⟨⟩
theorem tw17001982702790524580:True:=⟨⟩
theorem tw2323474266016966308:True:=⟨⟩
theorem tw9013056391748086436:True:=⟨⟩
theorem tw5732804406350252772:True:=⟨⟩
theorem tw1241404454085649124:True:=⟨⟩
theorem tw16844041518873730820:True:=⟨⟩
theorem tw9990345226319884068:True:=⟨⟩
theorem tw17583924267553061668:True:=⟨⟩
theorem tw7076163891533521732:True:=⟨⟩
theorem tw8684328023851190084:True:=⟨⟩
theorem tw18241275227582772068:True:=⟨⟩
theorem tw8458067239894703972:True:=⟨⟩
theorem tw3789350110615891812:True:=⟨⟩
theorem tw14991384322417631237:True:=⟨⟩
theorem tw13931416462566266981:True:=⟨⟩
theorem tw13122850982685727845:True:=⟨⟩
theorem tw7269190750281295013:True:=⟨⟩
theorem tw8356816923877370021:True:=⟨⟩
theorem tw7355570028127101125:True:=⟨⟩
theorem tw12414669353804360901:True:=⟨⟩
theorem tw2502866573005156581:True:=⟨⟩
theorem tw11375277706881905925:True:=⟨⟩
theorem tw4292457097857839397:True:=⟨⟩
theorem tw6305734824756694309:True:=⟨⟩
theorem tw9702936160620672325:True:=⟨⟩
theorem tw850559431314050405:True:=⟨⟩
theorem tw10258999931320997221:True:=⟨⟩
theorem tw11893437276241958245:True:=⟨⟩
theorem tw15910714762333108613:True:=⟨⟩
theorem tw12399718760709695909:True:=⟨⟩
theorem tw4021928978595405253:True:=⟨⟩
theorem tw1847840615245081061:True:=⟨⟩
theorem tw11623594800819314181:True:=⟨⟩
theorem tw15790720579355451973:True:=⟨⟩
theorem tw5167245352685981253:True:=⟨⟩
theorem tw18160293313031310949:True:=⟨⟩
theorem tw9842699097658496709:True:=⟨⟩
theorem tw11251137523995926341:True:=⟨⟩
theorem tw6438293893037913957:True:=⟨⟩
theorem tw15637593595834871717:True:=⟨⟩
theorem tw5505005885091257285:True:=⟨⟩
theorem tw17491280204586788870:True:=⟨⟩
theorem tw13475242022060392486:True:=⟨⟩
theorem tw13181700845877081190:True:=⟨⟩
theorem tw3026753882482905222:True:=⟨⟩
theorem tw10583446816852156582:True:=⟨⟩
theorem tw13466754112058979494:True:=⟨⟩
theorem tw5899666649113621702:True:=⟨⟩
theorem tw2871226400543044806:True:=⟨⟩
theorem tw3484992998616243462:True:=⟨⟩
theorem tw7628703163842673926:True:=⟨⟩
theorem tw8268277133935991078:True:=⟨⟩
theorem tw16211521421427940678:True:=⟨⟩
theorem tw212345690472687942:True:=⟨⟩
theorem tw3673020696563887462:True:=⟨⟩
theorem tw13092906067662860646:True:=⟨⟩
theorem tw13111874981228315014:True:=⟨⟩
theorem tw11778180911958503814:True:=⟨⟩
theorem tw991583007596301734:True:=⟨⟩
theorem tw102014493982917126:True:=⟨⟩
theorem tw13066319289922817542:True:=⟨⟩
theorem tw2386827423013361158:True:=⟨⟩
theorem tw3795277891434052102:True:=⟨⟩
theorem tw10424393626065333798:True:=⟨⟩
theorem tw2295870552580634182:True:=⟨⟩
theorem tw5927567313105069670:True:=⟨⟩
theorem tw17258206423299326598:True:=⟨⟩
theorem tw17562767543260142214:True:=⟨⟩
theorem tw2195365466389143174:True:=⟨⟩
theorem tw13903934854276604550:True:=⟨⟩
theorem tw1865391376527767206:True:=⟨⟩
theorem tw4993660671451451078:True:=⟨⟩
theorem tw1506431575118746342:True:=⟨⟩
theorem tw8990313861142287110:True:=⟨⟩
theorem tw11587034568685482758:True:=⟨⟩
theorem tw13893168526513508166:True:=⟨⟩
theorem tw3044193314922437478:True:=⟨⟩
theorem tw7153062008950511462:True:=⟨⟩
theorem tw6014424301940151174:True:=⟨⟩
theorem tw9386895884608548742:True:=⟨⟩
theorem tw3039998526598829958:True:=⟨⟩
theorem tw8934143017859847078:True:=⟨⟩
theorem tw10117440562283002822:True:=⟨⟩
theorem tw1589133516308662214:True:=⟨⟩
theorem tw5978321128707920903:True:=⟨⟩
theorem tw10844753989422098599:True:=⟨⟩
theorem tw15801621979342729383:True:=⟨⟩
theorem tw15683763237869141255:True:=⟨⟩
theorem tw17919194246423945575:True:=⟨⟩
theorem tw17062030032774818151:True:=⟨⟩
theorem tw8977307856219701671:True:=⟨⟩
theorem tw5635641802508607975:True:=⟨⟩
theorem tw9783614193127449063:True:=⟨⟩
theorem tw12659318050587179527:True:=⟨⟩
theorem tw3109861748172591687:True:=⟨⟩
theorem tw9557236495431379559:True:=⟨⟩
theorem tw15564728929539428999:True:=⟨⟩
theorem tw12058812876911547015:True:=⟨⟩
theorem tw12901994302517312135:True:=⟨⟩
theorem tw4449123307109862055:True:=⟨⟩
theorem tw7068711184596962023:True:=⟨⟩
theorem tw11660266114150955751:True:=⟨⟩
theorem tw5054737718236178183:True:=⟨⟩
theorem tw8960069828448710407:True:=⟨⟩
theorem tw17672654358674132775:True:=⟨⟩
theorem tw6469175993241445255:True:=⟨⟩
theorem tw7028611270464810887:True:=⟨⟩
theorem tw701787995468756871:True:=⟨⟩
theorem tw8545014587354053640:True:=⟨⟩
theorem tw190519026028168232:True:=⟨⟩
theorem tw4282304852377368616:True:=⟨⟩
theorem tw7372000682148998216:True:=⟨⟩
theorem tw4091639524402994376:True:=⟨⟩
theorem tw8671608845466749128:True:=⟨⟩
theorem tw10286656452748174568:True:=⟨⟩
theorem tw13642289790063256904:True:=⟨⟩
theorem tw14083186784513179016:True:=⟨⟩
theorem tw16920754564084929960:True:=⟨⟩
theorem tw10246146449241189800:True:=⟨⟩
theorem tw13562760996464443880:True:=⟨⟩
theorem tw12949589719889679912:True:=⟨⟩
theorem tw14457593812595234344:True:=⟨⟩
theorem tw5464967688985200232:True:=⟨⟩
theorem tw6038821095411175016:True:=⟨⟩
theorem tw18268791191939849864:True:=⟨⟩
theorem tw2708950531961675432:True:=⟨⟩
theorem tw4642405928176397000:True:=⟨⟩
theorem tw162610821266807592:True:=⟨⟩
theorem tw960944832710211464:True:=⟨⟩
theorem tw4870687313549177768:True:=⟨⟩
theorem tw17975533764899295144:True:=⟨⟩
theorem tw6627881031435992008:True:=⟨⟩
theorem tw7792395482447073224:True:=⟨⟩
theorem tw16376525773666504680:True:=⟨⟩
theorem tw11011131195910976488:True:=⟨⟩
theorem tw3259873300814134281:True:=⟨⟩
theorem tw189712035060473897:True:=⟨⟩
theorem tw7174315439194531881:True:=⟨⟩
theorem tw2040990291671593033:True:=⟨⟩
theorem tw8959176491354863721:True:=⟨⟩
theorem tw14567429538950270057:True:=⟨⟩
theorem tw18166333605607142505:True:=⟨⟩
theorem tw11876181655626548425:True:=⟨⟩
theorem tw4225703048834024713:True:=⟨⟩
theorem tw8824441977032169737:True:=⟨⟩
theorem tw8652628183442184457:True:=⟨⟩
theorem tw10788059911547816233:True:=⟨⟩
theorem tw14906377314874228009:True:=⟨⟩
theorem tw9244321171653502345:True:=⟨⟩
theorem tw11729958736954745289:True:=⟨⟩
theorem tw8479784124755550697:True:=⟨⟩
theorem tw1129884963351977449:True:=⟨⟩
theorem tw137786328141462057:True:=⟨⟩
theorem tw5009564483982726761:True:=⟨⟩
theorem tw567884609423149705:True:=⟨⟩
theorem tw17925215291927510665:True:=⟨⟩
theorem tw14040608126747316905:True:=⟨⟩
theorem tw663384727985864361:True:=⟨⟩
theorem tw11005561430357413609:True:=⟨⟩
theorem tw243823211424636713:True:=⟨⟩
theorem tw5148922909946612681:True:=⟨⟩
theorem tw3915529967508079626:True:=⟨⟩
theorem tw18264374347568628810:True:=⟨⟩
theorem tw15042006015671813226:True:=⟨⟩
theorem tw6906073325868019850:True:=⟨⟩
theorem tw13217225542625558698:True:=⟨⟩
theorem tw16009884308244765898:True:=⟨⟩
theorem tw7120233287515763914:True:=⟨⟩
theorem tw6898005170327248138:True:=⟨⟩
theorem tw10778257442750969130:True:=⟨⟩
theorem tw9406673726873002282:True:=⟨⟩
theorem tw7626941382939369770:True:=⟨⟩
theorem tw6804821044290156842:True:=⟨⟩
theorem tw16794629799341752650:True:=⟨⟩
theorem tw7654286748164834634:True:=⟨⟩
theorem tw5416991563250132298:True:=⟨⟩
theorem tw4383666589626881386:True:=⟨⟩
theorem tw9983995961361265002:True:=⟨⟩
theorem tw17447410573909459338:True:=⟨⟩
theorem tw704277666084467114:True:=⟨⟩
theorem tw9864973744126774698:True:=⟨⟩
theorem tw242841246431481386:True:=⟨⟩
theorem tw17143205804819765802:True:=⟨⟩
theorem tw6528754448969337418:True:=⟨⟩
theorem tw15591429051563716170:True:=⟨⟩
theorem tw10603584201595350602:True:=⟨⟩
theorem tw4360684699965382250:True:=⟨⟩
theorem tw9132557439983319658:True:=⟨⟩
theorem tw10170382586518783626:True:=⟨⟩
theorem tw656455966557771466:True:=⟨⟩
theorem tw1563692795949630186:True:=⟨⟩
theorem tw12487502673411948298:True:=⟨⟩
theorem tw500953250457666378:True:=⟨⟩
theorem tw1809687716253123402:True:=⟨⟩
theorem tw4478964076566166474:True:=⟨⟩
theorem tw17737187407176874954:True:=⟨⟩
theorem tw12112201142124510154:True:=⟨⟩
theorem tw9271970288684553227:True:=⟨⟩
theorem tw16823583209533085739:True:=⟨⟩
theorem tw5513025101015932971:True:=⟨⟩
theorem tw7155415327029175403:True:=⟨⟩
theorem tw8244733829118024811:True:=⟨⟩
theorem tw12239354291974867115:True:=⟨⟩
theorem tw11128854368766332075:True:=⟨⟩
theorem tw13277076834127875243:True:=⟨⟩
theorem tw3443669649825651883:True:=⟨⟩
theorem tw9449672872311958731:True:=⟨⟩
theorem tw12832683148521936107:True:=⟨⟩
theorem tw18176940659606848779:True:=⟨⟩
theorem tw17628472586750557451:True:=⟨⟩
theorem tw11917015161858427179:True:=⟨⟩
theorem tw13855881374063213867:True:=⟨⟩
theorem tw6449127861642672459:True:=⟨⟩
theorem tw17070941380808615275:True:=⟨⟩
theorem tw9170477692918782315:True:=⟨⟩
theorem tw10030107230732127627:True:=⟨⟩
theorem tw1511243299971373483:True:=⟨⟩
theorem tw15463257786427224491:True:=⟨⟩
theorem tw15603535497565009323:True:=⟨⟩
theorem tw14727110085682223627:True:=⟨⟩
theorem tw313027258313007627:True:=⟨⟩
theorem tw6683769817339685419:True:=⟨⟩
theorem tw7534799579077118603:True:=⟨⟩
theorem tw14333710738500927179:True:=⟨⟩
theorem tw10743916045514856203:True:=⟨⟩
theorem tw9748044761591592747:True:=⟨⟩
theorem tw8727321023445011275:True:=⟨⟩
theorem tw2999033326186475339:True:=⟨⟩
theorem tw8242931771332617035:True:=⟨⟩
theorem tw6196171512934965099:True:=⟨⟩
theorem tw8716120427605611371:True:=⟨⟩
theorem tw16896567674234606475:True:=⟨⟩
theorem tw978945382295711627:True:=⟨⟩
theorem tw7640094616464845771:True:=⟨⟩
theorem tw6264232113106981867:True:=⟨⟩
theorem tw4136554803537287180:True:=⟨⟩
theorem tw4315991029959535628:True:=⟨⟩
theorem tw1836080755315867724:True:=⟨⟩
theorem tw6394381022753523788:True:=⟨⟩
theorem tw13217827037086042188:True:=⟨⟩
theorem tw12647368939536790636:True:=⟨⟩
theorem tw3922637787740509324:True:=⟨⟩
theorem tw6186238094035137676:True:=⟨⟩
theorem tw1043307727769730188:True:=⟨⟩
theorem tw1535757262459896012:True:=⟨⟩
theorem tw14060154772996877548:True:=⟨⟩
theorem tw8977460988437922124:True:=⟨⟩
theorem tw16299908979028503884:True:=⟨⟩
theorem tw12092154237167983948:True:=⟨⟩
theorem tw2930668341846507884:True:=⟨⟩
theorem tw5535567543195554156:True:=⟨⟩
theorem tw17711083657039698284:True:=⟨⟩
theorem tw6957150274394394060:True:=⟨⟩
theorem tw12575139184659369484:True:=⟨⟩
theorem tw5873113503399164460:True:=⟨⟩
theorem tw15687388767607454252:True:=⟨⟩
theorem tw6482722132109649516:True:=⟨⟩
theorem tw5130813555471234732:True:=⟨⟩
theorem tw5322579261384874668:True:=⟨⟩
theorem tw8004679753235328684:True:=⟨⟩
theorem tw18185175575083235020:True:=⟨⟩
theorem tw15923250282426842828:True:=⟨⟩
theorem tw17948085552500728524:True:=⟨⟩
theorem tw7270182246851987180:True:=⟨⟩
theorem tw12588582704262371052:True:=⟨⟩
theorem tw9459050058782445324:True:=⟨⟩
theorem tw14683707025165767436:True:=⟨⟩
theorem tw10292235466723388172:True:=⟨⟩
theorem tw6819123309680001836:True:=⟨⟩
theorem tw15368132723985388332:True:=⟨⟩
theorem tw12023040214023829324:True:=⟨⟩
theorem tw16171809288044610508:True:=⟨⟩
theorem tw10781468475247234061:True:=⟨⟩
theorem tw15837987909243819085:True:=⟨⟩
theorem tw1409312971732116557:True:=⟨⟩
theorem tw257007361410690125:True:=⟨⟩
theorem tw5010264101278932077:True:=⟨⟩
theorem tw12254263087357419629:True:=⟨⟩
theorem tw4833718069199227053:True:=⟨⟩
theorem tw16332348944364537037:True:=⟨⟩
theorem tw6877226645827823821:True:=⟨⟩
theorem tw5595918842973271245:True:=⟨⟩
theorem tw1013155817946168525:True:=⟨⟩
theorem tw13628142620392400109:True:=⟨⟩
theorem tw14060237666301923597:True:=⟨⟩
theorem tw14743440263598761229:True:=⟨⟩
theorem tw13321331477185743149:True:=⟨⟩
theorem tw11415386828835887437:True:=⟨⟩
theorem tw4502381215501654381:True:=⟨⟩
theorem tw16919406825032445293:True:=⟨⟩
theorem tw9325612240067072397:True:=⟨⟩
theorem tw16345102440705955213:True:=⟨⟩
theorem tw6079173187612997037:True:=⟨⟩
theorem tw8457440626546761165:True:=⟨⟩
theorem tw17386561741084979693:True:=⟨⟩
theorem tw4377701919642642989:True:=⟨⟩
theorem tw3404104791013757517:True:=⟨⟩
theorem tw16828841361933241965:True:=⟨⟩
theorem tw6184208073178115725:True:=⟨⟩
theorem tw5036846961687405229:True:=⟨⟩
theorem tw582827884928060077:True:=⟨⟩
theorem tw4734902545126651661:True:=⟨⟩
theorem tw4068527845204499245:True:=⟨⟩
theorem tw17606422857730326317:True:=⟨⟩
theorem tw11249132867342737325:True:=⟨⟩
theorem tw10404513684093684653:True:=⟨⟩
theorem tw13929354066492186541:True:=⟨⟩
theorem tw1088296927520436173:True:=⟨⟩
theorem tw9577689765879766989:True:=⟨⟩
theorem tw16156708551869547534:True:=⟨⟩
theorem tw10614716105012338702:True:=⟨⟩
theorem tw11801993109049149486:True:=⟨⟩
theorem tw9398405308114057262:True:=⟨⟩
theorem tw11968265576560266318:True:=⟨⟩
theorem tw7880807054014371918:True:=⟨⟩
theorem tw12232750017996463310:True:=⟨⟩
theorem tw17076082267592564974:True:=⟨⟩
theorem tw14294001040229213422:True:=⟨⟩
theorem tw5715734110848049390:True:=⟨⟩
theorem tw4654797750381630734:True:=⟨⟩
theorem tw17989097746536338734:True:=⟨⟩
theorem tw9617658007855726926:True:=⟨⟩
theorem tw678209747344391502:True:=⟨⟩
theorem tw10203026625882799534:True:=⟨⟩
theorem tw185848376630758926:True:=⟨⟩
theorem tw12900700647772717614:True:=⟨⟩
theorem tw3429492842335990350:True:=⟨⟩
theorem tw12952509933414984302:True:=⟨⟩
theorem tw10531373872144210542:True:=⟨⟩
theorem tw12940713784782232206:True:=⟨⟩
theorem tw3608708970678896270:True:=⟨⟩
theorem tw1870067075039425230:True:=⟨⟩
theorem tw1781861727890032366:True:=⟨⟩
theorem tw9555612238305686254:True:=⟨⟩
theorem tw3196399650302076718:True:=⟨⟩
theorem tw4159134105002834734:True:=⟨⟩
theorem tw16722109127936396110:True:=⟨⟩
theorem tw6780557218761844654:True:=⟨⟩
theorem tw14553816603554493358:True:=⟨⟩
theorem tw9345929723534960622:True:=⟨⟩
theorem tw12268275109542032366:True:=⟨⟩
theorem tw6818987989461384207:True:=⟨⟩
theorem tw13363553139645760527:True:=⟨⟩
theorem tw11507959949525687343:True:=⟨⟩
theorem tw1452849714261714991:True:=⟨⟩
theorem tw15616948245753086127:True:=⟨⟩
theorem tw17172931820748874959:True:=⟨⟩
theorem tw2442259710966052079:True:=⟨⟩
theorem tw12521463284412890351:True:=⟨⟩
theorem tw17330132731328240911:True:=⟨⟩
theorem tw8587404781116728655:True:=⟨⟩
theorem tw2845207389951388047:True:=⟨⟩
theorem tw6082411064634330575:True:=⟨⟩
theorem tw3493717111155160527:True:=⟨⟩
theorem tw3759623122121258479:True:=⟨⟩
theorem tw9895258680237466127:True:=⟨⟩
theorem tw9476321141362543215:True:=⟨⟩
theorem tw12631932088317031055:True:=⟨⟩
theorem tw10012880186880212623:True:=⟨⟩
theorem tw11709330566771433103:True:=⟨⟩
theorem tw5987830557187376847:True:=⟨⟩
theorem tw17471934795394947791:True:=⟨⟩
theorem tw6990203504111849199:True:=⟨⟩
theorem tw6679266806504041263:True:=⟨⟩
theorem tw18095200977026478895:True:=⟨⟩
theorem tw2101469004524951375:True:=⟨⟩
theorem tw11319892378374348655:True:=⟨⟩
theorem tw9657781627882305391:True:=⟨⟩
theorem tw13315533130655954831:True:=⟨⟩
theorem tw8879563391730754479:True:=⟨⟩
theorem tw16649331688326792143:True:=⟨⟩
theorem tw16698745307106531279:True:=⟨⟩
theorem tw18421049791903953903:True:=⟨⟩
theorem tw10111801491309104144:True:=⟨⟩
theorem tw402640490398009360:True:=⟨⟩
theorem tw15427206886491885616:True:=⟨⟩
theorem tw8801323125487838256:True:=⟨⟩
theorem tw16011055738799735888:True:=⟨⟩
theorem tw10216474801634566288:True:=⟨⟩
theorem tw10643592516055977328:True:=⟨⟩
theorem tw11115866451450875312:True:=⟨⟩
theorem tw10491609206876299696:True:=⟨⟩
theorem tw7891253978561527248:True:=⟨⟩
theorem tw940617070666608080:True:=⟨⟩
theorem tw13285133528070534704:True:=⟨⟩
theorem tw16853341256802265648:True:=⟨⟩
theorem tw12995909851351757392:True:=⟨⟩
theorem tw7152984921513172624:True:=⟨⟩
theorem tw7382370116671421104:True:=⟨⟩
theorem tw1712922718373300912:True:=⟨⟩
theorem tw14667805832236412624:True:=⟨⟩
theorem tw4856431653887292112:True:=⟨⟩
theorem tw13518370688599389936:True:=⟨⟩
theorem tw8351282476255451920:True:=⟨⟩
theorem tw11551083187376567056:True:=⟨⟩
theorem tw12614811148066621264:True:=⟨⟩
theorem tw17902569758825723728:True:=⟨⟩
theorem tw15595854959937240912:True:=⟨⟩
theorem tw6755925336976613232:True:=⟨⟩
theorem tw7752569895197466512:True:=⟨⟩
theorem tw15279998641719260112:True:=⟨⟩
theorem tw10944956837784636368:True:=⟨⟩
theorem tw16178712458983371728:True:=⟨⟩
theorem tw3434918251397683217:True:=⟨⟩
theorem tw13790719812936386609:True:=⟨⟩
theorem tw876933089483189297:True:=⟨⟩
theorem tw13322179722446271537:True:=⟨⟩
theorem tw15527848837575444561:True:=⟨⟩
theorem tw17213754286329925777:True:=⟨⟩
theorem tw5247051413645994129:True:=⟨⟩
theorem tw4768578896829404305:True:=⟨⟩
theorem tw2000490053193787569:True:=⟨⟩
theorem tw280609765759037681:True:=⟨⟩
theorem tw432457690288141553:True:=⟨⟩
theorem tw14705683404202351889:True:=⟨⟩
theorem tw100483095206116625:True:=⟨⟩
theorem tw15946356160694317329:True:=⟨⟩
theorem tw6882427118574961969:True:=⟨⟩
theorem tw1005483496087919985:True:=⟨⟩
theorem tw17903497710992402801:True:=⟨⟩
theorem tw6615107907471364465:True:=⟨⟩
theorem tw16634568088961857937:True:=⟨⟩
theorem tw15852365999677673905:True:=⟨⟩
theorem tw16056359734778111409:True:=⟨⟩
theorem tw7082855905992002993:True:=⟨⟩
theorem tw14246236162039180721:True:=⟨⟩
theorem tw11034497122203965937:True:=⟨⟩
theorem tw8015326511298524721:True:=⟨⟩
theorem tw13220430256171166289:True:=⟨⟩
theorem tw3828038474966422129:True:=⟨⟩
theorem tw12113243949977362033:True:=⟨⟩
theorem tw5961118342813265553:True:=⟨⟩
theorem tw1603739661141634737:True:=⟨⟩
theorem tw10933677585905718993:True:=⟨⟩
theorem tw8117029840178788049:True:=⟨⟩
theorem tw4990156530697904881:True:=⟨⟩
theorem tw6278647508926252785:True:=⟨⟩
theorem tw1208734638264122097:True:=⟨⟩
theorem tw6545403380812914513:True:=⟨⟩
theorem tw7317836474542784337:True:=⟨⟩
theorem tw6578402527460240241:True:=⟨⟩
theorem tw16053994301053490033:True:=⟨⟩
theorem tw5716766192118558609:True:=⟨⟩
theorem tw16029623286316568529:True:=⟨⟩
theorem tw6759412095888398321:True:=⟨⟩
theorem tw8683856772340465682:True:=⟨⟩
theorem tw16661405048812198066:True:=⟨⟩
theorem tw368366308016060594:True:=⟨⟩
theorem tw2391449824757734642:True:=⟨⟩
theorem tw11749099774412794130:True:=⟨⟩
theorem tw8025032847418708242:True:=⟨⟩
theorem tw9641152695372364146:True:=⟨⟩
theorem tw15166520500009309586:True:=⟨⟩
theorem tw9499510787657705874:True:=⟨⟩
theorem tw14772383043592177042:True:=⟨⟩
theorem tw15813434630575017362:True:=⟨⟩
theorem tw7754304195085646258:True:=⟨⟩
theorem tw5366084841770067474:True:=⟨⟩
theorem tw2167537188350426706:True:=⟨⟩
theorem tw250903467453971090:True:=⟨⟩
theorem tw16257038226119295666:True:=⟨⟩
theorem tw15963624873386084050:True:=⟨⟩
theorem tw1580110805410547442:True:=⟨⟩
theorem tw10465514089279642386:True:=⟨⟩
theorem tw8053944837975664402:True:=⟨⟩
theorem tw10525666975642140466:True:=⟨⟩
theorem tw14560493823538711346:True:=⟨⟩
theorem tw9298403506768410418:True:=⟨⟩
theorem tw12629568148972539762:True:=⟨⟩
theorem tw6293948785866598258:True:=⟨⟩
theorem tw7296583596125217682:True:=⟨⟩
theorem tw8112040973832200146:True:=⟨⟩
theorem tw1097998534492414930:True:=⟨⟩
theorem tw15083628210047938546:True:=⟨⟩
theorem tw9513423893830186035:True:=⟨⟩
theorem tw10601615944963115059:True:=⟨⟩
theorem tw561391293025646643:True:=⟨⟩
theorem tw4724112764586752083:True:=⟨⟩
theorem tw17429513623812275283:True:=⟨⟩
theorem tw8538877666451538035:True:=⟨⟩
theorem tw3694398316872202419:True:=⟨⟩
theorem tw10806950440038215891:True:=⟨⟩
theorem tw9184186324627900627:True:=⟨⟩
theorem tw5657824000916062451:True:=⟨⟩
theorem tw17454471701868102899:True:=⟨⟩
theorem tw5567388512258382067:True:=⟨⟩
theorem tw5238241317806426387:True:=⟨⟩
theorem tw12590977762386282803:True:=⟨⟩
theorem tw7289634563603522867:True:=⟨⟩
theorem tw16945582573551092051:True:=⟨⟩
theorem tw14168552714766633299:True:=⟨⟩
theorem tw16373702718001791347:True:=⟨⟩
theorem tw16502264421070913907:True:=⟨⟩
theorem tw17495340751864218003:True:=⟨⟩
theorem tw1382963296337349011:True:=⟨⟩
theorem tw16432713993328977331:True:=⟨⟩
theorem tw7793673504863384051:True:=⟨⟩
theorem tw1379335367625716243:True:=⟨⟩
theorem tw17772917993097084435:True:=⟨⟩
theorem tw5363564295841288755:True:=⟨⟩
theorem tw11151547217846952531:True:=⟨⟩
theorem tw18103342009636024947:True:=⟨⟩
theorem tw14984183105004643987:True:=⟨⟩
theorem tw4115565904173853331:True:=⟨⟩
theorem tw1415891422023803571:True:=⟨⟩
theorem tw3008623586974134963:True:=⟨⟩
theorem tw920214292312260371:True:=⟨⟩
theorem tw16640546478005224243:True:=⟨⟩
theorem tw15948780112781908787:True:=⟨⟩
theorem tw11852641145169952659:True:=⟨⟩
theorem tw4015398097383911347:True:=⟨⟩
theorem tw13409441903868389331:True:=⟨⟩
theorem tw8789358453043137523:True:=⟨⟩
theorem tw18103420901670897651:True:=⟨⟩
theorem tw4851647983119433812:True:=⟨⟩
theorem tw3913528116038191188:True:=⟨⟩
theorem tw2616952524820836436:True:=⟨⟩
theorem tw4867443594122359892:True:=⟨⟩
theorem tw14452983461622788276:True:=⟨⟩
theorem tw4367231431732253908:True:=⟨⟩
theorem tw15529170255622000948:True:=⟨⟩
theorem tw6164396464334811476:True:=⟨⟩
theorem tw7540655947842036084:True:=⟨⟩
theorem tw6547078798241139092:True:=⟨⟩
theorem tw7339039647409124788:True:=⟨⟩
theorem tw15422856539912107476:True:=⟨⟩
theorem tw6998783941825042932:True:=⟨⟩
theorem tw5555242405213081108:True:=⟨⟩
theorem tw7366208706002141716:True:=⟨⟩
theorem tw10273187271170590260:True:=⟨⟩
theorem tw4725425184044842548:True:=⟨⟩
theorem tw4014540891139286612:True:=⟨⟩
theorem tw7540741092611519060:True:=⟨⟩
theorem tw11256106856564762260:True:=⟨⟩
theorem tw18293732401869909652:True:=⟨⟩
theorem tw9131607905817354932:True:=⟨⟩
theorem tw13994979335412520660:True:=⟨⟩
theorem tw12690835874199464660:True:=⟨⟩
theorem tw14439243815434019604:True:=⟨⟩
theorem tw697623264460660564:True:=⟨⟩
theorem tw1997569388931296116:True:=⟨⟩
theorem tw6136932545381038964:True:=⟨⟩
theorem tw226724450230711188:True:=⟨⟩
theorem tw9258712216579463092:True:=⟨⟩
theorem tw5629675986466331604:True:=⟨⟩
theorem tw6598312636042714100:True:=⟨⟩
theorem tw15625209780758371316:True:=⟨⟩
theorem tw1439246655266547700:True:=⟨⟩
theorem tw3649758429140192277:True:=⟨⟩
theorem tw11915594877312485397:True:=⟨⟩
theorem tw17234923516513369237:True:=⟨⟩
theorem tw11162318198679636149:True:=⟨⟩
theorem tw9496365245306024149:True:=⟨⟩
theorem tw12870888531099404533:True:=⟨⟩
theorem tw9753359207989701909:True:=⟨⟩
theorem tw13225837485096350037:True:=⟨⟩
theorem tw6442067068224118133:True:=⟨⟩
theorem tw11663481321943121269:True:=⟨⟩
theorem tw14103535550066685397:True:=⟨⟩
theorem tw10264135568141901301:True:=⟨⟩
theorem tw5838798749469777461:True:=⟨⟩
theorem tw2608437505485318709:True:=⟨⟩
theorem tw17673860158736603733:True:=⟨⟩
theorem tw13474097485772985973:True:=⟨⟩
theorem tw3571134770919094901:True:=⟨⟩
theorem tw16357263729072622229:True:=⟨⟩
theorem tw9215827820722605749:True:=⟨⟩
theorem tw7494724483528729301:True:=⟨⟩
theorem tw2042292140826266357:True:=⟨⟩
theorem tw15508949281206285077:True:=⟨⟩
theorem tw12459740579856956213:True:=⟨⟩
theorem tw5486487638281291605:True:=⟨⟩
theorem tw16302227732802510677:True:=⟨⟩
theorem tw13609717118414637909:True:=⟨⟩
theorem tw13483081372092288885:True:=⟨⟩
theorem tw1666387254794493845:True:=⟨⟩
theorem tw9427301549700849589:True:=⟨⟩
theorem tw3941438180925939637:True:=⟨⟩
theorem tw1425423193147277237:True:=⟨⟩
theorem tw6820862383352777685:True:=⟨⟩
theorem tw10919297434634762262:True:=⟨⟩
theorem tw7240586211207864342:True:=⟨⟩
theorem tw18439511094173506614:True:=⟨⟩
theorem tw7284649500432165974:True:=⟨⟩
theorem tw8965841893048198262:True:=⟨⟩
theorem tw6291416237084387574:True:=⟨⟩
theorem tw8343274005884668182:True:=⟨⟩
theorem tw1848646778235469078:True:=⟨⟩
theorem tw7941745277869089046:True:=⟨⟩
theorem tw3513125359445811510:True:=⟨⟩
theorem tw1413172679324656950:True:=⟨⟩
theorem tw16473244170626142550:True:=⟨⟩
theorem tw16713699803418581334:True:=⟨⟩
theorem tw9155422001095189878:True:=⟨⟩
theorem tw3452082135128663414:True:=⟨⟩
theorem tw11814627755841444246:True:=⟨⟩
theorem tw15610959940260225430:True:=⟨⟩
theorem tw11213053971927718326:True:=⟨⟩
theorem tw17577478241444706838:True:=⟨⟩
theorem tw16155205043701107222:True:=⟨⟩
theorem tw7752767780024739350:True:=⟨⟩
theorem tw17420951861521290806:True:=⟨⟩
theorem tw12480425521718506038:True:=⟨⟩
theorem tw12131494931117144662:True:=⟨⟩
theorem tw7369741819223213686:True:=⟨⟩
theorem tw3816877163431070358:True:=⟨⟩
theorem tw617508947420966582:True:=⟨⟩
theorem tw15179676742415161110:True:=⟨⟩
theorem tw1011335219593555734:True:=⟨⟩
theorem tw8428860471423672150:True:=⟨⟩
theorem tw4138081844389336918:True:=⟨⟩
theorem tw8770659054964912022:True:=⟨⟩
theorem tw15367242080415987702:True:=⟨⟩
theorem tw6184460063843016694:True:=⟨⟩
theorem tw15615537253650120727:True:=⟨⟩
theorem tw11905163887095721015:True:=⟨⟩
theorem tw10098268173465320503:True:=⟨⟩
theorem tw14029546391885035639:True:=⟨⟩
theorem tw2216850387143573719:True:=⟨⟩
theorem tw12114786419227108663:True:=⟨⟩
theorem tw2448417245163862455:True:=⟨⟩
theorem tw5283464899586487735:True:=⟨⟩
theorem tw10955317050725887447:True:=⟨⟩
theorem tw16970440968685349367:True:=⟨⟩
theorem tw13783031573616600631:True:=⟨⟩
theorem tw3442329435671937591:True:=⟨⟩
theorem tw16064382804478563927:True:=⟨⟩
theorem tw3673089383077640791:True:=⟨⟩
theorem tw8044012406986999415:True:=⟨⟩
theorem tw14438451200097066615:True:=⟨⟩
theorem tw15416985209724490359:True:=⟨⟩
theorem tw7292484366425897655:True:=⟨⟩
theorem tw9631708518359487223:True:=⟨⟩
theorem tw13574768056931433239:True:=⟨⟩
theorem tw3381375190539634487:True:=⟨⟩
theorem tw13468300074154594103:True:=⟨⟩
theorem tw11402939732021071671:True:=⟨⟩
theorem tw307737655149646647:True:=⟨⟩
theorem tw9073681462420916055:True:=⟨⟩
theorem tw10879034167726328663:True:=⟨⟩
theorem tw6879831473291441079:True:=⟨⟩
theorem tw2134215046882385847:True:=⟨⟩
theorem tw11389486352061984695:True:=⟨⟩
theorem tw11136197038861592535:True:=⟨⟩
theorem tw2788664435532181463:True:=⟨⟩
theorem tw6140570298594658328:True:=⟨⟩
theorem tw9345676750909349944:True:=⟨⟩
theorem tw8803977449572941912:True:=⟨⟩
theorem tw16456969618363192440:True:=⟨⟩
theorem tw18300207936620678264:True:=⟨⟩
theorem tw5562173858411828344:True:=⟨⟩
theorem tw11038495425325230296:True:=⟨⟩
theorem tw262745018181394680:True:=⟨⟩
theorem tw17650839729002327288:True:=⟨⟩
theorem tw2799067240506288376:True:=⟨⟩
theorem tw2274498078352570744:True:=⟨⟩
theorem tw14768889098011018680:True:=⟨⟩
theorem tw5511420028821071320:True:=⟨⟩
theorem tw14589601179579921912:True:=⟨⟩
theorem tw13866372431405929976:True:=⟨⟩
theorem tw13267510147771200024:True:=⟨⟩
theorem tw7191455744419660376:True:=⟨⟩
theorem tw12769127236821124696:True:=⟨⟩
theorem tw15048261121198461528:True:=⟨⟩
theorem tw14176624398918483544:True:=⟨⟩
theorem tw3333446698644548216:True:=⟨⟩
theorem tw8516288146210602744:True:=⟨⟩
theorem tw8770205317985620760:True:=⟨⟩
theorem tw701333769924781912:True:=⟨⟩
theorem tw3920623390966001496:True:=⟨⟩
theorem tw10778013660560245624:True:=⟨⟩
theorem tw10860895700388868024:True:=⟨⟩
theorem tw12994019391074448376:True:=⟨⟩
theorem tw15987713032478767096:True:=⟨⟩
theorem tw17088047866570459193:True:=⟨⟩
theorem tw4065347644161347641:True:=⟨⟩
theorem tw4788038989552484473:True:=⟨⟩
theorem tw732345407407602841:True:=⟨⟩
theorem tw1588505670450824345:True:=⟨⟩
theorem tw728884934406724761:True:=⟨⟩
theorem tw15213948185873263833:True:=⟨⟩
theorem tw2603259988358896889:True:=⟨⟩
theorem tw5859118754885311737:True:=⟨⟩
theorem tw2845679848157327705:True:=⟨⟩
theorem tw18291419657060728153:True:=⟨⟩
theorem tw14006173549557618073:True:=⟨⟩
theorem tw15411387601460861337:True:=⟨⟩
theorem tw1222794163293265305:True:=⟨⟩
theorem tw11364443708160879001:True:=⟨⟩
theorem tw10784824025267889561:True:=⟨⟩
theorem tw11399449904127653305:True:=⟨⟩
theorem tw11054480109507316185:True:=⟨⟩
theorem tw2922222751358710265:True:=⟨⟩
theorem tw8317466277049474617:True:=⟨⟩
theorem tw3953601041324332601:True:=⟨⟩
theorem tw9995149164486035065:True:=⟨⟩
theorem tw12350410155528471161:True:=⟨⟩
theorem tw881544763273948857:True:=⟨⟩
theorem tw16684818696116721337:True:=⟨⟩
theorem tw2658526732547218105:True:=⟨⟩
theorem tw16772102934027710169:True:=⟨⟩
theorem tw3940546777539579641:True:=⟨⟩
theorem tw17574625026820762457:True:=⟨⟩
theorem tw17330945745186091897:True:=⟨⟩
theorem tw8081886968326746073:True:=⟨⟩
theorem tw6982297934935202809:True:=⟨⟩
theorem tw22551697357593593:True:=⟨⟩
theorem tw17047115858639842297:True:=⟨⟩
theorem tw13047593935725612058:True:=⟨⟩
theorem tw13132618709999183898:True:=⟨⟩
theorem tw16415028865518655546:True:=⟨⟩
theorem tw7854228177987924090:True:=⟨⟩
theorem tw5902613922787404954:True:=⟨⟩
theorem tw15673258824015622330:True:=⟨⟩
theorem tw3496965988886986938:True:=⟨⟩
theorem tw11953376511379268794:True:=⟨⟩
theorem tw14673209030070457562:True:=⟨⟩
theorem tw10604169790165778682:True:=⟨⟩
theorem tw541196102884509978:True:=⟨⟩
theorem tw12050417470231563642:True:=⟨⟩
theorem tw2114630138375439770:True:=⟨⟩
theorem tw5592360268479517082:True:=⟨⟩
theorem tw1147470481896660410:True:=⟨⟩
theorem tw6868836192036940282:True:=⟨⟩
theorem tw9421340871869096474:True:=⟨⟩
theorem tw7698358502638924378:True:=⟨⟩
theorem tw1600037746751723098:True:=⟨⟩
theorem tw7526368328331116154:True:=⟨⟩
theorem tw8116116954698963610:True:=⟨⟩
theorem tw5373601922739893978:True:=⟨⟩
theorem tw14960593345356199642:True:=⟨⟩
theorem tw16157073509204512506:True:=⟨⟩
theorem tw7598622570094877466:True:=⟨⟩
theorem tw11232374478483605306:True:=⟨⟩
theorem tw12394076208661396346:True:=⟨⟩
theorem tw13038990169509382042:True:=⟨⟩
theorem tw2001351230973187099:True:=⟨⟩
theorem tw1610171440888473627:True:=⟨⟩
theorem tw13534587687697041467:True:=⟨⟩
theorem tw7927469264209771579:True:=⟨⟩
theorem tw13372043803930879067:True:=⟨⟩
theorem tw12685813987229840507:True:=⟨⟩
theorem tw14137390275340422267:True:=⟨⟩
theorem tw11032806212648032379:True:=⟨⟩
theorem tw5362516397382645915:True:=⟨⟩
theorem tw14353793391729792155:True:=⟨⟩
theorem tw11672842613191775419:True:=⟨⟩
theorem tw11079593142295127227:True:=⟨⟩
theorem tw128412058910260475:True:=⟨⟩
theorem tw15675198926951892251:True:=⟨⟩
theorem tw14478148883734587675:True:=⟨⟩
theorem tw11472165163037031739:True:=⟨⟩
theorem tw4819202231147424091:True:=⟨⟩
theorem tw6767318904944593275:True:=⟨⟩
theorem tw2051048951616859547:True:=⟨⟩
theorem tw10024716035694756283:True:=⟨⟩
theorem tw13828106393651249627:True:=⟨⟩
theorem tw6848782300941138395:True:=⟨⟩
theorem tw2808349399557158395:True:=⟨⟩
theorem tw17491317419825422843:True:=⟨⟩
theorem tw5388632664720090651:True:=⟨⟩
theorem tw16007149819294483003:True:=⟨⟩
theorem tw14120982254508448379:True:=⟨⟩
theorem tw3085183777334472315:True:=⟨⟩
theorem tw2068664650715991707:True:=⟨⟩
theorem tw518976864732996251:True:=⟨⟩
theorem tw9087110039335098043:True:=⟨⟩
theorem tw9719896912496429819:True:=⟨⟩
theorem tw17177331786930743035:True:=⟨⟩
theorem tw1792636949448641307:True:=⟨⟩
theorem tw4299596416071116603:True:=⟨⟩
theorem tw3878383114103592795:True:=⟨⟩
theorem tw461538923250603899:True:=⟨⟩
theorem tw7492773218913965947:True:=⟨⟩
theorem tw5189956158058943387:True:=⟨⟩
theorem tw1582976572388173787:True:=⟨⟩
theorem tw13770079208771991547:True:=⟨⟩
theorem tw16487816990975572028:True:=⟨⟩
theorem tw1118553966540926140:True:=⟨⟩
theorem tw15634565183472343292:True:=⟨⟩
theorem tw13958120312559236348:True:=⟨⟩
theorem tw13365295217650922812:True:=⟨⟩
theorem tw2468469042602058204:True:=⟨⟩
theorem tw4817003022231809500:True:=⟨⟩
theorem tw15615420239508185596:True:=⟨⟩
theorem tw12591134339009171964:True:=⟨⟩
theorem tw3120244678497632796:True:=⟨⟩
theorem tw16091413853298234908:True:=⟨⟩
theorem tw7085514621470718492:True:=⟨⟩
theorem tw2887051446865420828:True:=⟨⟩
theorem tw14346525914970070588:True:=⟨⟩
theorem tw7578210074245671484:True:=⟨⟩
theorem tw10210669037155785340:True:=⟨⟩
theorem tw1699103778626983548:True:=⟨⟩
theorem tw3451239065008710300:True:=⟨⟩
theorem tw17599816209265215132:True:=⟨⟩
theorem tw2327210489368252092:True:=⟨⟩
theorem tw13262116225945230012:True:=⟨⟩
theorem tw2252305205657439004:True:=⟨⟩
theorem tw689954013368505116:True:=⟨⟩
theorem tw4182648748547736412:True:=⟨⟩
theorem tw6019021122589006684:True:=⟨⟩
theorem tw13160604113216922460:True:=⟨⟩
theorem tw1194904439430580092:True:=⟨⟩
theorem tw17335414052712997756:True:=⟨⟩
theorem tw4402725079659364252:True:=⟨⟩
theorem tw1331086792558400476:True:=⟨⟩
theorem tw14852329139284432860:True:=⟨⟩
theorem tw11117797201346649052:True:=⟨⟩
theorem tw17986969038992634876:True:=⟨⟩
theorem tw18219297243305740317:True:=⟨⟩
theorem tw13289513938125300765:True:=⟨⟩
theorem tw922143313871775805:True:=⟨⟩
theorem tw15199589371867527261:True:=⟨⟩
theorem tw17605410148220273821:True:=⟨⟩
theorem tw4363365295628954845:True:=⟨⟩
theorem tw15992342658441690333:True:=⟨⟩
theorem tw3876449026389394717:True:=⟨⟩
theorem tw833173182276230429:True:=⟨⟩
theorem tw5433107678231618845:True:=⟨⟩
theorem tw17714235663813219645:True:=⟨⟩
theorem tw2457190517430149469:True:=⟨⟩
theorem tw2855845756224970109:True:=⟨⟩
theorem tw16868993833207775613:True:=⟨⟩
theorem tw4478177076189095293:True:=⟨⟩
theorem tw6924109203229866365:True:=⟨⟩
theorem tw9390866547671247325:True:=⟨⟩
theorem tw10792051664901133789:True:=⟨⟩
theorem tw14462709497994964445:True:=⟨⟩
theorem tw13532847315355080253:True:=⟨⟩
theorem tw18330183385023645277:True:=⟨⟩
theorem tw7763873220885509757:True:=⟨⟩
theorem tw3704167492566942397:True:=⟨⟩
theorem tw13531707123254989501:True:=⟨⟩
theorem tw526207354791536317:True:=⟨⟩
theorem tw15967140613478806237:True:=⟨⟩
theorem tw15578025631644234493:True:=⟨⟩
theorem tw845060206244984605:True:=⟨⟩
theorem tw8226494294326810461:True:=⟨⟩
theorem tw15833661619300960221:True:=⟨⟩
theorem tw12509009523430927325:True:=⟨⟩
theorem tw9277588360372424766:True:=⟨⟩
theorem tw3182187488490625086:True:=⟨⟩
theorem tw16194383521188589630:True:=⟨⟩
theorem tw11631869004601391166:True:=⟨⟩
theorem tw3386092968808520798:True:=⟨⟩
theorem tw7746578258024575070:True:=⟨⟩
theorem tw9673543361469618366:True:=⟨⟩
theorem tw6123773746684550334:True:=⟨⟩
theorem tw6838551448383532254:True:=⟨⟩
theorem tw16169374299450900766:True:=⟨⟩
theorem tw18087722134493236510:True:=⟨⟩
theorem tw4643362625855044894:True:=⟨⟩
theorem tw13638418597567726942:True:=⟨⟩
theorem tw16259696140248634718:True:=⟨⟩
theorem tw4172343393113369950:True:=⟨⟩
theorem tw17681399029576232318:True:=⟨⟩
theorem tw3419581819265744254:True:=⟨⟩
theorem tw13431754692932380062:True:=⟨⟩
theorem tw8664936974563722654:True:=⟨⟩
theorem tw8312999807965096350:True:=⟨⟩
theorem tw17901334829092211166:True:=⟨⟩
theorem tw8210421348078903774:True:=⟨⟩
theorem tw17739348878880393726:True:=⟨⟩
theorem tw13293453174229064190:True:=⟨⟩
theorem tw2329189449893159454:True:=⟨⟩
theorem tw9533747618267967006:True:=⟨⟩
theorem tw3763122126050802206:True:=⟨⟩
theorem tw9763420282994701918:True:=⟨⟩
theorem tw16301592386811335294:True:=⟨⟩
theorem tw7510230149288206974:True:=⟨⟩
theorem tw17312999752573914782:True:=⟨⟩
theorem tw10393663353328721598:True:=⟨⟩
theorem tw12744807935193187038:True:=⟨⟩
theorem tw8047900516022102942:True:=⟨⟩
theorem tw14620637471214046174:True:=⟨⟩
theorem tw6423634429210846174:True:=⟨⟩
theorem tw14955159897011116063:True:=⟨⟩
theorem tw6931407450589930559:True:=⟨⟩
theorem tw12070051907170230399:True:=⟨⟩
theorem tw3530705653197291679:True:=⟨⟩
theorem tw6761669909254768831:True:=⟨⟩
theorem tw4478166936697009375:True:=⟨⟩
theorem tw7712595579559962911:True:=⟨⟩
theorem tw5505332120971382143:True:=⟨⟩
theorem tw825126770350376351:True:=⟨⟩
theorem tw2284436838669742495:True:=⟨⟩
theorem tw9420132969298855359:True:=⟨⟩
theorem tw15277330632498426303:True:=⟨⟩
theorem tw12611767792052310623:True:=⟨⟩
theorem tw2781682124601125471:True:=⟨⟩
theorem tw10543509907540572799:True:=⟨⟩
theorem tw5245234834050458271:True:=⟨⟩
theorem tw442638132926106271:True:=⟨⟩
theorem tw7062935652884303519:True:=⟨⟩
theorem tw14400467628812073631:True:=⟨⟩
theorem tw8589211134812392127:True:=⟨⟩
theorem tw3309697970292668127:True:=⟨⟩
theorem tw7006195865600381663:True:=⟨⟩
theorem tw7519716089354478335:True:=⟨⟩
theorem tw2595994805191909183:True:=⟨⟩
theorem tw9077708301081682751:True:=⟨⟩
theorem tw1051681510052472703:True:=⟨⟩
theorem tw9093226242106196354:True:=⟨⟩
theorem tw17718582698147650981:True:=⟨⟩
theorem tw2382477479694899181:True:=⟨⟩
theorem tw16940480111569310127:True:=⟨⟩
theorem tw6411448116228961071:True:=⟨⟩
theorem tw5313304008227124433:True:=⟨⟩
theorem tw3972733245907303379:True:=⟨⟩
theorem tw8241012514936069687:True:=⟨⟩
theorem tw17503535016915526970:True:=⟨⟩
theorem tw2261148859079835816:True:=⟨⟩
end hd
set_option Elab.async true
set_option maxRecDepth 100000 in
set_option maxHeartbeats 8000000 in
theorem hd : PySem.Challenge.rw_sa0541_01.Holds := by
  w_on
  o_law
  o_head (kHook Kt Ka (fun _ => by kernel_rfl))
  case hw => w_witness2
  exact law_walk rfl
end Mine
set_option Elab.async false
theorem PySem.Challenge.cw_sa0541_01_holds : PySem.Challenge.rw_sa0541_01.Holds := by
  exact Mine.hd
