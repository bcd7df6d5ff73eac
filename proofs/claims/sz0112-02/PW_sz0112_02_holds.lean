import PyProof.Rows.All
import Wide.All
import OpenK.AllK
import Wide.FinOn
import PySem.Challenge.RW_sz0112_02
set_option Elab.async false
set_option maxRecDepth 100000
/-! Core -/
set_option genSizeOf false
namespace Mine
open PySem

/-! values, keys, the abstract heap -/
inductive V where
  | none
  | bool (b : Bool)
  | int (i : Int)
  | str (n : Nat)
  | tup (l : List V)
  | ref (n : Nat)

inductive Key where
  | s (n : Nat)
  | i (n : Int)
  deriving DecidableEq

inductive MO where
  | list (l : List V)
  | dict (l : List (Key × V))
  /-- a list from outside, never written -/
  | fz (l : List V)

abbrev AH := List MO

/-! texts as numbers: base 256, the first sign lowest -/
noncomputable def decL : Nat → Nat → List Nat
  | 0, _ => []
  | f + 1, n => if n = 0 then [] else n % 256 :: decL f (n / 256)
noncomputable def dec (n : Nat) : Str := ⟨(decL n n).toArray⟩
noncomputable def encL : List Nat → Nat
  | [] => 0
  | d :: r => d + 256 * encL r
noncomputable def cat (a b : Nat) : Nat := encL (decL a a ++ decL b b)

set_option genInjectivity false
/-! the compact form of the text -/
inductive Tgt where
  | one (i : Nat)
  | many (l : List Nat)
inductive Src where
  | plain | range | enum
inductive Bi where
  | len | abs | sorted | tuple | list | items | dict | str
inductive Me where
  | get | pop | append | pop0 | pop1 | count

mutual
inductive PE where
  | c (v : V)
  | var (i : Nat)
  | and (a b : PE)
  | or (a b : PE)
  | not (a : PE)
  | ite (c a b : PE)
  | bin (op : Operator) (a b : PE)
  | cmp (op : CmpOp) (a b : PE)
  | cmp2 (o1 o2 : CmpOp) (a b c : PE)
  | tup (es : PEs)
  | list (es : PEs)
  | dict (kvs : PEds)
  | sub (a i : PE)
  | slice (a lo hi : PE)
  | rev (a : PE)
  | gsub (g : Nat) (i : PE)
  | gin (i : PE) (g : Nat)
  | call (f : Nat) (args : PEs)
  | fn (b : Bi) (a : PE)
  | meth (m : Me) (o : PE) (args : PEs)
  | lcomp (k : Nat) (fr : List (Nat × Nat)) (t : Tgt) (src : Src) (it : PE) (cond : PE) (elt : PE)
  | dcomp (k : Nat) (fr : List (Nat × Nat)) (t : Nat) (it : PE) (cond : PE) (key val : PE)
inductive PEs where
  | nil
  | cons (e : PE) (es : PEs)
inductive PEds where
  | nil
  | cons (k v : PE) (r : PEds)
end

/-- the places of a tuple target: names and items -/
inductive PTs where
  | nil
  | one (i : Nat) (r : PTs)
  | sub (a i : PE) (r : PTs)

mutual
inductive PS where
  | stuck
  | asg (t : Tgt) (e : PE)
  | asgm (ts : PTs) (e : PE)
  | asub (a i e : PE)
  | expr (e : PE)
  | ret (e : PE)
  | ite (c : PE) (a b : PSs)
  | for_ (t : Tgt) (src : Src) (it : PE) (body : PSs)
  | while_ (c : PE) (body : PSs)
inductive PSs where
  | nil
  | cons (s : PS) (r : PSs)
end

set_option genInjectivity true
/-! small steps, each with the rule that takes it apart -/
section
variable {α β γ : Type}
noncomputable def bnd (o : Option (α × β)) (f : α → β → Option γ) : Option γ := match o with
  | some p => f p.1 p.2
  | none => none
theorem bnd_elim {o : Option (α × β)} {f : α → β → Option γ} {r : γ} {P : Prop} (h : bnd o f = some r) (k : ∀ a b, o = some (a, b) → f a b = some r → P) : P := by
  cases o with
  | none => cases h
  | some p => exact k p.1 p.2 rfl h
noncomputable def obn (o : Option α) (f : α → Option γ) : Option γ := match o with
  | some a => f a
  | none => none
theorem obn_elim {o : Option α} {f : α → Option γ} {r : γ} {P : Prop} (h : obn o f = some r) (k : ∀ a, o = some a → f a = some r → P) : P := by
  cases o with
  | none => cases h
  | some p => exact k p rfl h
noncomputable def gua (b : Bool) (o : Option γ) : Option γ := cond b o none
theorem gua_elim {b : Bool} {o : Option γ} {r : γ} {P : Prop} (h : gua b o = some r) (k : b = true → o = some r → P) : P := by
  cases b with
  | false => cases h
  | true => exact k rfl h
theorem gud_elim {p : Prop} [Decidable p] {o : Option γ} {r : γ} {P : Prop} (h : gua (decide p) o = some r) (k : p → o = some r → P) : P :=
  gua_elim h fun g => k (of_decide_eq_true g)
theorem cond_elim {b : Bool} {x y : Option γ} {r : γ} {P : Prop} (h : cond b x y = some r) (k1 : b = true → x = some r → P) (k0 : b = false → y = some r → P) : P := by
  cases b with
  | true => exact k1 rfl h
  | false => exact k0 rfl h
noncomputable def boolV (v : V) : Option Bool := match v with
  | .bool b => some b
  | _ => none
noncomputable def brn (v : V) (t e : Option γ) : Option γ := obn (boolV v) fun b => cond b t e
theorem brn_elim {v : V} {t e : Option γ} {r : γ} {P : Prop} (h : brn v t e = some r) (k1 : boolV v = some true → t = some r → P) (k0 : boolV v = some false → e = some r → P) : P :=
  obn_elim h fun b hb h' => by cases b with | true => exact k1 hb h' | false => exact k0 hb h'
noncomputable def onInt (v : V) (f : Int → Option γ) : Option γ := match v with
  | .int i => f i
  | _ => none
noncomputable def onStr (v : V) (f : Nat → Option γ) : Option γ := match v with
  | .str i => f i
  | _ => none
noncomputable def onRef (v : V) (f : Nat → Option γ) : Option γ := match v with
  | .ref i => f i
  | _ => none
noncomputable def caI (v : V) (f : Int → Option γ) (e : Option γ) : Option γ := match v with
  | .int i => f i
  | _ => e
noncomputable def caS (v : V) (f : Nat → Option γ) (e : Option γ) : Option γ := match v with
  | .str i => f i
  | _ => e
noncomputable def caT (v : V) (f : List V → Option γ) (e : Option γ) : Option γ := match v with
  | .tup l => f l
  | _ => e
noncomputable def caR (v : V) (f : Nat → Option γ) (e : Option γ) : Option γ := match v with
  | .ref l => f l
  | _ => e
noncomputable def lst (H : AH) (j : Nat) : Option (List V) := match H[j]? with
  | some (.list l) => some l
  | _ => none
noncomputable def dct (H : AH) (j : Nat) : Option (List (Key × V)) := match H[j]? with
  | some (.dict l) => some l
  | _ => none
noncomputable def frz (H : AH) (j : Nat) : Option (List V) := match H[j]? with
  | some (.fz l) => some l
  | _ => none
theorem lst_eq {H : AH} {j : Nat} {l : List V} (h : lst H j = some l) : H[j]? = some (.list l) := by
  unfold lst at h
  cases q : H[j]? with
  | none => rw [q] at h; cases h
  | some m => rw [q] at h; cases m with
    | list m => injection h with h; subst h; rfl
    | dict m => cases h
    | fz m => cases h
theorem dct_eq {H : AH} {j : Nat} {l : List (Key × V)} (h : dct H j = some l) : H[j]? = some (.dict l) := by
  unfold dct at h
  cases q : H[j]? with
  | none => rw [q] at h; cases h
  | some m => rw [q] at h; cases m with
    | dict m => injection h with h; subst h; rfl
    | list m => cases h
    | fz m => cases h
theorem frz_eq {H : AH} {j : Nat} {l : List V} (h : frz H j = some l) : H[j]? = some (.fz l) := by
  unfold frz at h
  cases q : H[j]? with
  | none => rw [q] at h; cases h
  | some m => rw [q] at h; cases m with
    | fz m => injection h with h; subst h; rfl
    | dict m => cases h
    | list m => cases h
theorem lst_is {H : AH} {j : Nat} {l : List V} (h : H[j]? = some (.list l)) : lst H j = some l := by unfold lst; rw [h]
theorem dct_is {H : AH} {j : Nat} {l : List (Key × V)} (h : H[j]? = some (.dict l)) : dct H j = some l := by unfold dct; rw [h]
theorem frz_is {H : AH} {j : Nat} {l : List V} (h : H[j]? = some (.fz l)) : frz H j = some l := by unfold frz; rw [h]
noncomputable def onL (H : AH) (v : V) (f : Nat → List V → Option γ) : Option γ := onRef v fun j => obn (lst H j) (f j)
noncomputable def onD (H : AH) (v : V) (f : Nat → List (Key × V) → Option γ) : Option γ := onRef v fun j => obn (dct H j) (f j)
noncomputable def caL (H : AH) (v : V) (f : Nat → List V → Option γ) (e : Option γ) : Option γ := caR v (fun j => match lst H j with
  | some l => f j l
  | none => e) e
/-- what a value is, in each case -/
theorem onInt_elim {P : V → Prop} {v : V} {f : Int → Option γ} {r : γ} (h : onInt v f = some r) (k : ∀ i, f i = some r → P (.int i)) : P v := by
  cases v with
  | int i => exact k i h
  | _ => cases h
theorem onStr_elim {P : V → Prop} {v : V} {f : Nat → Option γ} {r : γ} (h : onStr v f = some r) (k : ∀ i, f i = some r → P (.str i)) : P v := by
  cases v with
  | str i => exact k i h
  | _ => cases h
theorem onRef_elim {P : V → Prop} {v : V} {f : Nat → Option γ} {r : γ} (h : onRef v f = some r) (k : ∀ i, f i = some r → P (.ref i)) : P v := by
  cases v with
  | ref i => exact k i h
  | _ => cases h
theorem caI_elim {P : V → Prop} {v : V} {f : Int → Option γ} {e : Option γ} {r : γ} (h : caI v f e = some r) (k : ∀ i, f i = some r → P (.int i)) (k' : e = some r → P v) : P v := by
  cases v with
  | int i => exact k i h
  | _ => exact k' h
theorem caS_elim {P : V → Prop} {v : V} {f : Nat → Option γ} {e : Option γ} {r : γ} (h : caS v f e = some r) (k : ∀ i, f i = some r → P (.str i)) (k' : e = some r → P v) : P v := by
  cases v with
  | str i => exact k i h
  | _ => exact k' h
theorem caT_elim {P : V → Prop} {v : V} {f : List V → Option γ} {e : Option γ} {r : γ} (h : caT v f e = some r) (k : ∀ i, f i = some r → P (.tup i)) (k' : e = some r → P v) : P v := by
  cases v with
  | tup i => exact k i h
  | _ => exact k' h
theorem caR_elim {P : V → Prop} {v : V} {f : Nat → Option γ} {e : Option γ} {r : γ} (h : caR v f e = some r) (k : ∀ i, f i = some r → P (.ref i)) (k' : e = some r → P v) : P v := by
  cases v with
  | ref i => exact k i h
  | _ => exact k' h
theorem onL_elim {P : V → Prop} {H : AH} {v : V} {f : Nat → List V → Option γ} {r : γ} (h : onL H v f = some r) (k : ∀ j l, H[j]? = some (.list l) → f j l = some r → P (.ref j)) : P v :=
  onRef_elim h fun j h => obn_elim h fun l hl h => k j l (lst_eq hl) h
theorem onD_elim {P : V → Prop} {H : AH} {v : V} {f : Nat → List (Key × V) → Option γ} {r : γ} (h : onD H v f = some r) (k : ∀ j l, H[j]? = some (.dict l) → f j l = some r → P (.ref j)) : P v :=
  onRef_elim h fun j h => obn_elim h fun l hl h => k j l (dct_eq hl) h
theorem caL_elim {P : V → Prop} {H : AH} {v : V} {f : Nat → List V → Option γ} {e : Option γ} {r : γ} (h : caL H v f e = some r) (k : ∀ j l, H[j]? = some (.list l) → f j l = some r → P (.ref j)) (k' : e = some r → P v) : P v := by
  cases v with
  | ref j =>
    replace h : (match lst H j with | some l => f j l | none => e) = some r := h
    cases q : lst H j with
    | none => rw [q] at h; exact k' h
    | some l => rw [q] at h; exact k j l (lst_eq q) h
  | _ => exact k' h
noncomputable def caO (o : Option α) (e : γ) (f : α → γ) : γ := match o with
  | none => e
  | some a => f a
noncomputable def caC (l : List α) (e : γ) (f : α → List α → γ) : γ := match l with
  | [] => e
  | a :: r => f a r
end

noncomputable def keyOf (v : V) : Option Key := match v with
  | .str n => some (.s n)
  | .int i => some (.i i)
  | _ => none

noncomputable def getK (l : List (Key × V)) (k : Key) : Option V := (l.find? fun p => decide (p.1 = k)).map (·.2)
noncomputable def setK (l : List (Key × V)) (k : Key) (v : V) : List (Key × V) :=
  if l.any (fun p => decide (p.1 = k)) then l.map (fun p => if p.1 = k then (p.1, v) else p) else l ++ [(k, v)]
noncomputable def delK (l : List (Key × V)) (k : Key) : List (Key × V) := l.filter fun p => decide (p.1 ≠ k)
noncomputable def keyV (k : Key) : V := match k with
  | .s n => .str n
  | .i n => .int n

/-- ==, with objects looked into; the number bounds the depth; none: not reckoned -/
noncomputable def eqVs (f : V → V → Option Bool) : List V → List V → Option Bool
  | [], m => some m.isEmpty
  | a :: r, m => caC m (some false) fun b t => obn (f a b) fun x => obn (eqVs f r t) fun y => some (x && y)
noncomputable def eqDs (f : V → V → Option Bool) (m : List (Key × V)) : List (Key × V) → Option Bool
  | [] => some true
  | p :: r => caO (getK m p.1) (some false) fun w => obn (f p.2 w) fun x => obn (eqDs f m r) fun y => some (x && y)
noncomputable def eqL (f : V → V → Option Bool) (l m : List V) : Option Bool := if l.length = m.length then eqVs f l m else some false
noncomputable def eqD (f : V → V → Option Bool) (l m : List (Key × V)) : Option Bool := if l.length = m.length then eqDs f m l else some false
noncomputable def eqP (t : List V → List V → Option Bool) (a b : V) : Option Bool := match a with
  | .none => none
  | .bool x => obn (boolV b) fun y => some (x == y)
  | .int x => caI b (fun y => some (x == y)) (onStr b fun _ => some false)
  | .str x => caI b (fun _ => some false) (onStr b fun y => some (x == y))
  | .tup l => caT b (t l) none
  | .ref _ => none
noncomputable def eqB (t : List V → List V → Option Bool) (a b : V) : Option Bool := caR a (fun i => onRef b fun j => gua (decide (i = j)) (some true)) (eqP t a b)
noncomputable def eqV (H : AH) : Nat → V → V → Option Bool
  | 0 => eqB fun _ _ => none
  | n + 1 => eqB (eqVs (eqV H n))
/-- the operator itself does not ask whether it is one object -/
noncomputable def isNone (v : V) : Bool := match v with
  | .none => true
  | _ => false
noncomputable def eqT (H : AH) (a b : V) : Option Bool :=
  cond (isNone a && isNone b) (some true) <| caR a (fun _ => caL H a (fun _ l => onL H b fun _ m => eqL (eqV H 64) l m) (onD H a fun _ l => onD H b fun _ m => eqD (eqV H 64) l m)) (eqP (eqVs (eqV H 63)) a b)

/-- a word or a number among others -/
noncomputable def inV (x : V) : List V → Option Bool
  | [] => some false
  | y :: r => obn (eqP (fun _ _ => none) y x) fun a => obn (inV x r) fun b => some (a || b)
noncomputable def intT (f : Int → Int → Bool) (a b : V) : Option Bool := onInt a fun x => onInt b fun y => some (f x y)
noncomputable def cmpV (op : CmpOp) (a b : V) (H : AH) : Option Bool := match op with
  | .Eq => eqT H a b
  | .NotEq => obn (eqT H a b) fun x => some (!x)
  | .Lt => intT (fun x y => decide (x < y)) a b
  | .LtE => intT (fun x y => decide (x ≤ y)) a b
  | .Gt => intT (fun x y => decide (y < x)) a b
  | .GtE => intT (fun x y => decide (y ≤ x)) a b
  | .Is => none
  | .IsNot => gua (isNone b) (some (!isNone a))
  | .In => caT b (inV a) (onD H b fun _ l => obn (keyOf a) fun k => some (getK l k).isSome)
  | .NotIn => none

noncomputable def small (x : Int) : Bool := decide (x.natAbs < 2 ^ 60)
noncomputable def lineN : Nat := 2 ^ 20

noncomputable def addV (a b : V) (H : AH) : Option (V × AH) :=
  caI a (fun x => onInt b fun y => some (.int (x + y), H)) <|
  caS a (fun x => onStr b fun y => gua (decide ((decL x x).length + (decL y y).length ≤ lineN)) (some (.str (cat x y), H))) <|
  caT a (fun x => caT b (fun y => gua (decide (x.length + y.length ≤ lineN)) (some (.tup (x ++ y), H))) none) <|
  onL H a fun _ l => onL H b fun _ m => gua (decide (l.length + m.length ≤ lineN)) (some (.ref H.length, H ++ [.list (l ++ m)]))
noncomputable def subI (a b : V) (H : AH) : Option (V × AH) := onInt a fun x => onInt b fun y => some (.int (x - y), H)
noncomputable def modI (a b : V) (H : AH) : Option (V × AH) := onInt a fun x => onInt b fun y => gua (decide (y ≠ 0)) (some (.int (x.fmod y), H))
noncomputable def mulV (a b : V) (H : AH) : Option (V × AH) :=
  caI a (fun x => onInt b fun y => gua (small x) (some (.int (x * y), H))) <|
  caT a (fun l => onInt b fun y => gua (decide (0 ≤ y ∧ y ≤ 1000 ∧ y.toNat * l.length ≤ lineN)) (some (.tup (List.replicate y.toNat l).flatten, H))) none
noncomputable def divI (a b : V) (H : AH) : Option (V × AH) := onInt a fun x => onInt b fun y => gua (decide (y ≠ 0 ∧ y.natAbs < 1000000000)) (some (.int (x.fdiv y), H))
noncomputable def powI (f : Int → Int → Int) (a b : V) (H : AH) : Option (V × AH) := onInt a fun x => onInt b fun y => gua (decide (0 ≤ y ∧ y ≤ 1000 ∧ x.natAbs < 2 ^ 60)) (some (.int (f x y), H))
noncomputable def andI (a b : V) (H : AH) : Option (V × AH) := onInt a fun x => onInt b fun y => some (.int (Builtin.bitAnd x y), H)
noncomputable def binV (op : Operator) (a b : V) (H : AH) : Option (V × AH) := match op with
  | .Add => addV a b H
  | .Sub => subI a b H
  | .Mult => mulV a b H
  | .Mod => modI a b H
  | .FloorDiv => divI a b H
  | .Pow => powI (fun x y => x ^ y.toNat) a b H
  | .LShift => powI (fun x y => x * 2 ^ y.toNat) a b H
  | .BitAnd => andI a b H
  | _ => none

noncomputable def subV (a i : V) (H : AH) : Option V :=
  caT a (fun l => onInt i fun k => gua (decide (0 ≤ k)) l[k.toNat]?) <|
  caL H a (fun _ l => onInt i fun k => gua (decide (0 ≤ k)) l[k.toNat]?) <|
  onD H a fun _ l => obn (keyOf i) fun k => getK l k

/-- the cut: [a:] of a tuple, [:b] of the list from outside -/
noncomputable def sliceV (a lo hi : V) (H : AH) : Option (V × AH) :=
  caT a (fun l => gua (isNone hi) <| onInt lo fun k => gua (decide (0 ≤ k ∧ small k = true)) (some (.tup (l.drop k.toNat), H))) <|
  onRef a fun j => obn (frz H j) fun l => gua (isNone lo) <| onInt hi fun k => gua (decide (0 ≤ k ∧ small k = true)) (some (.ref H.length, H ++ [.list (l.take k.toNat)]))

noncomputable def intsOf : List V → Option (List Int)
  | [] => some []
  | a :: r => onInt a fun i => obn (intsOf r) fun m => some (i :: m)
noncomputable def insI (x : Int) : List Int → List Int
  | [] => [x]
  | y :: r => if x ≤ y then x :: y :: r else y :: insI x r
noncomputable def sortI (l : List Int) : List Int := l.foldr insI []

noncomputable def pairOf (v : V) : Option (Key × V) := caT v (fun l => caC l none fun k r => caC r none fun v r => gua r.isEmpty (obn (keyOf k) fun k => some (k, v))) none
noncomputable def pairsOf : List V → Option (List (Key × V))
  | [] => some []
  | a :: r => obn (pairOf a) fun p => obn (pairsOf r) fun ps => some (p :: ps)

noncomputable def lenV (a : V) (H : AH) : Option (V × AH) := caT a (fun l => some (.int l.length, H)) (onL H a fun _ l => some (.int l.length, H))
noncomputable def absV (a : V) (H : AH) : Option (V × AH) := onInt a fun x => some (.int (if x < 0 then -x else x), H)
noncomputable def sortedV (a : V) (H : AH) : Option (V × AH) := onL H a fun _ l => gua (decide (l.length < 64)) (obn (intsOf l) fun ns => some (.ref H.length, H ++ [.list ((sortI ns).map .int)]))
noncomputable def tupleV (a : V) (H : AH) : Option (V × AH) := onL H a fun _ l => some (.tup l, H)
noncomputable def listV (a : V) (H : AH) : Option (V × AH) := caT a (fun l => some (.ref H.length, H ++ [.list l])) (onL H a fun _ l => some (.ref H.length, H ++ [.list l]))
noncomputable def strV (a : V) (H : AH) : Option (V × AH) := onInt a fun x => gua (decide (0 ≤ x ∧ x < 3)) (some (.str (48 + x.toNat), H))
noncomputable def itemsV (a : V) (H : AH) : Option (V × AH) := onD H a fun _ l => some (.ref H.length, H ++ [.list (l.map fun p => .tup [keyV p.1, p.2])])
noncomputable def dictV (a : V) (H : AH) : Option (V × AH) := onL H a fun _ l => obn (pairsOf l) fun ps => some (.ref H.length, H ++ [.dict (ps.foldl (fun d p => setK d p.1 p.2) [])])
noncomputable def fnV (b : Bi) (a : V) (H : AH) : Option (V × AH) := match b with
  | .len => lenV a H
  | .abs => absV a H
  | .sorted => sortedV a H
  | .tuple => tupleV a H
  | .list => listV a H
  | .items => itemsV a H
  | .dict => dictV a H
  | .str => strV a H

noncomputable def as1 {γ : Type} (l : List V) (f : V → Option γ) : Option γ := caC l none fun a r => gua r.isEmpty (f a)
noncomputable def as2 {γ : Type} (l : List V) (f : V → V → Option γ) : Option γ := caC l none fun a r => as1 r (f a)
noncomputable def getV (o : V) (as : List V) (H : AH) : Option (V × AH) := onD H o fun _ l => as2 as fun k d => obn (keyOf k) fun k => some ((getK l k).getD d, H)
noncomputable def popV (o : V) (as : List V) (H : AH) : Option (V × AH) := onD H o fun j l => as2 as fun k d => obn (keyOf k) fun k => caO (getK l k) (some (d, H)) fun v => some (v, H.set j (.dict (delK l k)))
noncomputable def appV (o : V) (as : List V) (H : AH) : Option (V × AH) := onL H o fun j l => as1 as fun v => gua (decide (l.length + 1 ≤ lineN)) (some (.none, H.set j (.list (l ++ [v]))))
noncomputable def pop0V (o : V) (as : List V) (H : AH) : Option (V × AH) := onL H o fun j l => as1 as fun k => onInt k fun k => gua (decide (k = 0)) (caC l none fun v r => some (v, H.set j (.list r)))
noncomputable def pop1V (o : V) (as : List V) (H : AH) : Option (V × AH) := onD H o fun j l => as1 as fun k => obn (keyOf k) fun k => obn (getK l k) fun v => some (v, H.set j (.dict (delK l k)))
noncomputable def countV (o : V) (as : List V) (H : AH) : Option (V × AH) := caT o (fun l => as1 as fun x => onInt x fun x => obn (intsOf l) fun ns => some (.int (ns.filter (· == x)).length, H)) none
noncomputable def methV (m : Me) (o : V) (as : List V) (H : AH) : Option (V × AH) := match m with
  | .get => getV o as H
  | .pop => popV o as H
  | .append => appV o as H
  | .pop0 => pop0V o as H
  | .pop1 => pop1V o as H
  | .count => countV o as H

/-- the method's owner, as it was when the method was looked up -/
noncomputable def recOk (m : Me) (x : V) (H : AH) : Option Unit := match m with
  | .append => onL H x fun _ _ => some ()
  | .pop0 => onL H x fun _ _ => some ()
  | .count => caT x (fun _ => some ()) none
  | _ => onD H x fun _ _ => some ()

noncomputable def storeV (a i v : V) (H : AH) : Option AH :=
  caL H a (fun j l => onInt i fun k => gua (decide (0 ≤ k ∧ k.toNat < l.length)) (some (H.set j (.list (l.set k.toNat v))))) <|
  onD H a fun j l => obn (keyOf i) fun k => gua (decide (l.length + 1 ≤ lineN)) (some (H.set j (.dict (setK l k v))))

abbrev Loc := List (Option V)
noncomputable def putV (t : Tgt) (v : V) (ρ : Loc) : Option Loc := match t with
  | .one i => gua (decide (i < ρ.length)) (some (ρ.set i (some v)))
  | .many is => caT v (fun l => gua (decide (is.length = l.length ∧ is.all (· < ρ.length) = true)) (some ((is.zip l).foldl (fun r p => r.set p.1 (some p.2)) ρ))) none

inductive Fl where
  | next
  | ret (v : V)

noncomputable def frameOf (k : Nat) (fr : List (Nat × Nat)) (ρ : Loc) : Loc :=
  fr.foldl (fun r p => r.set p.1 (ρ.getD p.2 none)) (List.replicate k none)

/-! a loop over given items; over a list that may be written meanwhile -/
noncomputable def thn (o : Option (Fl × Loc × AH)) (k : Loc → AH → Option (Fl × Loc × AH)) : Option (Fl × Loc × AH) := obn o fun p => match p.1 with
  | .next => k p.2.1 p.2.2
  | .ret v => some (.ret v, p.2.1, p.2.2)
theorem thn_elim {o : Option (Fl × Loc × AH)} {k : Loc → AH → Option (Fl × Loc × AH)} {fl : Fl} {ρ' : Loc} {H' : AH} {P : Prop} (h : thn o k = some (fl, ρ', H'))
    (k1 : ∀ ρ1 H1, o = some (.next, ρ1, H1) → k ρ1 H1 = some (fl, ρ', H') → P) (k2 : ∀ v, fl = .ret v → o = some (.ret v, ρ', H') → P) : P :=
  obn_elim h fun p hp h => by
    obtain ⟨f, ρ1, H1⟩ := p
    cases f with
    | next => exact k1 ρ1 H1 hp h
    | ret v =>
      replace h := Option.some.inj h
      injection h with h1 h2
      injection h2 with h2 h3
      exact k2 v h1.symm (by rw [hp]; subst h2 h3; rfl)
noncomputable def forI (run : V → Loc → AH → Option (Fl × Loc × AH)) : List V → Loc → AH → Option (Fl × Loc × AH)
  | [], ρ, H => some (.next, ρ, H)
  | v :: r, ρ, H => thn (run v ρ H) (forI run r)
noncomputable def forL (run : V → Loc → AH → Option (Fl × Loc × AH)) (j : Nat) : Nat → Nat → Loc → AH → Option (Fl × Loc × AH)
  | 0, _, _, _ => none
  | n + 1, i, ρ, H => obn (lst H j) fun l => caO l[i]? (some (.next, ρ, H)) fun v => thn (run v ρ H) (forL run j n (i + 1))
noncomputable def rangeI (n : Int) : List V := (List.range n.toNat).map fun (i : Nat) => V.int (i : Int)
noncomputable def enumI (l : List V) : List V := (List.range l.length).zipWith (fun (i : Nat) v => .tup [.int (i : Int), v]) l
/-- a comprehension's items: each turn gives none or one -/
noncomputable def compI {β : Type} (run : V → AH → Option (Option β × AH)) : List V → AH → Option (List β × AH)
  | [], H => some ([], H)
  | v :: r, H => bnd (run v H) fun y H' => bnd (compI run r H') fun ys H'' => some (y.toList ++ ys, H'')
noncomputable def compL {β : Type} (run : V → AH → Option (Option β × AH)) (j : Nat) : Nat → Nat → AH → Option (List β × AH)
  | 0, _, _ => none
  | n + 1, i, H => obn (lst H j) fun l => caO l[i]? (some ([], H)) fun v => bnd (run v H) fun y H' => bnd (compL run j n (i + 1) H') fun ys H'' => some (y.toList ++ ys, H'')
noncomputable def whileN (test : Loc → AH → Option (V × AH)) (body : Loc → AH → Option (Fl × Loc × AH)) : Nat → Loc → AH → Option (Fl × Loc × AH)
  | 0, _, _ => none
  | n + 1, ρ, H => bnd (test ρ H) fun v H1 => brn v (thn (body ρ H1) (whileN test body n)) (some (.next, ρ, H1))

abbrev Calls := Nat → List V → AH → Option (V × AH)
abbrev GTab := Nat → Option (List (Key × V))

/-! expressions that write nothing and make no list or dict -/
noncomputable def calmOp (op : Operator) : Bool := match op with
  | .Sub => true
  | .Mod => true
  | _ => false
mutual
noncomputable def calm : PE → Bool
  | .c _ => true
  | .var _ => true
  | .and a b => calm a && calm b
  | .or a b => calm a && calm b
  | .not a => calm a
  | .ite c a b => calm c && calm a && calm b
  | .bin op a b => calmOp op && (calm a && calm b)
  | .cmp _ a b => calm a && calm b
  | .cmp2 _ _ _ _ _ => false
  | .tup es => calms es
  | .list _ => false
  | .dict _ => false
  | .sub a b => calm a && calm b
  | .slice _ _ _ => false
  | .rev _ => false
  | .gsub _ i => calm i
  | .gin i _ => calm i
  | .call _ _ => false
  | .fn _ _ => false
  | .meth _ _ _ => false
  | .lcomp _ _ _ _ _ _ _ => false
  | .dcomp _ _ _ _ _ _ _ => false
noncomputable def calms : PEs → Bool
  | .nil => true
  | .cons e es => calm e && calms es
end

abbrev Ev := Loc → AH → Option (V × AH)
/-- a turn of a comprehension -/
noncomputable def lrun (t : Tgt) (ρ : Loc) (cond elt : Ev) (v : V) (H : AH) : Option (Option V × AH) :=
  obn (putV t v ρ) fun ρ' => bnd (cond ρ' H) fun b H2 => brn b (bnd (elt ρ' H2) fun y H3 => some (some y, H3)) (some (none, H2))
noncomputable def drun (t : Nat) (ρ : Loc) (cond key val : Ev) (v : V) (H : AH) : Option (Option (Key × V) × AH) :=
  obn (putV (.one t) v ρ) fun ρ' => bnd (cond ρ' H) fun b H2 => brn b (bnd (key ρ' H2) fun y H3 => bnd (val ρ' H3) fun z H4 => obn (keyOf y) fun y => some (some (y, z), H4)) (some (none, H2))
noncomputable def finL (r : Option (List V × AH)) : Option (V × AH) := bnd r fun ys H2 => some (.ref H2.length, H2 ++ [.list ys])
noncomputable def finD (r : Option (List (Key × V) × AH)) : Option (V × AH) := bnd r fun ps H2 => some (.ref H2.length, H2 ++ [.dict (ps.foldl (fun d p => setK d p.1 p.2) [])])
noncomputable def lsrc (q : Bool) (run : V → AH → Option (Option V × AH)) (src : Src) (x : V) (H : AH) : Option (V × AH) := match src with
  | .plain => caT x (fun l => finL (compI run l H)) <| caL H x (fun j l => finL (compL run j (l.length + 1) 0 H)) <| onD H x fun _ l => gua q (finL (compI run (l.map fun p => keyV p.1) H))
  | .range => none
  | .enum => onL H x fun _ l => gua q (finL (compI run (enumI l) H))
noncomputable def fsrc (run : V → Loc → AH → Option (Fl × Loc × AH)) (src : Src) (x : V) (ρ : Loc) (H : AH) : Option (Fl × Loc × AH) := match src with
  | .plain => caT x (fun l => forI run l ρ H) <| onL H x fun j l => forL run j (l.length + 1) 0 ρ H
  | .range => onInt x fun n => gua (decide (-1000000 ≤ n ∧ n ≤ 1000000)) (forI run (rangeI n) ρ H)
  | .enum => none

section
variable (G : GTab) (F : Calls)
mutual
noncomputable def ev : PE → Loc → AH → Option (V × AH)
  | .c v, _, H => some (v, H)
  | .var i, ρ, H => obn ρ[i]? fun o => obn o fun v => some (v, H)
  | .and a b, ρ, H => bnd (ev a ρ H) fun v H1 => brn v (ev b ρ H1) (some (v, H1))
  | .or a b, ρ, H => bnd (ev a ρ H) fun v H1 => brn v (some (v, H1)) (ev b ρ H1)
  | .not a, ρ, H => bnd (ev a ρ H) fun v H1 => obn (boolV v) fun b => some (.bool (!b), H1)
  | .ite c a b, ρ, H => bnd (ev c ρ H) fun v H1 => brn v (ev a ρ H1) (ev b ρ H1)
  | .bin op a b, ρ, H => bnd (ev a ρ H) fun x H1 => bnd (ev b ρ H1) fun y H2 => binV op x y H2
  | .cmp op a b, ρ, H => bnd (ev a ρ H) fun x H1 => bnd (ev b ρ H1) fun y H2 => obn (cmpV op x y H2) fun r => some (.bool r, H2)
  | .cmp2 o1 o2 a b c, ρ, H => bnd (ev a ρ H) fun x H1 => bnd (ev b ρ H1) fun y H2 => obn (cmpV o1 x y H2) fun r => cond r (bnd (ev c ρ H2) fun z H3 => obn (cmpV o2 y z H3) fun r => some (.bool r, H3)) (some (.bool false, H2))
  | .tup es, ρ, H => bnd (evs es ρ H) fun vs H1 => some (.tup vs, H1)
  | .list es, ρ, H => bnd (evs es ρ H) fun vs H1 => some (.ref H1.length, H1 ++ [.list vs])
  | .dict kvs, ρ, H => finD (evd kvs ρ H)
  | .sub a i, ρ, H => bnd (ev a ρ H) fun x H1 => bnd (ev i ρ H1) fun y H2 => obn (subV x y H2) fun v => some (v, H2)
  | .slice a lo hi, ρ, H => bnd (ev a ρ H) fun x H1 => bnd (ev lo ρ H1) fun y H2 => bnd (ev hi ρ H2) fun z H3 => sliceV x y z H3
  | .rev a, ρ, H => bnd (ev a ρ H) fun x H1 => caT x (fun l => some (.tup l.reverse, H1)) none
  | .gsub g i, ρ, H => bnd (ev i ρ H) fun y H1 => obn (G g) fun l => obn (keyOf y) fun k => obn (getK l k) fun v => some (v, H1)
  | .gin i g, ρ, H => bnd (ev i ρ H) fun y H1 => obn (G g) fun l => obn (keyOf y) fun k => some (.bool (getK l k).isSome, H1)
  | .call f es, ρ, H => bnd (evs es ρ H) (F f)
  | .fn b a, ρ, H => bnd (ev a ρ H) fun x H1 => fnV b x H1
  | .meth m o es, ρ, H => bnd (ev o ρ H) fun x H1 => obn (recOk m x H1) fun _ => bnd (evs es ρ H1) fun vs H2 => methV m x vs H2
  | .lcomp k fr t src it cond elt, ρ, H => bnd (ev it ρ H) fun x H1 => lsrc (calm cond && calm elt) (lrun t (frameOf k fr ρ) (fun ρ H => ev cond ρ H) (fun ρ H => ev elt ρ H)) src x H1
  | .dcomp k fr t it cond key val, ρ, H => bnd (ev it ρ H) fun x H1 => onD H1 x fun _ l => gua (calm cond && calm key && calm val)
      (finD (compI (drun t (frameOf k fr ρ) (fun ρ H => ev cond ρ H) (fun ρ H => ev key ρ H) (fun ρ H => ev val ρ H)) (l.map fun p => keyV p.1) H1))
noncomputable def evs : PEs → Loc → AH → Option (List V × AH)
  | .nil, _, H => some ([], H)
  | .cons e es, ρ, H => bnd (ev e ρ H) fun v H1 => bnd (evs es ρ H1) fun vs H2 => some (v :: vs, H2)
/-- key, value, key, value .. -/
noncomputable def evd : PEds → Loc → AH → Option (List (Key × V) × AH)
  | .nil, _, H => some ([], H)
  | .cons k v r, ρ, H => bnd (ev k ρ H) fun x H1 => bnd (ev v ρ H1) fun y H2 => obn (keyOf x) fun x => bnd (evd r ρ H2) fun r H3 => some ((x, y) :: r, H3)
end

/-- the items of a row go to their places, one behind the other -/
noncomputable def asgT : PTs → List V → Loc → AH → Option (Loc × AH)
  | .nil, vs, ρ, H => gua vs.isEmpty (some (ρ, H))
  | .one i r, vs, ρ, H => caC vs none fun v vs => obn (putV (.one i) v ρ) fun ρ' => asgT r vs ρ' H
  | .sub a i r, vs, ρ, H => caC vs none fun v vs => bnd (ev G F a ρ H) fun x H1 => bnd (ev G F i ρ H1) fun y H2 => obn (storeV x y v H2) fun H3 => asgT r vs ρ H3
mutual
noncomputable def ex : PS → Loc → AH → Option (Fl × Loc × AH)
  | .stuck, _, _ => none
  | .asgm ts e, ρ, H => bnd (ev G F e ρ H) fun v H1 => caT v (fun vs => bnd (asgT G F ts vs ρ H1) fun ρ' H2 => some (.next, ρ', H2)) none
  | .asg t e, ρ, H => bnd (ev G F e ρ H) fun v H1 => obn (putV t v ρ) fun ρ' => some (.next, ρ', H1)
  | .asub a i e, ρ, H => bnd (ev G F e ρ H) fun v H1 => bnd (ev G F a ρ H1) fun x H2 => bnd (ev G F i ρ H2) fun y H3 => obn (storeV x y v H3) fun H4 => some (.next, ρ, H4)
  | .expr e, ρ, H => bnd (ev G F e ρ H) fun _ H1 => some (.next, ρ, H1)
  | .ret e, ρ, H => bnd (ev G F e ρ H) fun v H1 => some (.ret v, ρ, H1)
  | .ite c a b, ρ, H => bnd (ev G F c ρ H) fun v H1 => brn v (exs a ρ H1) (exs b ρ H1)
  | .for_ t src it body, ρ, H => bnd (ev G F it ρ H) fun x H1 => fsrc (fun v ρ H => obn (putV t v ρ) fun ρ' => exs body ρ' H) src x ρ H1
  | .while_ c body, ρ, H => whileN (fun ρ H => ev G F c ρ H) (fun ρ H => exs body ρ H) 100000 ρ H
noncomputable def exs : PSs → Loc → AH → Option (Fl × Loc × AH)
  | .nil, ρ, H => some (.next, ρ, H)
  | .cons s r, ρ, H => thn (ex s ρ H) fun ρ' H' => exs r ρ' H'
end
end

noncomputable def frun (G : GTab) (F : Calls) (t : Tgt) (body : PSs) (v : V) (ρ : Loc) (H : AH) : Option (Fl × Loc × AH) := obn (putV t v ρ) fun ρ' => exs G F body ρ' H
/-- a def: how many names its block has; where the arguments go; the body -/
structure Fn where
  size : Nat
  args : List Nat
  body : PSs

noncomputable def bindA (f : Fn) (vs : List V) : Loc := (f.args.zip vs).foldl (fun r p => r.set p.1 (some p.2)) (List.replicate f.size none)
noncomputable def retV (f : Fl) : V := match f with
  | .ret v => v
  | .next => .none
noncomputable def retOf (o : Option (Fl × Loc × AH)) : Option (V × AH) := obn o fun p => some (retV p.1, p.2.2)
noncomputable def callN (G : GTab) (D : Nat → Option Fn) : Nat → Calls
  | 0, _, _, _ => none
  | n + 1, f, vs, H => obn (D f) fun fn => gua (decide (vs.length = fn.args.length)) (retOf (exs G (callN G D n) fn.body (bindA fn vs) H))
theorem some2 {α β : Type} {P : α → β → Prop} {a c : α} {b d : β} (h : some (a, b) = some (c, d)) (p : P a b) : P c d := by
  cases h; exact p
theorem some1 {α : Type} {P : α → Prop} {a c : α} (h : some a = some c) (p : P a) : P c := by
  cases h; exact p
end Mine
/-! Dg -/
namespace Mine
noncomputable def Digs (L : List Nat) : Prop := (∀ d ∈ L, d < 256) ∧ L.getLast? ≠ some 0
theorem digs_nil : Digs [] := ⟨fun _ h => (nomatch h), fun h => (nomatch h)⟩
theorem decL_zero (f : Nat) : decL f 0 = [] := by cases f <;> rfl
theorem digs_decL (f : Nat) : ∀ n, n ≤ f → Digs (decL f n) ∧ (n ≠ 0 → decL f n ≠ []) := by
  induction f with
  | zero =>
    intro n h
    rw [Nat.le_zero.mp h]
    exact ⟨digs_nil, fun h => absurd rfl h⟩
  | succ f ih =>
    intro n h
    by_cases h0 : n = 0
    · rw [h0, decL_zero]
      exact ⟨digs_nil, fun h => absurd rfl h⟩
    · obtain ⟨⟨h1, h2⟩, h3⟩ := ih (n / 256) (by omega)
      have e : decL (f + 1) n = n % 256 :: decL f (n / 256) := by rw [decL, if_neg h0]
      rw [e]
      refine ⟨⟨fun d hd => ?_, ?_⟩, fun _ h => nomatch h⟩
      · rcases List.mem_cons.mp hd with rfl | hd
        · exact Nat.mod_lt _ (by decide)
        · exact h1 d hd
      · cases hr : decL f (n / 256) with
        | nil =>
          have : n / 256 = 0 := Decidable.byContradiction fun q => h3 q hr
          intro q
          replace q : some (n % 256) = some 0 := q
          injection q with q
          omega
        | cons x r => rw [hr] at h2; rw [List.getLast?_cons_cons]; exact h2
theorem digs_tail {d : Nat} {r : List Nat} (h : Digs (d :: r)) : Digs r := by
  refine ⟨fun x hx => h.1 x (.tail _ hx), ?_⟩
  cases r with
  | nil => exact fun h => nomatch h
  | cons x r => have := h.2; rw [List.getLast?_cons_cons] at this; exact this
theorem decL_encL (L : List Nat) : Digs L → ∀ f, encL L ≤ f → decL f (encL L) = L ∧ (L ≠ [] → encL L ≠ 0) := by
  induction L with
  | nil => exact fun _ f _ => ⟨decL_zero f, fun h => absurd rfl h⟩
  | cons d r ih =>
    intro hD f hf
    have hr := digs_tail hD
    have hd := hD.1 d (.head _)
    have e : encL (d :: r) = d + 256 * encL r := rfl
    have hne : encL (d :: r) ≠ 0 := by
      rw [e]
      cases r with
      | nil =>
        have : d ≠ 0 := fun q => hD.2 (by rw [q]; rfl)
        omega
      | cons x r =>
        have := (ih hr _ (Nat.le_refl _)).2 (fun q => nomatch q)
        omega
    refine ⟨?_, fun _ => hne⟩
    cases f with
    | zero => omega
    | succ f =>
      rw [decL, if_neg hne]
      have e1 : encL (d :: r) % 256 = d := by rw [e]; omega
      have e2 : encL (d :: r) / 256 = encL r := by rw [e]; omega
      rw [e1, e2, (ih hr f (by rw [e] at hf; omega)).1]
theorem decL_cat (a b : Nat) : decL (cat a b) (cat a b) = decL a a ++ decL b b := by
  have ha := (digs_decL a a (Nat.le_refl _)).1
  have hb := (digs_decL b b (Nat.le_refl _)).1
  have hd : Digs (decL a a ++ decL b b) := by
    refine ⟨fun d hd => (List.mem_append.mp hd).elim (ha.1 d) (hb.1 d), ?_⟩
    rw [List.getLast?_append]
    have h2 := hb.2
    cases q : (decL b b).getLast? with
    | none => exact ha.2
    | some z => rw [q] at h2; exact h2
  exact (decL_encL _ hd _ (Nat.le_refl _)).1
end Mine
/-! PC -/
namespace Mine
/-- 3: put_ahead -/
noncomputable def p_3 : Fn := ⟨5, [0, 1, 2, 3],
  (.cons (.ite (.and (.cmp .Gt (.fn .len (.var 0)) (.c (.int 0))) (.and (.cmp .Eq (.sub (.sub (.var 0) (.c (.int 0))) (.c (.int 0))) (.var 2)) (.cmp .Lt (.fn .len (.sub (.sub (.var 0) (.c (.int 0))) (.c (.int 1)))) (.var 3)))) (.cons (.ret (.bin .Add (.tup (.cons (.tup (.cons (.var 2) (.cons (.bin .Add (.tup (.cons (.var 1) .nil)) (.sub (.sub (.var 0) (.c (.int 0))) (.c (.int 1)))) .nil))) .nil)) (.slice (.var 0) (.c (.int 1)) (.c .none))))
    .nil) .nil)
    (.cons (.ret (.bin .Add (.tup (.cons (.tup (.cons (.var 2) (.cons (.tup (.cons (.var 1) .nil)) .nil))) .nil)) (.var 0)))
    .nil))⟩
/-- 4: prepended -/
noncomputable def p_4 : Fn := ⟨8, [0, 1, 2],
  (.cons (.for_ (.one 3) .range (.var 2) (.cons (.asg (.one 0) (.call 3 (.cons (.var 0) (.cons (.var 1) (.cons (.c (.int 2)) (.cons (.c (.int 255)) .nil))))))
    .nil))
    (.cons (.ret (.var 0))
    .nil))⟩
/-- 11: with_communities -/
noncomputable def p_11 : Fn := ⟨8, [0, 1],
  (.cons (.asg (.one 2) (.dcomp 3 [(2, 0)] 1 (.var 0) (.cmp .NotEq (.var 1) (.c (.str 139505373566937160341090147))) (.var 1) (.sub (.var 2) (.var 1))))
    (.cons (.asg (.one 3) (.fn .sorted (.var 1)))
    (.cons (.asg (.one 3) (.lcomp 4 [(3, 3)] (.many [1, 2]) .enum (.var 3) (.or (.cmp .Eq (.var 1) (.c (.int 0))) (.cmp .NotEq (.var 2) (.sub (.var 3) (.bin .Sub (.var 1) (.c (.int 1)))))) (.var 2)))
    (.cons (.ite (.cmp .NotEq (.var 3) (.list .nil)) (.cons (.asub (.var 2) (.c (.str 139505373566937160341090147)) (.fn .tuple (.var 3)))
    (.cons (.ret (.var 2))
    .nil)) .nil)
    (.cons (.asg (.one 4) (.fn .tuple (.lcomp 2 [] (.one 1) .plain (.meth .pop (.var 2) (.cons (.c (.str 30506403037864304)) (.cons (.tup .nil) .nil))) (.cmp .NotEq (.var 1) (.c (.str 139505373566937160341090147))) (.var 1))))
    (.cons (.ite (.cmp .NotEq (.var 4) (.tup .nil)) (.cons (.asub (.var 2) (.c (.str 30506403037864304)) (.var 4))
    .nil) .nil)
    (.cons (.ret (.var 2))
    .nil)))))))⟩
/-- 12: with_field -/
noncomputable def p_12 : Fn := ⟨4, [0, 1, 2],
  (.cons (.asg (.one 3) (.dcomp 3 [(2, 0)] 1 (.var 0) (.c (.bool true)) (.var 1) (.sub (.var 2) (.var 1))))
    (.cons (.asub (.var 3) (.var 1) (.var 2))
    (.cons (.ret (.var 3))
    .nil)))⟩
/-- 13: changed_route -/
noncomputable def p_13 : Fn := ⟨11, [0, 1, 2],
  (.cons (.asg (.many [3, 4]) (.tup (.cons (.sub (.var 0) (.c (.int 0))) (.cons (.fn .list (.meth .get (.var 1) (.cons (.c (.str 139505373566937160341090147)) (.cons (.tup .nil) .nil)))) .nil))))
    (.cons (.ite (.cmp .Eq (.var 3) (.c (.str 6579297))) (.cons (.ret (.call 11 (.cons (.var 1) (.cons (.bin .Add (.var 4) (.list (.cons (.sub (.var 0) (.c (.int 1))) .nil))) .nil))))
    .nil) .nil)
    (.cons (.ite (.cmp .Eq (.var 3) (.c (.str 1886351972))) (.cons (.ret (.call 11 (.cons (.var 1) (.cons (.lcomp 3 [(2, 0)] (.one 1) .plain (.var 4) (.cmp .NotEq (.var 1) (.sub (.var 2) (.c (.int 1)))) (.var 1)) .nil))))
    .nil) .nil)
    (.cons (.ite (.cmp .Eq (.var 3) (.c (.str 491260308579))) (.cons (.ret (.call 11 (.cons (.var 1) (.cons (.list .nil) .nil))))
    .nil) .nil)
    (.cons (.ite (.cmp .Eq (.var 3) (.c (.str 28268879627514480))) (.cons (.ret (.call 12 (.cons (.var 1) (.cons (.c (.str 29401359423861601)) (.cons (.call 4 (.cons (.meth .get (.var 1) (.cons (.c (.str 29401359423861601)) (.cons (.tup .nil) .nil))) (.cons (.sub (.var 0) (.c (.int 1))) (.cons (.sub (.var 0) (.c (.int 2))) .nil)))) .nil)))))
    .nil) .nil)
    (.cons (.asg (.one 5) (.ite (.cmp .Eq (.sub (.var 0) (.c (.int 2))) (.c (.str 1718379891))) (.meth .get (.var 2) (.cons (.c (.str 139571412765187396326029167)) (.cons (.c (.int 0)) .nil))) (.sub (.var 0) (.c (.int 2)))))
    (.cons (.ret (.call 12 (.cons (.var 1) (.cons (.gsub 0 (.sub (.var 0) (.c (.int 1)))) (.cons (.var 5) .nil)))))
    .nil)))))))⟩
/-- 14: run_statements -/
noncomputable def p_14 : Fn := ⟨12, [0, 1, 2, 3],
  (.cons (.for_ (.one 4) .plain (.var 0) (.cons (.asg (.one 5) (.c (.int 0)))
    (.cons (.ite (.cmp .Eq (.sub (.var 4) (.c (.int 0))) (.c (.str 26217))) (.cons (.asg (.one 6) (.call 10 (.cons (.sub (.var 4) (.c (.int 1))) (.cons (.var 1) (.cons (.var 2) (.cons (.var 3) .nil))))))
    (.cons (.asg (.many [5, 2]) (.call 14 (.cons (.ite (.var 6) (.sub (.var 4) (.c (.int 2))) (.sub (.var 4) (.c (.int 3)))) (.cons (.var 1) (.cons (.var 2) (.cons (.var 3) .nil))))))
    .nil)) (.cons (.ite (.gin (.sub (.var 4) (.c (.int 0))) 1) (.cons (.asg (.one 5) (.gsub 1 (.sub (.var 4) (.c (.int 0)))))
    .nil) (.cons (.asg (.one 2) (.call 13 (.cons (.var 4) (.cons (.var 2) (.cons (.var 3) .nil)))))
    .nil))
    .nil))
    (.cons (.ite (.cmp .NotEq (.var 5) (.c (.int 0))) (.cons (.ret (.tup (.cons (.var 5) (.cons (.var 2) .nil))))
    .nil) .nil)
    .nil))))
    (.cons (.ret (.tup (.cons (.c (.int 0)) (.cons (.var 2) .nil))))
    .nil))⟩
/-- 15: run_policy -/
noncomputable def p_15 : Fn := ⟨12, [0, 1, 2, 3],
  (.cons (.asg (.many [4, 5]) (.var 0))
    (.cons (.for_ (.many [6, 7]) .plain (.var 4) (.cons (.asg (.many [8, 2]) (.call 14 (.cons (.var 7) (.cons (.var 1) (.cons (.var 2) (.cons (.var 3) .nil))))))
    (.cons (.ite (.cmp .Eq (.var 8) (.c (.int 1))) (.cons (.ret (.var 2))
    .nil) .nil)
    (.cons (.ite (.cmp .Eq (.var 8) (.c (.int 2))) (.cons (.ret (.c .none))
    .nil) .nil)
    .nil))))
    (.cons (.ret (.ite (.cmp .Eq (.var 5) (.tup (.cons (.c (.str 128026086171489)) .nil))) (.var 2) (.c .none)))
    .nil)))⟩
noncomputable def tabC (i : Nat) : Option Fn := match i with
  | 3 => some p_3
  | 4 => some p_4
  | 11 => some p_11
  | 12 => some p_12
  | 13 => some p_13
  | 14 => some p_14
  | 15 => some p_15
  | _ => none
/-- the two dicts of the module: FIELDS, ENDS -/
noncomputable def glo : GTab := fun g => match g with
  | 0 => some [(.s 483552748545009705512812, .str 483552748599985286901612), (.s 6579565, .str 6579565), (.s 121398985585263, .str 121398985585263), (.s 8101808799099676014, .str 8101809013848040814), (.s 6775156, .str 6775156)]
  | 1 => some [(.s 128026086171489, .int 1), (.s 127970252055922, .int 2), (.s 1954047342, .int 3)]
  | _ => none
end Mine
/-! P02 -/
namespace Mine
/-- 0: path_length -/
noncomputable def p_0 : Fn := ⟨7, [0],
  (.cons (.asg (.one 1) (.c (.int 0)))
    (.cons (.for_ (.many [2, 3]) .plain (.var 0) (.cons (.ite (.cmp .Eq (.var 2) (.c (.int 2))) (.cons (.asg (.one 1) (.bin .Add (.var 1) (.fn .len (.var 3))))
    .nil) (.cons (.ite (.cmp .Eq (.var 2) (.c (.int 1))) (.cons (.asg (.one 1) (.bin .Add (.var 1) (.c (.int 1))))
    .nil) .nil)
    .nil))
    .nil))
    (.cons (.ret (.var 1))
    .nil)))⟩
/-- 1: neighbour_as -/
noncomputable def p_1 : Fn := ⟨6, [0],
  (.cons (.for_ (.many [1, 2]) .plain (.var 0) (.cons (.ite (.and (.cmp .Eq (.var 1) (.c (.int 2))) (.cmp .Gt (.fn .len (.var 2)) (.c (.int 0)))) (.cons (.ret (.sub (.var 2) (.c (.int 0))))
    .nil) .nil)
    (.cons (.ite (.cmp .Eq (.var 1) (.c (.int 1))) (.cons (.ret (.c (.int 0)))
    .nil) .nil)
    .nil)))
    (.cons (.ret (.c (.int 0)))
    .nil))⟩
/-- 2: path_has -/
noncomputable def p_2 : Fn := ⟨4, [0, 1],
  (.cons (.for_ (.many [2, 3]) .plain (.var 0) (.cons (.ite (.cmp .In (.var 1) (.var 3)) (.cons (.ret (.c (.bool true)))
    .nil) .nil)
    .nil))
    (.cons (.ret (.c (.bool false)))
    .nil))⟩
/-- 5: mask_of -/
noncomputable def p_5 : Fn := ⟨2, [0, 1],
  (.cons (.ret (.bin .LShift (.bin .Sub (.bin .LShift (.c (.int 1)) (.var 0)) (.c (.int 1))) (.bin .Sub (.var 1) (.var 0))))
    .nil)⟩
/-- 6: holds_address -/
noncomputable def p_6 : Fn := ⟨4, [0, 1, 2],
  (.cons (.ret (.cmp .Eq (.bin .BitAnd (.var 1) (.call 5 (.cons (.sub (.var 0) (.c (.int 1))) (.cons (.var 2) .nil)))) (.sub (.var 0) (.c (.int 0)))))
    .nil)⟩
/-- 7: covers -/
noncomputable def p_7 : Fn := ⟨4, [0, 1, 2],
  (.cons (.ret (.and (.cmp .LtE (.sub (.var 0) (.c (.int 1))) (.sub (.var 1) (.c (.int 1)))) (.call 6 (.cons (.var 0) (.cons (.sub (.var 1) (.c (.int 0))) (.cons (.var 2) .nil))))))
    .nil)⟩
/-- 8: compares -/
noncomputable def p_8 : Fn := ⟨3, [0, 1, 2],
  (.cons (.ite (.cmp .Eq (.var 1) (.c (.str 61))) (.cons (.ret (.cmp .Eq (.var 0) (.var 2)))
    .nil) .nil)
    (.cons (.ite (.cmp .Eq (.var 1) (.c (.str 15649))) (.cons (.ret (.cmp .NotEq (.var 0) (.var 2)))
    .nil) .nil)
    (.cons (.ite (.cmp .Eq (.var 1) (.c (.str 60))) (.cons (.ret (.cmp .Lt (.var 0) (.var 2)))
    .nil) .nil)
    (.cons (.ite (.cmp .Eq (.var 1) (.c (.str 15676))) (.cons (.ret (.cmp .LtE (.var 0) (.var 2)))
    .nil) .nil)
    (.cons (.ret (.ite (.cmp .Eq (.var 1) (.c (.str 62))) (.cmp .Gt (.var 0) (.var 2)) (.cmp .GtE (.var 0) (.var 2))))
    .nil)))))⟩
/-- 9: field_number -/
noncomputable def p_9 : Fn := ⟨6, [0, 1, 2, 3],
  (.cons (.ite (.cmp .Eq (.var 0) (.c (.str 114849160783212))) (.cons (.ret (.sub (.var 1) (.c (.int 1))))
    .nil) .nil)
    (.cons (.ite (.cmp .Eq (.var 0) (.c (.str 1926849177878679876449))) (.cons (.ret (.call 0 (.cons (.meth .get (.var 2) (.cons (.c (.str 29401359423861601)) (.cons (.tup .nil) .nil))) .nil)))
    .nil) .nil)
    (.cons (.ite (.cmp .Eq (.var 0) (.c (.str 32476470142395760))) (.cons (.ret (.meth .get (.var 3) (.cons (.c (.str 32476684890760560)) (.cons (.c (.int 0)) .nil))))
    .nil) .nil)
    (.cons (.ret (.meth .get (.var 2) (.cons (.gsub 0 (.var 0)) (.cons (.c (.int 0)) .nil))))
    .nil))))⟩
/-- 10: condition_holds -/
noncomputable def p_10 : Fn := ⟨12, [0, 1, 2, 3],
  (.cons (.asg (.one 4) (.sub (.var 0) (.c (.int 0))))
    (.cons (.ite (.cmp .Eq (.var 4) (.c (.str 6581857))) (.cons (.ret (.and (.call 10 (.cons (.sub (.var 0) (.c (.int 1))) (.cons (.var 1) (.cons (.var 2) (.cons (.var 3) .nil))))) (.call 10 (.cons (.sub (.var 0) (.c (.int 2))) (.cons (.var 1) (.cons (.var 2) (.cons (.var 3) .nil)))))))
    .nil) .nil)
    (.cons (.ite (.cmp .Eq (.var 4) (.c (.str 29295))) (.cons (.ret (.or (.call 10 (.cons (.sub (.var 0) (.c (.int 1))) (.cons (.var 1) (.cons (.var 2) (.cons (.var 3) .nil))))) (.call 10 (.cons (.sub (.var 0) (.c (.int 2))) (.cons (.var 1) (.cons (.var 2) (.cons (.var 3) .nil)))))))
    .nil) .nil)
    (.cons (.ite (.cmp .Eq (.var 4) (.c (.str 7630702))) (.cons (.ret (.not (.call 10 (.cons (.sub (.var 0) (.c (.int 1))) (.cons (.var 1) (.cons (.var 2) (.cons (.var 3) .nil)))))))
    .nil) .nil)
    (.cons (.ite (.cmp .Eq (.var 4) (.c (.str 132394084823664))) (.cons (.ret (.and (.call 7 (.cons (.sub (.var 0) (.c (.int 1))) (.cons (.var 1) (.cons (.c (.int 32)) .nil)))) (.cmp2 .LtE .LtE (.sub (.var 0) (.c (.int 2))) (.sub (.var 1) (.c (.int 1))) (.sub (.var 0) (.c (.int 3))))))
    .nil) .nil)
    (.cons (.ite (.cmp .Eq (.var 4) (.c (.str 2240444390150436122467))) (.cons (.ret (.cmp .In (.sub (.var 0) (.c (.int 1))) (.meth .get (.var 2) (.cons (.c (.str 139505373566937160341090147)) (.cons (.tup .nil) .nil)))))
    .nil) .nil)
    (.cons (.ite (.cmp .Eq (.var 4) (.c (.str 7561576))) (.cons (.ret (.call 2 (.cons (.meth .get (.var 2) (.cons (.c (.str 29401359423861601)) (.cons (.tup .nil) .nil))) (.cons (.sub (.var 0) (.c (.int 1))) .nil))))
    .nil) .nil)
    (.cons (.ite (.cmp .Eq (.var 4) (.c (.str 500153084262))) (.cons (.ret (.cmp .Eq (.call 1 (.cons (.meth .get (.var 2) (.cons (.c (.str 29401359423861601)) (.cons (.tup .nil) .nil))) .nil)) (.sub (.var 0) (.c (.int 1)))))
    .nil) .nil)
    (.cons (.ite (.cmp .Eq (.var 4) (.c (.str 121398985585263))) (.cons (.ret (.cmp .Eq (.meth .get (.var 2) (.cons (.c (.str 121398985585263)) (.cons (.c (.int 2)) .nil))) (.sub (.var 0) (.c (.int 1)))))
    .nil) .nil)
    (.cons (.ite (.cmp .Eq (.var 4) (.c (.str 28554735471390563))) (.cons (.ret (.call 8 (.cons (.call 9 (.cons (.sub (.var 0) (.c (.int 1))) (.cons (.var 1) (.cons (.var 2) (.cons (.var 3) .nil))))) (.cons (.sub (.var 0) (.c (.int 2))) (.cons (.sub (.var 0) (.c (.int 3))) .nil)))))
    .nil) .nil)
    (.cons (.ret (.c (.bool true)))
    .nil)))))))))))⟩
/-- 16: _law_draw -/
noncomputable def p_16 : Fn := ⟨5, [0, 1],
  (.cons (.asg (.one 2) (.sub (.var 0) (.c (.int 1))))
    (.cons (.asub (.var 0) (.c (.int 1)) (.bin .Add (.var 2) (.c (.int 1))))
    (.cons (.ite (.cmp .Lt (.var 2) (.fn .len (.sub (.var 0) (.c (.int 0))))) (.cons (.ret (.bin .Mod (.fn .abs (.sub (.sub (.var 0) (.c (.int 0))) (.var 2))) (.var 1)))
    .nil) .nil)
    (.cons (.ret (.bin .Mod (.bin .Add (.bin .Add (.bin .Mult (.c (.int 7)) (.var 2)) (.bin .FloorDiv (.bin .Mult (.var 2) (.var 2)) (.c (.int 5)))) (.c (.int 3))) (.var 1)))
    .nil))))⟩
/-- 17: _law_plain_asked -/
noncomputable def p_17 : Fn := ⟨3, [0],
  (.cons (.asg (.one 1) (.list (.cons (.tup (.cons (.c (.str 2240444390150436122467)) (.cons (.c (.int 1)) .nil))) (.cons (.tup (.cons (.c (.str 2240444390150436122467)) (.cons (.c (.int 2)) .nil))) (.cons (.tup (.cons (.c (.str 7561576)) (.cons (.c (.int 7)) .nil))) (.cons (.tup (.cons (.c (.str 500153084262)) (.cons (.c (.int 8)) .nil))) (.cons (.tup (.cons (.c (.str 132394084823664)) (.cons (.tup (.cons (.bin .Mult (.c (.int 10)) (.bin .Pow (.c (.int 2)) (.c (.int 24)))) (.cons (.c (.int 8)) .nil))) (.cons (.c (.int 16)) (.cons (.c (.int 32)) .nil))))) .nil)))))))
    (.cons (.asg (.one 1) (.bin .Add (.var 1) (.list (.cons (.tup (.cons (.c (.str 28554735471390563)) (.cons (.c (.str 6579565)) (.cons (.c (.str 15678)) (.cons (.c (.int 2)) .nil))))) (.cons (.tup (.cons (.c (.str 28554735471390563)) (.cons (.c (.str 483552748545009705512812)) (.cons (.c (.str 61)) (.cons (.c (.int 7)) .nil))))) (.cons (.tup (.cons (.c (.str 28554735471390563)) (.cons (.c (.str 6775156)) (.cons (.c (.str 15649)) (.cons (.c (.int 5)) .nil))))) .nil))))))
    (.cons (.asg (.one 1) (.bin .Add (.var 1) (.list (.cons (.tup (.cons (.c (.str 28554735471390563)) (.cons (.c (.str 1926849177878679876449)) (.cons (.c (.str 60)) (.cons (.c (.int 3)) .nil))))) (.cons (.tup (.cons (.c (.str 28554735471390563)) (.cons (.c (.str 8101808799099676014)) (.cons (.c (.str 61)) (.cons (.c (.int 9)) .nil))))) (.cons (.tup (.cons (.c (.str 28554735471390563)) (.cons (.c (.str 32476470142395760)) (.cons (.c (.str 61)) (.cons (.c (.int 3)) .nil))))) .nil))))))
    (.cons (.expr (.meth .append (.var 1) (.cons (.tup (.cons (.c (.str 28554735471390563)) (.cons (.c (.str 121398985585263)) (.cons (.c (.str 62)) (.cons (.c (.int 0)) .nil))))) .nil)))
    (.cons (.ret (.sub (.var 1) (.call 16 (.cons (.var 0) (.cons (.c (.int 12)) .nil)))))
    .nil)))))⟩
/-- 18: _law_asked -/
noncomputable def p_18 : Fn := ⟨5, [0],
  (.cons (.asg (.one 1) (.call 16 (.cons (.var 0) (.cons (.c (.int 6)) .nil))))
    (.cons (.asg (.one 2) (.call 17 (.cons (.var 0) .nil)))
    (.cons (.ite (.cmp .Eq (.var 1) (.c (.int 4))) (.cons (.ret (.tup (.cons (.c (.str 29295)) (.cons (.var 2) (.cons (.call 17 (.cons (.var 0) .nil)) .nil)))))
    .nil) .nil)
    (.cons (.ret (.ite (.cmp .Eq (.var 1) (.c (.int 5))) (.tup (.cons (.c (.str 7630702)) (.cons (.var 2) .nil))) (.var 2)))
    .nil))))⟩
/-- 19: _law_statement -/
noncomputable def p_19 : Fn := ⟨9, [0, 1],
  (.cons (.asg (.one 2) (.call 16 (.cons (.var 0) (.cons (.c (.int 6)) .nil))))
    (.cons (.ite (.and (.cmp .Lt (.var 2) (.c (.int 3))) (.cmp .Gt (.var 1) (.c (.int 0)))) (.cons (.asg (.many [3, 4]) (.tup (.cons (.call 18 (.cons (.var 0) .nil)) (.cons (.tup (.cons (.call 19 (.cons (.var 0) (.cons (.bin .Sub (.var 1) (.c (.int 1))) .nil))) .nil)) .nil))))
    (.cons (.ret (.tup (.cons (.c (.str 26217)) (.cons (.var 3) (.cons (.var 4) (.cons (.ite (.cmp .Eq (.var 2) (.c (.int 1))) (.tup (.cons (.call 19 (.cons (.var 0) (.cons (.bin .Sub (.var 1) (.c (.int 1))) .nil))) .nil)) (.tup .nil)) .nil))))))
    .nil)) .nil)
    (.cons (.ite (.cmp .Eq (.var 2) (.c (.int 5))) (.cons (.ret (.tup (.cons (.sub (.tup (.cons (.c (.str 128026086171489)) (.cons (.c (.str 127970252055922)) (.cons (.c (.str 1954047342)) .nil)))) (.call 16 (.cons (.var 0) (.cons (.c (.int 3)) .nil)))) .nil)))
    .nil) .nil)
    (.cons (.asg (.one 5) (.list (.cons (.tup (.cons (.c (.str 7628147)) (.cons (.c (.str 6579565)) (.cons (.c (.int 3)) .nil)))) (.cons (.tup (.cons (.c (.str 7628147)) (.cons (.c (.str 6579565)) (.cons (.c (.int 1)) .nil)))) (.cons (.tup (.cons (.c (.str 7628147)) (.cons (.c (.str 483552748545009705512812)) (.cons (.c (.int 7)) .nil)))) (.cons (.tup (.cons (.c (.str 7628147)) (.cons (.c (.str 6775156)) (.cons (.c (.int 5)) .nil)))) (.cons (.tup (.cons (.c (.str 7628147)) (.cons (.c (.str 121398985585263)) (.cons (.c (.int 1)) .nil)))) .nil)))))))
    (.cons (.asg (.one 5) (.bin .Add (.var 5) (.list (.cons (.tup (.cons (.c (.str 7628147)) (.cons (.c (.str 8101808799099676014)) (.cons (.c (.str 1718379891)) .nil)))) (.cons (.tup (.cons (.c (.str 7628147)) (.cons (.c (.str 8101808799099676014)) (.cons (.c (.int 4)) .nil)))) (.cons (.tup (.cons (.c (.str 6579297)) (.cons (.c (.int 1)) .nil))) (.cons (.tup (.cons (.c (.str 6579297)) (.cons (.c (.int 2)) .nil))) (.cons (.tup (.cons (.c (.str 1886351972)) (.cons (.c (.int 1)) .nil))) .nil))))))))
    (.cons (.asg (.one 5) (.bin .Add (.var 5) (.list (.cons (.tup (.cons (.c (.str 491260308579)) .nil)) (.cons (.tup (.cons (.c (.str 28268879627514480)) (.cons (.c (.int 7)) (.cons (.c (.int 2)) .nil)))) (.cons (.tup (.cons (.c (.str 28268879627514480)) (.cons (.c (.int 8)) (.cons (.c (.int 1)) .nil)))) .nil))))))
    (.cons (.ret (.sub (.var 5) (.call 16 (.cons (.var 0) (.cons (.c (.int 13)) .nil)))))
    .nil)))))))⟩
/-- 20: _law_policy -/
noncomputable def p_20 : Fn := ⟨9, [0],
  (.cons (.asg (.one 1) (.list .nil))
    (.cons (.for_ (.one 2) .range (.bin .Add (.c (.int 1)) (.call 16 (.cons (.var 0) (.cons (.c (.int 2)) .nil)))) (.cons (.asg (.one 3) (.call 19 (.cons (.var 0) (.cons (.c (.int 1)) .nil))))
    (.cons (.expr (.meth .append (.var 1) (.cons (.tup (.cons (.bin .Add (.c (.str 116)) (.fn .str (.var 2))) (.cons (.tup (.cons (.var 3) (.cons (.call 19 (.cons (.var 0) (.cons (.c (.int 2)) .nil))) .nil))) .nil))) .nil)))
    .nil)))
    (.cons (.ret (.tup (.cons (.fn .tuple (.var 1)) (.cons (.tup (.cons (.sub (.tup (.cons (.c (.str 127970252055922)) (.cons (.c (.str 128026086171489)) (.cons (.c (.str 128026086171489)) .nil)))) (.call 16 (.cons (.var 0) (.cons (.c (.int 3)) .nil)))) .nil)) .nil))))
    .nil)))⟩
/-- 21: _law_route -/
noncomputable def p_21 : Fn := ⟨6, [0],
  (.cons (.asg (.one 1) (.dict (.cons (.c (.str 29401359423861601)) (.tup (.cons (.tup (.cons (.c (.int 2)) (.cons (.sub (.tup (.cons (.tup (.cons (.c (.int 7)) (.cons (.c (.int 8)) .nil))) (.cons (.tup (.cons (.c (.int 8)) .nil)) (.cons (.tup (.cons (.c (.int 9)) (.cons (.c (.int 7)) .nil))) (.cons (.tup (.cons (.c (.int 8)) (.cons (.c (.int 7)) .nil))) .nil))))) (.call 16 (.cons (.var 0) (.cons (.c (.int 4)) .nil)))) .nil))) .nil)) (.cons (.c (.str 8101809013848040814)) (.c (.int 5)) .nil))))
    (.cons (.asg (.many [2, 3]) (.tup (.cons (.call 16 (.cons (.var 0) (.cons (.c (.int 4)) .nil))) (.cons (.call 16 (.cons (.var 0) (.cons (.c (.int 2)) .nil))) .nil))))
    (.cons (.ite (.cmp .Gt (.var 2) (.c (.int 0))) (.cons (.asub (.var 1) (.c (.str 6579565)) (.var 2))
    .nil) .nil)
    (.cons (.ite (.cmp .Eq (.var 3) (.c (.int 1))) (.cons (.asub (.var 1) (.c (.str 483552748599985286901612)) (.c (.int 7)))
    .nil) .nil)
    (.cons (.asg (.one 4) (.sub (.tup (.cons (.tup .nil) (.cons (.tup (.cons (.c (.int 1)) .nil)) (.cons (.tup (.cons (.c (.int 1)) (.cons (.c (.int 2)) .nil))) .nil)))) (.call 16 (.cons (.var 0) (.cons (.c (.int 3)) .nil)))))
    (.cons (.ite (.cmp .NotEq (.var 4) (.tup .nil)) (.cons (.asub (.var 1) (.c (.str 139505373566937160341090147)) (.var 4))
    .nil) .nil)
    (.cons (.asub (.var 1) (.c (.str 121398985585263)) (.call 16 (.cons (.var 0) (.cons (.c (.int 2)) .nil))))
    (.cons (.ret (.var 1))
    .nil))))))))⟩
/-- 22: _law_settled -/
noncomputable def p_22 : Fn := ⟨3, [0, 1],
  (.cons (.ite (.cmp .Eq (.sub (.var 0) (.c (.int 0))) (.c (.str 29295))) (.cons (.ret (.tup (.cons (.c (.str 29295)) (.cons (.call 22 (.cons (.sub (.var 0) (.c (.int 1))) (.cons (.var 1) .nil))) (.cons (.call 22 (.cons (.sub (.var 0) (.c (.int 2))) (.cons (.var 1) .nil))) .nil)))))
    .nil) .nil)
    (.cons (.ite (.cmp .Eq (.sub (.var 0) (.c (.int 0))) (.c (.str 7630702))) (.cons (.ret (.tup (.cons (.c (.str 7630702)) (.cons (.call 22 (.cons (.sub (.var 0) (.c (.int 1))) (.cons (.var 1) .nil))) .nil))))
    .nil) .nil)
    (.cons (.ite (.and (.cmp .Eq (.sub (.var 0) (.c (.int 0))) (.c (.str 28554735471390563))) (.cmp .Eq (.sub (.var 0) (.c (.int 1))) (.c (.str 32476470142395760)))) (.cons (.ret (.ite (.cmp .Eq (.sub (.var 1) (.c (.str 32476684890760560))) (.sub (.var 0) (.c (.int 3)))) (.tup (.cons (.c (.str 1702195828)) .nil)) (.tup (.cons (.c (.str 7630702)) (.cons (.tup (.cons (.c (.str 1702195828)) .nil)) .nil)))))
    .nil) .nil)
    (.cons (.ret (.var 0))
    .nil))))⟩
/-- 23: _law_tree -/
noncomputable def p_23 : Fn := ⟨9, [0, 1, 2, 3],
  (.cons (.ite (.cmp .Eq (.var 0) (.tup .nil)) (.cons (.ret (.var 1))
    .nil) .nil)
    (.cons (.asg (.many [4, 5]) (.tup (.cons (.sub (.var 0) (.c (.int 0))) (.cons (.slice (.var 0) (.c (.int 1)) (.c .none)) .nil))))
    (.cons (.ite (.cmp .Eq (.sub (.var 4) (.c (.int 0))) (.c (.str 26217))) (.cons (.asg (.one 6) (.call 23 (.cons (.bin .Add (.sub (.var 4) (.c (.int 2))) (.var 5)) (.cons (.var 1) (.cons (.var 2) (.cons (.var 3) .nil))))))
    (.cons (.ret (.tup (.cons (.tup (.cons (.c (.str 26217)) (.cons (.call 22 (.cons (.sub (.var 4) (.c (.int 1))) (.cons (.var 3) .nil))) (.cons (.var 6) (.cons (.call 23 (.cons (.bin .Add (.sub (.var 4) (.c (.int 3))) (.var 5)) (.cons (.var 1) (.cons (.var 2) (.cons (.var 3) .nil))))) .nil))))) .nil)))
    .nil)) .nil)
    (.cons (.ite (.cmp .Eq (.sub (.var 4) (.c (.int 0))) (.c (.str 128026086171489))) (.cons (.ret (.var 2))
    .nil) .nil)
    (.cons (.ite (.cmp .Eq (.sub (.var 4) (.c (.int 0))) (.c (.str 127970252055922))) (.cons (.ret (.tup (.cons (.var 4) .nil)))
    .nil) .nil)
    (.cons (.ite (.cmp .Eq (.sub (.var 4) (.c (.int 0))) (.c (.str 1954047342))) (.cons (.ret (.var 1))
    .nil) .nil)
    (.cons (.ite (.cmp .Eq (.var 4) (.tup (.cons (.c (.str 7628147)) (.cons (.c (.str 8101808799099676014)) (.cons (.c (.str 1718379891)) .nil))))) (.cons (.asg (.one 4) (.tup (.cons (.c (.str 7628147)) (.cons (.c (.str 8101808799099676014)) (.cons (.sub (.var 3) (.c (.str 139571412765187396326029167))) .nil)))))
    .nil) .nil)
    (.cons (.ret (.bin .Add (.tup (.cons (.var 4) .nil)) (.call 23 (.cons (.var 5) (.cons (.var 1) (.cons (.var 2) (.cons (.var 3) .nil)))))))
    .nil))))))))⟩
/-- 24: _law_whole -/
noncomputable def p_24 : Fn := ⟨7, [0, 1, 2],
  (.cons (.asg (.one 3) (.ite (.cmp .Eq (.sub (.var 0) (.c (.int 1))) (.tup (.cons (.c (.str 128026086171489)) .nil))) (.var 1) (.tup (.cons (.tup (.cons (.c (.str 127970252055922)) .nil)) .nil))))
    (.cons (.for_ (.many [4, 5]) .plain (.rev (.sub (.var 0) (.c (.int 0)))) (.cons (.asg (.one 3) (.call 23 (.cons (.var 5) (.cons (.var 3) (.cons (.var 1) (.cons (.var 2) .nil))))))
    .nil))
    (.cons (.ret (.var 3))
    .nil)))⟩
/-- 25: _law_holds -/
noncomputable def p_25 : Fn := ⟨10, [0, 1, 2, 3],
  (.cons (.asg (.one 4) (.sub (.sub (.sub (.var 2) (.c (.str 29401359423861601))) (.c (.int 0))) (.c (.int 1))))
    (.cons (.ite (.cmp .Eq (.sub (.var 0) (.c (.int 0))) (.c (.str 29295))) (.cons (.ret (.or (.call 25 (.cons (.sub (.var 0) (.c (.int 1))) (.cons (.var 1) (.cons (.var 2) (.cons (.var 3) .nil))))) (.call 25 (.cons (.sub (.var 0) (.c (.int 2))) (.cons (.var 1) (.cons (.var 2) (.cons (.var 3) .nil)))))))
    .nil) .nil)
    (.cons (.ite (.cmp .Eq (.sub (.var 0) (.c (.int 0))) (.c (.str 7630702))) (.cons (.ret (.not (.call 25 (.cons (.sub (.var 0) (.c (.int 1))) (.cons (.var 1) (.cons (.var 2) (.cons (.var 3) .nil)))))))
    .nil) .nil)
    (.cons (.ite (.cmp .Eq (.sub (.var 0) (.c (.int 0))) (.c (.str 2240444390150436122467))) (.cons (.ret (.cmp .In (.sub (.var 0) (.c (.int 1))) (.meth .get (.var 2) (.cons (.c (.str 139505373566937160341090147)) (.cons (.tup .nil) .nil)))))
    .nil) .nil)
    (.cons (.ite (.cmp .Eq (.sub (.var 0) (.c (.int 0))) (.c (.str 7561576))) (.cons (.ret (.cmp .Gt (.meth .count (.var 4) (.cons (.sub (.var 0) (.c (.int 1))) .nil)) (.c (.int 0))))
    .nil) .nil)
    (.cons (.ite (.cmp .Eq (.sub (.var 0) (.c (.int 0))) (.c (.str 500153084262))) (.cons (.ret (.cmp .Eq (.sub (.var 4) (.c (.int 0))) (.sub (.var 0) (.c (.int 1)))))
    .nil) .nil)
    (.cons (.ite (.cmp .Eq (.sub (.var 0) (.c (.int 0))) (.c (.str 132394084823664))) (.cons (.ret (.and (.cmp .Eq (.bin .FloorDiv (.sub (.var 1) (.c (.int 0))) (.bin .Pow (.c (.int 2)) (.c (.int 24)))) (.c (.int 10))) (.cmp .GtE (.sub (.var 1) (.c (.int 1))) (.c (.int 16)))))
    .nil) .nil)
    (.cons (.asg (.one 5) (.dict (.cons (.c (.str 6579565)) (.meth .get (.var 2) (.cons (.c (.str 6579565)) (.cons (.c (.int 0)) .nil))) (.cons (.c (.str 483552748545009705512812)) (.meth .get (.var 2) (.cons (.c (.str 483552748599985286901612)) (.cons (.c (.int 0)) .nil))) (.cons (.c (.str 6775156)) (.meth .get (.var 2) (.cons (.c (.str 6775156)) (.cons (.c (.int 0)) .nil))) .nil)))))
    (.cons (.asgm (.sub (.var 5) (.c (.str 1926849177878679876449)) (.sub (.var 5) (.c (.str 8101808799099676014)) .nil)) (.tup (.cons (.fn .len (.var 4)) (.cons (.sub (.var 2) (.c (.str 8101809013848040814))) .nil))))
    (.cons (.asgm (.sub (.var 5) (.c (.str 32476470142395760)) (.sub (.var 5) (.c (.str 121398985585263)) .nil)) (.tup (.cons (.sub (.var 3) (.c (.str 32476684890760560))) (.cons (.sub (.var 2) (.c (.str 121398985585263))) .nil))))
    (.cons (.asg (.many [6, 7]) (.tup (.cons (.sub (.var 5) (.sub (.var 0) (.c (.int 1)))) (.cons (.sub (.var 0) (.c (.int 3))) .nil))))
    (.cons (.ret (.sub (.dict (.cons (.c (.str 61)) (.cmp .Eq (.var 6) (.var 7)) (.cons (.c (.str 15649)) (.cmp .NotEq (.var 6) (.var 7)) (.cons (.c (.str 60)) (.cmp .Lt (.var 6) (.var 7)) (.cons (.c (.str 62)) (.cmp .Gt (.var 6) (.var 7)) (.cons (.c (.str 15678)) (.cmp .GtE (.var 6) (.var 7)) .nil)))))) (.sub (.var 0) (.c (.int 2)))))
    .nil))))))))))))⟩
/-- 26: _law_turned -/
noncomputable def p_26 : Fn := ⟨10, [0, 1, 2],
  (.cons (.asg (.one 3) (.fn .dict (.fn .items (.var 1))))
    (.cons (.ite (.cmp .Eq (.sub (.var 0) (.c (.int 0))) (.c (.str 7628147))) (.cons (.asg (.one 4) (.meth .get (.dict (.cons (.c (.str 483552748545009705512812)) (.c (.str 483552748599985286901612)) (.cons (.c (.str 8101808799099676014)) (.c (.str 8101809013848040814)) .nil))) (.cons (.sub (.var 0) (.c (.int 1))) (.cons (.sub (.var 0) (.c (.int 1))) .nil))))
    (.cons (.asub (.var 3) (.var 4) (.ite (.cmp .Eq (.sub (.var 0) (.c (.int 2))) (.c (.str 1718379891))) (.sub (.var 2) (.c (.str 139571412765187396326029167))) (.sub (.var 0) (.c (.int 2)))))
    (.cons (.ret (.var 3))
    .nil))) .nil)
    (.cons (.ite (.cmp .Eq (.sub (.var 0) (.c (.int 0))) (.c (.str 28268879627514480))) (.cons (.asub (.var 3) (.c (.str 29401359423861601)) (.tup (.cons (.tup (.cons (.c (.int 2)) (.cons (.bin .Add (.bin .Mult (.tup (.cons (.sub (.var 0) (.c (.int 1))) .nil)) (.sub (.var 0) (.c (.int 2)))) (.sub (.sub (.sub (.var 1) (.c (.str 29401359423861601))) (.c (.int 0))) (.c (.int 1)))) .nil))) .nil)))
    (.cons (.ret (.var 3))
    .nil)) .nil)
    (.cons (.asg (.one 5) (.meth .get (.var 1) (.cons (.c (.str 139505373566937160341090147)) (.cons (.tup .nil) .nil))))
    (.cons (.ite (.cmp .Eq (.sub (.var 0) (.c (.int 0))) (.c (.str 6579297))) (.cons (.asg (.one 6) (.lcomp 4 [(2, 5), (3, 0)] (.one 1) .plain (.tup (.cons (.c (.int 1)) (.cons (.c (.int 2)) .nil))) (.or (.cmp .In (.var 1) (.var 2)) (.cmp .Eq (.var 1) (.sub (.var 3) (.c (.int 1))))) (.var 1)))
    .nil) (.cons (.asg (.one 6) (.lcomp 3 [(2, 0)] (.one 1) .plain (.var 5) (.and (.cmp .Eq (.sub (.var 2) (.c (.int 0))) (.c (.str 1886351972))) (.cmp .NotEq (.var 1) (.sub (.var 2) (.c (.int 1))))) (.var 1)))
    .nil))
    (.cons (.asub (.var 3) (.c (.str 139505373566937160341090147)) (.fn .tuple (.var 6)))
    (.cons (.ite (.cmp .Eq (.var 6) (.list .nil)) (.cons (.expr (.meth .pop1 (.var 3) (.cons (.c (.str 139505373566937160341090147)) .nil)))
    .nil) .nil)
    (.cons (.ret (.var 3))
    .nil))))))))⟩
/-- 27: _law_own -/
noncomputable def p_27 : Fn := ⟨12, [0, 1, 2, 3],
  (.cons (.asg (.one 4) (.c (.str 0)))
    (.cons (.for_ (.many [5, 6]) .plain (.sub (.var 0) (.c (.int 0))) (.cons (.asg (.many [7, 4]) (.tup (.cons (.fn .list (.var 6)) (.cons (.c (.str 0)) .nil))))
    (.cons (.while_ (.and (.cmp .NotEq (.var 7) (.list .nil)) (.cmp .Eq (.var 4) (.c (.str 0)))) (.cons (.asg (.one 8) (.meth .pop0 (.var 7) (.cons (.c (.int 0)) .nil)))
    (.cons (.ite (.cmp .Eq (.sub (.var 8) (.c (.int 0))) (.c (.str 26217))) (.cons (.asg (.one 7) (.bin .Add (.fn .list (.ite (.call 25 (.cons (.sub (.var 8) (.c (.int 1))) (.cons (.var 1) (.cons (.var 2) (.cons (.var 3) .nil))))) (.sub (.var 8) (.c (.int 2))) (.sub (.var 8) (.c (.int 3))))) (.var 7)))
    .nil) (.cons (.ite (.cmp .In (.sub (.var 8) (.c (.int 0))) (.tup (.cons (.c (.str 128026086171489)) (.cons (.c (.str 127970252055922)) (.cons (.c (.str 1954047342)) .nil))))) (.cons (.asg (.one 4) (.sub (.var 8) (.c (.int 0))))
    .nil) (.cons (.asg (.one 2) (.call 26 (.cons (.var 8) (.cons (.var 2) (.cons (.var 3) .nil)))))
    .nil))
    .nil))
    .nil)))
    (.cons (.ite (.or (.cmp .Eq (.var 4) (.c (.str 128026086171489))) (.cmp .Eq (.var 4) (.c (.str 127970252055922)))) (.cons (.ret (.ite (.cmp .Eq (.var 4) (.c (.str 128026086171489))) (.var 2) (.c .none)))
    .nil) .nil)
    .nil))))
    (.cons (.ret (.ite (.cmp .Eq (.sub (.var 0) (.c (.int 1))) (.tup (.cons (.c (.str 128026086171489)) .nil))) (.var 2) (.c .none)))
    .nil)))⟩
/-- 28: law -/
noncomputable def p_28 : Fn := ⟨24, [0],
  (.cons (.asg (.one 1) (.list (.cons (.fn .list (.slice (.var 0) (.c .none) (.c (.int 60)))) (.cons (.c (.int 0)) .nil))))
    (.cons (.asg (.many [2, 3]) (.tup (.cons (.call 20 (.cons (.var 1) .nil)) (.cons (.call 20 (.cons (.var 1) .nil)) .nil))))
    (.cons (.asg (.one 4) (.sub (.tup (.cons (.tup (.cons (.bin .Mult (.c (.int 10)) (.bin .Pow (.c (.int 2)) (.c (.int 24)))) (.cons (.c (.int 8)) .nil))) (.cons (.tup (.cons (.bin .Add (.bin .Mult (.c (.int 10)) (.bin .Pow (.c (.int 2)) (.c (.int 24)))) (.bin .Pow (.c (.int 2)) (.c (.int 16)))) (.cons (.c (.int 16)) .nil))) (.cons (.tup (.cons (.bin .Mult (.c (.int 11)) (.bin .Pow (.c (.int 2)) (.c (.int 24)))) (.cons (.c (.int 16)) .nil))) .nil)))) (.call 16 (.cons (.var 1) (.cons (.c (.int 3)) .nil)))))
    (.cons (.asg (.many [5, 6]) (.tup (.cons (.dict (.cons (.c (.str 139571412765187396326029167)) (.c (.int 9)) (.cons (.c (.str 32476684890760560)) (.bin .Add (.c (.int 3)) (.call 16 (.cons (.var 1) (.cons (.c (.int 2)) .nil)))) .nil))) (.cons (.dict (.cons (.c (.str 139571412765187396326029167)) (.c (.int 8)) (.cons (.c (.str 32476684890760560)) (.bin .Add (.c (.int 3)) (.call 16 (.cons (.var 1) (.cons (.c (.int 2)) .nil)))) .nil))) .nil))))
    (.cons (.asg (.one 7) (.tup (.cons (.tup (.cons (.tup (.cons (.c (.str 6647407)) (.cons (.call 24 (.cons (.var 2) (.cons (.call 24 (.cons (.var 3) (.cons (.tup (.cons (.tup (.cons (.c (.str 128026086171489)) .nil)) .nil)) (.cons (.var 6) .nil)))) (.cons (.var 5) .nil)))) .nil))) .nil)) (.cons (.tup (.cons (.c (.str 127970252055922)) .nil)) .nil))))
    (.cons (.for_ (.one 8) .range (.c (.int 3)) (.cons (.asg (.one 9) (.call 21 (.cons (.var 1) .nil)))
    (.cons (.asg (.many [10, 11]) (.tup (.cons (.fn .dict (.fn .items (.var 9))) (.cons (.call 15 (.cons (.var 2) (.cons (.var 4) (.cons (.var 9) (.cons (.var 5) .nil))))) .nil))))
    (.cons (.asg (.one 12) (.call 27 (.cons (.var 2) (.cons (.var 4) (.cons (.var 9) (.cons (.var 5) .nil))))))
    (.cons (.ite (.or (.cmp .NotEq (.var 11) (.var 12)) (.cmp .NotEq (.var 9) (.var 10))) (.cons (.ret (.c (.bool false)))
    .nil) .nil)
    (.cons (.ite (.cmp .IsNot (.var 12) (.c .none)) (.cons (.asg (.one 12) (.call 27 (.cons (.var 3) (.cons (.var 4) (.cons (.var 12) (.cons (.var 6) .nil))))))
    .nil) .nil)
    (.cons (.ite (.cmp .IsNot (.var 11) (.c .none)) (.cons (.asg (.one 13) (.fn .dict (.fn .items (.var 11))))
    (.cons (.asg (.one 14) (.call 15 (.cons (.var 3) (.cons (.var 4) (.cons (.var 11) (.cons (.var 6) .nil))))))
    (.cons (.ite (.or (.cmp .NotEq (.var 14) (.var 12)) (.cmp .NotEq (.var 11) (.var 13))) (.cons (.ret (.c (.bool false)))
    .nil) .nil)
    .nil))) .nil)
    (.cons (.ite (.cmp .NotEq (.call 15 (.cons (.var 7) (.cons (.var 4) (.cons (.var 9) (.cons (.dict .nil) .nil))))) (.var 12)) (.cons (.ret (.c (.bool false)))
    .nil) .nil)
    .nil))))))))
    (.cons (.ret (.c (.bool true)))
    .nil)))))))⟩
noncomputable def tab02 (i : Nat) : Option Fn := match i with
  | 0 => some p_0
  | 1 => some p_1
  | 2 => some p_2
  | 3 => some p_3
  | 4 => some p_4
  | 5 => some p_5
  | 6 => some p_6
  | 7 => some p_7
  | 8 => some p_8
  | 9 => some p_9
  | 10 => some p_10
  | 11 => some p_11
  | 12 => some p_12
  | 13 => some p_13
  | 14 => some p_14
  | 15 => some p_15
  | 16 => some p_16
  | 17 => some p_17
  | 18 => some p_18
  | 19 => some p_19
  | 20 => some p_20
  | 21 => some p_21
  | 22 => some p_22
  | 23 => some p_23
  | 24 => some p_24
  | 25 => some p_25
  | 26 => some p_26
  | 27 => some p_27
  | 28 => some p_28
  | _ => none
end Mine
/-! Rt -/
namespace Mine.Pl
/-! a route as a record; the dict that holds it -/
noncomputable abbrev kOrigin : Key := .s 121398985585263
noncomputable abbrev kPath : Key := .s 29401359423861601
noncomputable abbrev kNh : Key := .s 8101809013848040814
noncomputable abbrev kMed : Key := .s 6579565
noncomputable abbrev kLp : Key := .s 483552748599985286901612
noncomputable abbrev kTag : Key := .s 6775156
noncomputable abbrev kComm : Key := .s 139505373566937160341090147
noncomputable def pathV (nums : List Int) : V := .tup [.tup [.int 2, .tup (nums.map .int)]]
noncomputable def pv : Option (List Int) → V
  | none => .tup []
  | some l => pathV l
structure Rt where
  origin : Int
  path : Option (List Int)
  nh : Int
  med : Option Int
  lp : Option Int
  tag : Option Int
  comm : List Int
  deriving DecidableEq, Inhabited
noncomputable def Rt.get (r : Rt) (k : Key) : Option V :=
  if k = kOrigin then some (.int r.origin) else if k = kPath then some (pv r.path) else if k = kNh then some (.int r.nh)
  else if k = kMed then r.med.map .int else if k = kLp then r.lp.map .int else if k = kTag then r.tag.map .int
  else if k = kComm then (if r.comm = [] then none else some (.tup (r.comm.map .int))) else none
noncomputable def DictOf (l : List (Key × V)) (r : Rt) : Prop := (l.map (·.1)).Nodup ∧ ∀ k, getK l k = r.get k

theorem getK_nil (k : Key) : getK [] k = none := rfl
theorem getK_cons (a : Key) (v : V) (l : List (Key × V)) (k : Key) : getK ((a, v) :: l) k = if a = k then some v else getK l k := by
  unfold getK
  rw [List.find?_cons]
  by_cases h : a = k <;> simp [h]
theorem getK_append (k : Key) : ∀ (l m : List (Key × V)), getK (l ++ m) k = (getK l k).or (getK m k)
  | [], m => by simp [getK_nil]
  | (a, v) :: l, m => by
    rw [List.cons_append, getK_cons, getK_cons, getK_append k l m]
    by_cases h : a = k <;> simp [h]
theorem getK_none_iff (k : Key) : ∀ (l : List (Key × V)), getK l k = none ↔ k ∉ l.map (·.1)
  | [] => by simp [getK_nil]
  | (a, v) :: l => by
    rw [getK_cons, List.map_cons, List.mem_cons]
    by_cases h : a = k
    · simp [h]
    · rw [if_neg h, getK_none_iff k l]
      constructor
      · intro h1 h2
        rcases h2 with h2 | h2
        · exact h h2.symm
        · exact h1 h2
      · exact fun h1 h2 => h1 (Or.inr h2)
theorem any_getK (k : Key) : ∀ (l : List (Key × V)), (l.any fun p => decide (p.1 = k)) = (getK l k).isSome
  | [] => rfl
  | (a, v) :: l => by
    rw [List.any_cons, getK_cons, any_getK k l]
    by_cases h : a = k <;> simp [h]
theorem getK_map (k k' : Key) (v : V) : ∀ (l : List (Key × V)), getK (l.map fun p => if p.1 = k then (p.1, v) else p) k' = if k' = k then (getK l k).map (fun _ => v) else getK l k'
  | [] => by simp [getK_nil]
  | (a, w) :: l => by
    rw [List.map_cons]
    dsimp only
    by_cases h : a = k
    · rw [if_pos h, getK_cons, getK_cons, getK_cons, if_pos h, getK_map k k' v l]
      by_cases h' : k' = k
      · rw [if_pos (by rw [h, h']), if_pos h']; rfl
      · rw [if_neg (by rw [h]; exact fun e => h' e.symm), if_neg h', if_neg h', if_neg (by rw [h]; exact fun e => h' e.symm)]
    · rw [if_neg h, getK_cons, getK_cons, getK_cons, if_neg h, getK_map k k' v l]
      by_cases h' : k' = k
      · rw [if_neg (by rw [h']; exact h), if_pos h', if_pos h']
      · rw [if_neg h', if_neg h']
theorem getK_setK (l : List (Key × V)) (k k' : Key) (v : V) : getK (setK l k v) k' = if k' = k then some v else getK l k' := by
  unfold setK
  rw [any_getK]
  split
  · next h =>
    rw [getK_map]
    obtain ⟨w, hw⟩ := Option.isSome_iff_exists.mp h
    rw [hw]; rfl
  · next h =>
    rw [getK_append, getK_cons, getK_nil]
    by_cases h' : k' = k
    · rw [if_pos h', if_pos h'.symm, h']
      have : getK l k = none := by simpa using h
      rw [this]; rfl
    · rw [if_neg h', if_neg (fun e => h' e.symm)]; simp
theorem nodup_setK {l : List (Key × V)} (h : (l.map (·.1)).Nodup) (k : Key) (v : V) : ((setK l k v).map (·.1)).Nodup := by
  unfold setK
  rw [any_getK]
  split
  · have : (l.map fun p => if p.1 = k then (p.1, v) else p).map (·.1) = l.map (·.1) := by
      rw [List.map_map]
      apply List.map_congr_left
      intro p _
      by_cases h' : p.1 = k <;> simp [h']
    rw [this]; exact h
  · next h' =>
    have : getK l k = none := by simpa using h'
    rw [getK_none_iff] at this
    rw [List.map_append, List.nodup_append]
    refine ⟨h, by simp, ?_⟩
    intro a ha b hb e
    simp at hb
    rw [e, hb] at ha
    exact this ha
theorem getK_filter (keep : Key → Bool) (k : Key) : ∀ (l : List (Key × V)), getK (l.filter fun p => keep p.1) k = if keep k then getK l k else none
  | [] => by simp [getK_nil]
  | (a, v) :: l => by
    rw [List.filter_cons, getK_cons]
    dsimp only
    by_cases h : keep a = true
    · rw [if_pos h, getK_cons, getK_filter keep k l]
      by_cases h' : a = k
      · rw [if_pos h', if_pos (h' ▸ h), if_pos h']
      · rw [if_neg h', if_neg h']
    · rw [if_neg h, getK_filter keep k l]
      by_cases h' : a = k
      · rw [if_neg (h' ▸ h), if_neg (h' ▸ h)]
      · rw [if_neg h']
theorem nodup_filter {l : List (Key × V)} (h : (l.map (·.1)).Nodup) (f : Key × V → Bool) : ((l.filter f).map (·.1)).Nodup :=
  List.Nodup.sublist (List.Sublist.map _ List.filter_sublist) h

/-! counting -/
theorem nodup_le {α : Type} [DecidableEq α] : ∀ (l m : List α), l.Nodup → (∀ a ∈ l, a ∈ m) → l.length ≤ m.length
  | [], _, _, _ => Nat.zero_le _
  | a :: l, m, hn, hs => by
    rw [List.nodup_cons] at hn
    have ha := hs a (by simp)
    have := nodup_le l (m.erase a) hn.2 (fun b hb => by
      have hne : b ≠ a := fun e => hn.1 (e ▸ hb)
      exact (List.mem_erase_of_ne hne).mpr (hs b (by simp [hb])))
    rw [List.length_erase_of_mem ha] at this
    have : 0 < m.length := List.length_pos_of_mem ha
    simp only [List.length_cons]; omega
theorem pigeon {α : Type} [DecidableEq α] : ∀ (l m : List α), l.Nodup → (∀ a ∈ l, a ∈ m) → m.length ≤ l.length → ∀ a ∈ m, a ∈ l
  | [], m, _, _, hl => by
    have : m = [] := List.eq_nil_of_length_eq_zero (by simpa using hl)
    intro a ha; rw [this] at ha; exact ha
  | a :: l, m, hn, hs, hl => by
    rw [List.nodup_cons] at hn
    have ha := hs a (by simp)
    have h := pigeon l (m.erase a) hn.2 (fun b hb => by
      have hne : b ≠ a := fun e => hn.1 (e ▸ hb)
      exact (List.mem_erase_of_ne hne).mpr (hs b (by simp [hb]))) (by rw [List.length_erase_of_mem ha]; simp only [List.length_cons] at hl; omega)
    intro b hb
    by_cases e : b = a
    · rw [e]; simp
    · exact List.mem_cons_of_mem _ (h b ((List.mem_erase_of_ne e).mpr hb))

theorem mem_getK {l : List (Key × V)} (hn : (l.map (·.1)).Nodup) : ∀ p ∈ l, getK l p.1 = some p.2 := by
  induction l with
  | nil => intro p hp; cases hp
  | cons q l ih =>
    obtain ⟨a, v⟩ := q
    rw [List.map_cons, List.nodup_cons] at hn
    intro p hp
    rw [getK_cons]
    rcases List.mem_cons.mp hp with h | h
    · rw [h]; simp
    · have hne : a ≠ p.1 := fun e => hn.1 (by dsimp only; rw [e]; exact List.mem_map.mpr ⟨p, h, rfl⟩)
      rw [if_neg hne]; exact ih hn.2 p h

/-! what the record says -/
theorem Rt.get_inj {r s : Rt} (h : ∀ k, r.get k = s.get k) : r = s := by
  have pvi : ∀ a b : Option (List Int), pv a = pv b → a = b := by
    intro a b e
    cases a <;> cases b <;> simp only [pv, pathV, V.tup.injEq, List.cons.injEq, reduceCtorEq, and_true, true_and] at e
    · rfl
    · rw [show _ = _ from (List.map_inj_right (by intro x y h; exact V.int.inj h)).mp e]
  have h1 := h kOrigin
  have h2 := h kPath
  have h3 := h kNh
  have h4 := h kMed
  have h5 := h kLp
  have h6 := h kTag
  have h7 := h kComm
  simp [Rt.get] at h1 h2 h3 h4 h5 h6 h7
  have e4 : r.med = s.med := by
    rcases hr : r.med with _ | x <;> rcases hs : s.med with _ | y <;> simp [hr, hs] at h4 ⊢
    exact h4
  have e5 : r.lp = s.lp := by
    rcases hr : r.lp with _ | x <;> rcases hs : s.lp with _ | y <;> simp [hr, hs] at h5 ⊢
    exact h5
  have e6 : r.tag = s.tag := by
    rcases hr : r.tag with _ | x <;> rcases hs : s.tag with _ | y <;> simp [hr, hs] at h6 ⊢
    exact h6
  have e7 : r.comm = s.comm := by
    by_cases a : r.comm = [] <;> by_cases b : s.comm = [] <;> simp [a, b] at h7 ⊢
    exact (List.map_inj_right (by intro x y h; exact V.int.inj h)).mp h7
  have e2 := pvi _ _ h2
  cases r; cases s
  simp only at *
  subst h1; subst e2; subst h3; subst e4; subst e5; subst e6; subst e7
  rfl
end Mine.Pl
/-! RtE -/
namespace Mine.Pl
theorem eqV_int (H : AH) (n : Nat) (a b : Int) : eqV H n (.int a) (.int b) = some (a == b) := by cases n <;> rfl
theorem eqVs_ints (H : AH) (n : Nat) (x : List Int) : ∀ y : List Int, eqVs (eqV H n) (x.map .int) (y.map .int) = some (decide (x = y)) := by
  induction x with
  | nil => intro y; cases y <;> rfl
  | cons a x ih =>
    intro y
    cases y with
    | nil => rfl
    | cons b y =>
      show obn (eqV H n (.int a) (.int b)) (fun u => obn (eqVs (eqV H n) (x.map .int) (y.map .int)) fun v => some (u && v)) = _
      rw [eqV_int, ih]
      show some ((a == b) && decide (x = y)) = _
      congr 1
      by_cases e : a = b <;> simp [e]
theorem eqV_path (H : AH) (n : Nat) (a b : Option (List Int)) : eqV H (n + 3) (pv a) (pv b) = some (decide (a = b)) := by
  cases a with
  | none => cases b <;> rfl
  | some x =>
    cases b with
    | none => rfl
    | some y =>
      show obn (obn (obn (eqVs (eqV H n) (x.map .int) (y.map .int)) fun v => some (v && true)) fun v => some (((2 : Int) == 2) && v)) (fun u => some (u && true)) = _
      rw [eqVs_ints]
      show some ((true && (decide (x = y) && true)) && true) = _
      by_cases e : x = y <;> simp [e]
/-- values that a route holds under one name are told apart -/
theorem eqV_get (H : AH) (r s : Rt) (k : Key) (v w : V) (hv : r.get k = some v) (hw : s.get k = some w) : ∃ b, eqV H 64 v w = some b ∧ (b = true ↔ v = w) := by
  have hi : ∀ a b : Int, ∃ t, eqV H 64 (.int a) (.int b) = some t ∧ (t = true ↔ V.int a = V.int b) := fun a b => ⟨a == b, rfl, by simp⟩
  have ho : ∀ a b : Option Int, ∀ v w, a.map V.int = some v → b.map V.int = some w → ∃ t, eqV H 64 v w = some t ∧ (t = true ↔ v = w) := by
    intro a b v w h1 h2
    rcases a with _ | a
    · cases h1
    · rcases b with _ | b
      · cases h2
      · injection h1 with h1; injection h2 with h2; subst h1; subst h2; exact hi a b
  unfold Rt.get at hv hw
  split at hv
  · next e => rw [if_pos e] at hw; injection hv with hv; injection hw with hw; subst hv; subst hw; exact hi _ _
  rename_i e1; rw [if_neg e1] at hw
  split at hv
  · next e =>
    rw [if_pos e] at hw; injection hv with hv; injection hw with hw; subst hv; subst hw
    refine ⟨_, eqV_path H 61 _ _, ?_⟩
    rw [decide_eq_true_iff]
    constructor
    · intro e; rw [e]
    · intro e
      have : (Rt.mk 0 r.path 0 none none none []) = Rt.mk 0 s.path 0 none none none [] := Rt.get_inj fun k => by simp only [Rt.get, e]
      injection this
  rename_i e2; rw [if_neg e2] at hw
  split at hv
  · next e => rw [if_pos e] at hw; injection hv with hv; injection hw with hw; subst hv; subst hw; exact hi _ _
  rename_i e3; rw [if_neg e3] at hw
  split at hv
  · next e => rw [if_pos e] at hw; exact ho _ _ _ _ hv hw
  rename_i e4; rw [if_neg e4] at hw
  split at hv
  · next e => rw [if_pos e] at hw; exact ho _ _ _ _ hv hw
  rename_i e5; rw [if_neg e5] at hw
  split at hv
  · next e => rw [if_pos e] at hw; exact ho _ _ _ _ hv hw
  rename_i e6; rw [if_neg e6] at hw
  split at hv
  · next e =>
    rw [if_pos e] at hw
    split at hv
    · cases hv
    split at hw
    · cases hw
    injection hv with hv; injection hw with hw; subst hv; subst hw
    refine ⟨_, eqVs_ints H 63 _ _, ?_⟩
    rw [decide_eq_true_iff]
    constructor
    · intro e; rw [e]
    · intro e
      injection e with e
      exact (List.map_inj_right (by intro x y h; exact V.int.inj h)).mp e
  · cases hv
theorem eqDs_spec (f : V → V → Option Bool) (m l : List (Key × V)) : (∀ p ∈ l, ∀ w, getK m p.1 = some w → ∃ b, f p.2 w = some b ∧ (b = true ↔ p.2 = w)) →
    ∃ b, eqDs f m l = some b ∧ (b = true ↔ ∀ p ∈ l, getK m p.1 = some p.2) := by
  induction l with
  | nil => exact fun _ => ⟨true, rfl, iff_of_true rfl fun _ h => nomatch h⟩
  | cons p r ih =>
    intro h
    obtain ⟨b, hb, hb'⟩ := ih fun q hq => h q (.tail _ hq)
    have e : eqDs f m (p :: r) = caO (getK m p.1) (some false) fun w => obn (f p.2 w) fun x => obn (eqDs f m r) fun y => some (x && y) := rfl
    rw [e, List.forall_mem_cons]
    rcases hk : getK m p.1 with _ | w
    · exact ⟨false, rfl, iff_of_false Bool.false_ne_true fun q => nomatch q.1⟩
    · obtain ⟨x, hx, hx'⟩ := h p (.head _) w hk
      refine ⟨x && b, ?_, ?_⟩
      · show obn (f p.2 w) _ = _
        rw [hx, hb]; rfl
      · rw [Bool.and_eq_true, hx', hb']
        exact ⟨fun h => ⟨by rw [h.1], h.2⟩, fun h => ⟨(Option.some.inj h.1).symm, h.2⟩⟩
theorem DictOf.len_le {l m : List (Key × V)} {r : Rt} (hl : DictOf l r) (hm : DictOf m r) : l.length ≤ m.length := by
  have := nodup_le (l.map (·.1)) (m.map (·.1)) hl.1 (fun a ha => by
    apply Decidable.byContradiction
    intro h
    have h1 := (getK_none_iff a m).mpr h
    rw [hm.2, ← hl.2, getK_none_iff] at h1
    exact h1 ha)
  simpa using this
theorem DictOf.seven {l : List (Key × V)} {r : Rt} (hl : DictOf l r) : l.length ≤ 7 := by
  have := nodup_le (l.map (·.1)) [kOrigin, kPath, kNh, kMed, kLp, kTag, kComm] hl.1 (fun a ha => by
    apply Decidable.byContradiction
    intro h
    simp only [List.mem_cons, List.not_mem_nil, or_false, not_or] at h
    obtain ⟨h1, h2, h3, h4, h5, h6, h7⟩ := h
    have : getK l a = none := by
      rw [hl.2]
      unfold Rt.get
      rw [if_neg h1, if_neg h2, if_neg h3, if_neg h4, if_neg h5, if_neg h6, if_neg h7]
    rw [getK_none_iff] at this
    exact this ha)
  simpa using this
theorem eq_dict (H : AH) {l m : List (Key × V)} {r s : Rt} (hl : DictOf l r) (hm : DictOf m s) : eqD (eqV H 64) l m = some (decide (r = s)) := by
  unfold eqD
  split
  · next hlen =>
    obtain ⟨b, hb, hb'⟩ := eqDs_spec (eqV H 64) m l (fun p hp w hw => eqV_get H r s p.1 p.2 w (by rw [← hl.2]; exact mem_getK hl.1 p hp) (by rw [← hm.2]; exact hw))
    rw [hb]
    congr 1
    rw [Bool.eq_iff_iff, hb', decide_eq_true_iff]
    constructor
    · intro h
      apply Rt.get_inj
      intro k
      rw [← hl.2, ← hm.2]
      rcases hk : getK l k with _ | v
      · rw [getK_none_iff] at hk
        have hp := pigeon (l.map (·.1)) (m.map (·.1)) hl.1 (fun a ha => by
          obtain ⟨p, hp, e⟩ := List.mem_map.mp ha
          apply Decidable.byContradiction
          intro hn
          have := (getK_none_iff a m).mpr hn
          rw [← e, h p hp] at this
          cases this) (by simp [hlen])
        symm
        rw [getK_none_iff]
        exact fun h' => hk (hp k h')
      · unfold getK at hk
        rcases hf : l.find? (fun p => decide (p.1 = k)) with _ | p
        · rw [hf] at hk; cases hk
        · rw [hf] at hk
          have h1 : p.1 = k := by simpa using List.find?_some hf
          have h2 : p.2 = v := by simpa using hk
          have := h p (List.mem_of_find?_eq_some hf)
          rw [h1, h2] at this
          exact this.symm
    · intro e p hp
      rw [hm.2, ← e, ← hl.2]
      exact mem_getK hl.1 p hp
  · next hlen =>
    congr 1
    symm
    rw [decide_eq_false_iff_not]
    intro e
    subst e
    exact hlen (Nat.le_antisymm (hl.len_le hm) (hm.len_le hl))
end Mine.Pl
/-! Sym -/
namespace Mine.Pl
theorem getK_mid {a b : List (Key × V)} {k : Key} {v : V} (hn : ((a ++ (k, v) :: b).map (·.1)).Nodup) : getK (a ++ (k, v) :: b) k = some v := by
  have hna : ∀ p ∈ a, p.1 ≠ k := by
    intro p hp e
    rw [List.map_append, List.nodup_append] at hn
    exact hn.2.2 p.1 (List.mem_map.mpr ⟨p, hp, rfl⟩) k (by simp) e
  have h1 : a.find? (fun p => decide (p.1 = k)) = none := by
    rw [List.find?_eq_none]
    intro p hp
    simpa using hna p hp
  unfold getK
  rw [List.find?_append, h1]
  simp
theorem fold_self (l : List (Key × V)) : ∀ l₀ : List (Key × V), ((l₀ ++ l).map (·.1)).Nodup → l.foldl (fun d p => setK d p.1 p.2) l₀ = l₀ ++ l := by
  induction l with
  | nil => intro l₀ _; simp
  | cons p l ih =>
    intro l₀ hn
    have hna : l₀.any (fun q => decide (q.1 = p.1)) = false := by
      rw [List.any_eq_false]
      intro q hq e
      rw [List.map_append, List.nodup_append] at hn
      exact hn.2.2 q.1 (List.mem_map.mpr ⟨q, hq, rfl⟩) p.1 (by simp) (by simpa using e)
    have e : setK l₀ p.1 p.2 = l₀ ++ [p] := by unfold setK; rw [hna]; rfl
    rw [List.foldl_cons, e, ih (l₀ ++ [p]) (by simpa using hn)]
    simp
section
variable {α β γ : Type} {a : α} {b : β} {f : α → β → Option γ}
theorem bnd_e {o : Option (α × β)} (h : o = some (a, b)) : bnd o f = f a b := by rw [h]; rfl
theorem obn_e {o : Option α} {f : α → Option γ} (h : o = some a) : obn o f = f a := by rw [h]; rfl
theorem thn_e {o : Option (Fl × Loc × AH)} {k : Loc → AH → Option (Fl × Loc × AH)} {ρ : Loc} {H : AH} (h : o = some (.next, ρ, H)) : thn o k = k ρ H := by rw [h]; rfl
theorem thn_r {o : Option (Fl × Loc × AH)} {k : Loc → AH → Option (Fl × Loc × AH)} {v : V} {ρ : Loc} {H : AH} (h : o = some (.ret v, ρ, H)) : thn o k = some (.ret v, ρ, H) := by rw [h]; rfl
theorem gua_e {p : Prop} [Decidable p] {o : Option γ} (h : p) : gua (decide p) o = o := by rw [decide_eq_true h]; rfl
end
/-- a dict rebuilt from its own items, those that a test lets through -/
theorem compI_copy (run : V → AH → Option (Option (Key × V) × AH)) (keep : Key → Bool) (l : List (Key × V)) (H : AH) (hn : (l.map (·.1)).Nodup)
    (hrun : ∀ k v, getK l k = some v → run (keyV k) H = some (if keep k then some (k, v) else none, H)) (m : List (Key × V)) : ∀ a : List (Key × V), l = a ++ m → compI run (m.map fun p => keyV p.1) H = some (m.filter (fun p => keep p.1), H) := by
  induction m with
  | nil => exact fun _ _ => rfl
  | cons p m ih =>
    intro a e
    obtain ⟨k, v⟩ := p
    have hk : getK l k = some v := by rw [e]; exact getK_mid (by rw [← e]; exact hn)
    refine (bnd_e (hrun k v hk)).trans ((bnd_e (ih (a ++ [(k, v)]) (by simp [e]))).trans ?_)
    rw [List.filter_cons]
    cases keep k <;> rfl
section
variable {G : GTab} {F : Calls} {ρ ρ' : Loc} {H H1 H' : AH} {v : V} {r : PSs}
theorem exs_ret_eq {e : PE} (h : ev G F e ρ H = some (v, H')) : exs G F (.cons (.ret e) r) ρ H = some (.ret v, ρ, H') := thn_r (bnd_e (f := fun v H1 => some (Fl.ret v, ρ, H1)) h)
theorem keyOf_keyV (k : Key) : keyOf (keyV k) = some k := by cases k <;> rfl
theorem exs_cons_eq {s : PS} (h : ex G F s ρ H = some (.next, ρ', H')) : exs G F (.cons s r) ρ H = exs G F r ρ' H' := thn_e h
theorem ex_ite_eq {c : PE} {a b : PSs} (t : Bool) (h : ev G F c ρ H = some (.bool t, H1)) : ex G F (.ite c a b) ρ H = exs G F (cond t a b) ρ H1 := by
  refine (bnd_e (f := fun v H1 => brn v (exs G F a ρ H1) (exs G F b ρ H1)) h).trans ?_
  cases t <;> rfl
theorem exs_ite_ret {c : PE} {a b : PSs} (h : ev G F c ρ H = some (.bool true, H1)) (h' : exs G F a ρ H1 = some (.ret v, ρ', H')) : exs G F (.cons (.ite c a b) r) ρ H = some (.ret v, ρ', H') := thn_r ((ex_ite_eq true h).trans h')
theorem exs_ite_go {c : PE} {a b : PSs} (t : Bool) (h : ev G F c ρ H = some (.bool t, H1)) (h' : exs G F (if t then a else b) ρ H1 = some (.next, ρ', H')) : exs G F (.cons (.ite c a b) r) ρ H = exs G F r ρ' H' :=
  thn_e ((ex_ite_eq t h).trans (by cases t <;> exact h'))
theorem callN_run {D : Nat → Option Fn} {n f : Nat} {fn : Fn} {vs : List V} (h : D f = some fn) (hv : vs.length = fn.args.length) : callN G D (n + 1) f vs H = retOf (exs G (callN G D n) fn.body (bindA fn vs) H) := (obn_e h).trans (gua_e hv)
end
noncomputable def Keep (H H' : AH) : Prop := ∀ (i : Nat) (m : MO), H[i]? = some m → H'[i]? = some m
theorem Keep.refl (H : AH) : Keep H H := fun _ _ h => h
theorem Keep.trans {A B C : AH} (h : Keep A B) (g : Keep B C) : Keep A C := fun i m e => g i m (h i m e)
theorem Keep.app (H T : AH) : Keep H (H ++ T) := fun i m h => by
  rcases Nat.lt_or_ge i H.length with hi | hi
  · rw [List.getElem?_append_left hi]; exact h
  · rw [List.getElem?_eq_none hi] at h; cases h
theorem at_len (H : AH) (m : MO) : (H ++ [m])[H.length]? = some m := by simp
noncomputable def At (H : AH) (k : Nat) (r : Rt) : Prop := ∃ l, H[k]? = some (.dict l) ∧ DictOf l r
theorem At.keep {H H' : AH} {k : Nat} {r : Rt} (h : At H k r) (g : Keep H H') : At H' k r := by
  obtain ⟨l, h1, h2⟩ := h
  exact ⟨l, g _ _ h1, h2⟩
end Mine.Pl
/-! Dv -/
namespace Mine.Pl
/-! one step of the interpreter each -/
section
variable {G : GTab} {F : Calls} {ρ ρ' : Loc} {H H1 H2 H3 : AH} {a b c i e : PE} {x y z v : V} {es : PEs} {vs : List V} {r : PSs}
theorem dv_sub (ha : ev G F a ρ H = some (x, H1)) (hi : ev G F i ρ H1 = some (y, H2)) (hs : subV x y H2 = some v) : ev G F (.sub a i) ρ H = some (v, H2) :=
  show bnd (ev G F a ρ H) (fun x H1 => bnd (ev G F i ρ H1) fun y H2 => obn (subV x y H2) fun v => some (v, H2)) = _ from (bnd_e ha).trans ((bnd_e hi).trans (obn_e hs))
theorem dv_bin {op : PySem.Operator} (ha : ev G F a ρ H = some (x, H1)) (hb : ev G F b ρ H1 = some (y, H2)) (hs : binV op x y H2 = some (v, H3)) : ev G F (.bin op a b) ρ H = some (v, H3) :=
  show bnd (ev G F a ρ H) (fun x H1 => bnd (ev G F b ρ H1) fun y H2 => binV op x y H2) = _ from (bnd_e ha).trans ((bnd_e hb).trans hs)
theorem dv_cmp {op : PySem.CmpOp} {t : Bool} (ha : ev G F a ρ H = some (x, H1)) (hb : ev G F b ρ H1 = some (y, H2)) (hs : cmpV op x y H2 = some t) : ev G F (.cmp op a b) ρ H = some (.bool t, H2) :=
  show bnd (ev G F a ρ H) (fun x H1 => bnd (ev G F b ρ H1) fun y H2 => obn (cmpV op x y H2) fun r => some (V.bool r, H2)) = _ from (bnd_e ha).trans ((bnd_e hb).trans (obn_e hs))
theorem dv_and {t : Option (V × AH)} (ha : ev G F a ρ H = some (.bool true, H1)) (hb : ev G F b ρ H1 = t) : ev G F (.and a b) ρ H = t :=
  show bnd (ev G F a ρ H) (fun v H1 => brn v (ev G F b ρ H1) (some (v, H1))) = _ from (bnd_e ha).trans hb
theorem dv_and' (ha : ev G F a ρ H = some (.bool false, H1)) : ev G F (.and a b) ρ H = some (.bool false, H1) :=
  show bnd (ev G F a ρ H) (fun v H1 => brn v (ev G F b ρ H1) (some (v, H1))) = _ from bnd_e ha
theorem dv_or {t : Option (V × AH)} (ha : ev G F a ρ H = some (.bool false, H1)) (hb : ev G F b ρ H1 = t) : ev G F (.or a b) ρ H = t :=
  show bnd (ev G F a ρ H) (fun v H1 => brn v (some (v, H1)) (ev G F b ρ H1)) = _ from (bnd_e ha).trans hb
theorem dv_or' (ha : ev G F a ρ H = some (.bool true, H1)) : ev G F (.or a b) ρ H = some (.bool true, H1) :=
  show bnd (ev G F a ρ H) (fun v H1 => brn v (some (v, H1)) (ev G F b ρ H1)) = _ from bnd_e ha
theorem dv_ite {t : Option (V × AH)} (hc : ev G F c ρ H = some (.bool true, H1)) (ha : ev G F a ρ H1 = t) : ev G F (.ite c a b) ρ H = t :=
  show bnd (ev G F c ρ H) (fun v H1 => brn v (ev G F a ρ H1) (ev G F b ρ H1)) = _ from (bnd_e hc).trans ha
theorem dv_ite' {t : Option (V × AH)} (hc : ev G F c ρ H = some (.bool false, H1)) (ha : ev G F b ρ H1 = t) : ev G F (.ite c a b) ρ H = t :=
  show bnd (ev G F c ρ H) (fun v H1 => brn v (ev G F a ρ H1) (ev G F b ρ H1)) = _ from (bnd_e hc).trans ha
theorem dv_tup (h : evs G F es ρ H = some (vs, H1)) : ev G F (.tup es) ρ H = some (.tup vs, H1) :=
  show bnd (evs G F es ρ H) (fun vs H1 => some (V.tup vs, H1)) = _ from bnd_e h
theorem dv_list (h : evs G F es ρ H = some (vs, H1)) : ev G F (.list es) ρ H = some (.ref H1.length, H1 ++ [.list vs]) :=
  show bnd (evs G F es ρ H) (fun vs H1 => some (V.ref H1.length, H1 ++ [MO.list vs])) = _ from bnd_e h
theorem dv_slice (ha : ev G F a ρ H = some (x, H1)) (hb : ev G F b ρ H1 = some (y, H2)) (hc : ev G F c ρ H2 = some (z, H3)) {t : Option (V × AH)} (hs : sliceV x y z H3 = t) : ev G F (.slice a b c) ρ H = t :=
  show bnd (ev G F a ρ H) (fun x H1 => bnd (ev G F b ρ H1) fun y H2 => bnd (ev G F c ρ H2) fun z H3 => sliceV x y z H3) = _ from (bnd_e ha).trans ((bnd_e hb).trans ((bnd_e hc).trans hs))
theorem dv_fn {f : Bi} (ha : ev G F a ρ H = some (x, H1)) {t : Option (V × AH)} (hs : fnV f x H1 = t) : ev G F (.fn f a) ρ H = t :=
  show bnd (ev G F a ρ H) (fun x H1 => fnV f x H1) = _ from (bnd_e ha).trans hs
theorem dv_meth {m : Me} {u : Unit} (ha : ev G F a ρ H = some (x, H1)) (hr : recOk m x H1 = some u) (hs : evs G F es ρ H1 = some (vs, H2)) {t : Option (V × AH)} (ht : methV m x vs H2 = t) : ev G F (.meth m a es) ρ H = t :=
  show bnd (ev G F a ρ H) (fun x H1 => obn (recOk m x H1) fun _ => bnd (evs G F es ρ H1) fun vs H2 => methV m x vs H2) = _ from (bnd_e ha).trans ((obn_e hr).trans ((bnd_e hs).trans ht))
theorem dv_call {f : Nat} (h : evs G F es ρ H = some (vs, H1)) {t : Option (V × AH)} (ht : F f vs H1 = t) : ev G F (.call f es) ρ H = t :=
  show bnd (evs G F es ρ H) (F f) = _ from (bnd_e h).trans ht
theorem dvs_nil : evs G F .nil ρ H = some ([], H) := rfl
theorem dvs_cons (h : ev G F e ρ H = some (v, H1)) (h2 : evs G F es ρ H1 = some (vs, H2)) : evs G F (.cons e es) ρ H = some (v :: vs, H2) :=
  show bnd (ev G F e ρ H) (fun v H1 => bnd (evs G F es ρ H1) fun vs H2 => some (v :: vs, H2)) = _ from (bnd_e h).trans (bnd_e h2)
theorem dx_asg {t : Tgt} (h : ev G F e ρ H = some (v, H1)) (hp : putV t v ρ = some ρ') : ex G F (.asg t e) ρ H = some (.next, ρ', H1) :=
  show bnd (ev G F e ρ H) (fun v H1 => obn (putV t v ρ) fun ρ' => some (Fl.next, ρ', H1)) = _ from (bnd_e h).trans (obn_e hp)
theorem dx_asub {H4 : AH} (h : ev G F e ρ H = some (v, H1)) (ha : ev G F a ρ H1 = some (x, H2)) (hi : ev G F i ρ H2 = some (y, H3)) (hs : storeV x y v H3 = some H4) : ex G F (.asub a i e) ρ H = some (.next, ρ, H4) :=
  show bnd (ev G F e ρ H) (fun v H1 => bnd (ev G F a ρ H1) fun x H2 => bnd (ev G F i ρ H2) fun y H3 => obn (storeV x y v H3) fun H4 => some (Fl.next, ρ, H4)) = _ from (bnd_e h).trans ((bnd_e ha).trans ((bnd_e hi).trans (obn_e hs)))
theorem dx_expr (h : ev G F e ρ H = some (v, H1)) : ex G F (.expr e) ρ H = some (.next, ρ, H1) :=
  show bnd (ev G F e ρ H) (fun _ H1 => some (Fl.next, ρ, H1)) = _ from bnd_e h
theorem dxs {s : PS} {t : Option (Fl × Loc × AH)} (h : ex G F s ρ H = some (.next, ρ', H1)) (h' : exs G F r ρ' H1 = t) : exs G F (.cons s r) ρ H = t := (exs_cons_eq h).trans h'
theorem dxs_nil : exs G F .nil ρ H = some (.next, ρ, H) := rfl
theorem dxs_ret (h : ev G F e ρ H = some (v, H1)) : exs G F (.cons (.ret e) r) ρ H = some (.ret v, ρ, H1) := exs_ret_eq h
/-- a test that does not end the block -/
theorem dx_ite {p q : PSs} (t : Bool) (h : ev G F c ρ H = some (.bool t, H1)) (h' : exs G F (cond t p q) ρ H1 = some (.next, ρ', H2)) : ex G F (.ite c p q) ρ H = some (.next, ρ', H2) := (ex_ite_eq t h).trans h'
theorem dxs_ite_ret {p q : PSs} (h : ev G F c ρ H = some (.bool true, H1)) (h' : exs G F p ρ H1 = some (.ret v, ρ', H2)) : exs G F (.cons (.ite c p q) r) ρ H = some (.ret v, ρ', H2) := exs_ite_ret h h'
theorem d_call {D : Nat → Option Fn} {n f : Nat} {fn : Fn} (h : D f = some fn) (hv : vs.length = fn.args.length) (hb : bindA fn vs = ρ) {H' : AH} (hx : exs G (callN G D n) fn.body ρ H = some (.ret v, ρ', H')) : callN G D (n + 1) f vs H = some (v, H') := by
  rw [callN_run h hv, hb, hx]; rfl
end
theorem bin_tup {x y : List V} {H : AH} (h : x.length + y.length ≤ lineN) : binV .Add (.tup x) (.tup y) H = some (.tup (x ++ y), H) := gua_e h
theorem sub_dict {H : AH} {j : Nat} {l : List (Key × V)} {k : Nat} {v : V} (h : H[j]? = some (.dict l)) (g : getK l (.s k) = some v) : subV (.ref j) (.str k) H = some v := by
  show (match lst H j with | some l => _ | none => obn (dct H j) fun l => getK l (.s k)) = _
  unfold lst dct
  rw [h]
  exact g
theorem sub_list {H : AH} {j : Nat} {l : List V} {k : Nat} {v : V} (h : H[j]? = some (.list l)) (g : l[k]? = some v) : subV (.ref j) (.int k) H = some v := by
  show (match lst H j with | some l => gua (decide ((0 : Int) ≤ (k : Int))) l[(k : Int).toNat]? | none => _) = _
  rw [lst_is h]
  exact (gua_e (Int.natCast_nonneg k)).trans g
theorem get_dict {H : AH} {j : Nat} {l : List (Key × V)} {k : Nat} {v d : V} (h : H[j]? = some (.dict l)) (g : (getK l (.s k)).getD d = v) : methV .get (.ref j) [.str k, d] H = some (v, H) := by
  subst g
  exact obn_e (f := fun l => some ((getK l (.s k)).getD d, H)) (dct_is h)
theorem rec_dict {H : AH} {j : Nat} {l : List (Key × V)} (h : H[j]? = some (.dict l)) : recOk .get (.ref j) H = some () := obn_e (f := fun _ => some ()) (dct_is h)
theorem add_lists {H : AH} {i j : Nat} {l m : List V} (h : H[i]? = some (.list l)) (g : H[j]? = some (.list m)) (hl : l.length + m.length ≤ lineN) : binV .Add (.ref i) (.ref j) H = some (.ref H.length, H ++ [.list (l ++ m)]) :=
  (obn_e (f := fun l => obn (lst H j) fun m => gua (decide (l.length + m.length ≤ lineN)) (some (V.ref H.length, H ++ [MO.list (l ++ m)]))) (lst_is h)).trans ((obn_e (lst_is g)).trans (gua_e hl))
theorem store_dict {H : AH} {j : Nat} {l : List (Key × V)} {k : Nat} {v : V} (h : H[j]? = some (.dict l)) (hl : l.length + 1 ≤ lineN) : storeV (.ref j) (.str k) v H = some (H.set j (.dict (setK l (.s k) v))) := by
  show (match lst H j with | some l => _ | none => obn (dct H j) fun l => gua (decide (l.length + 1 ≤ lineN)) (some (H.set j (.dict (setK l (.s k) v))))) = _
  unfold lst dct
  rw [h]
  exact gua_e hl
theorem at_one (H : AH) (a b : MO) : (H ++ [a, b])[H.length + 1]? = some b := by
  rw [List.getElem?_append_right (Nat.le_succ _)]; simp
theorem line_of {n : Nat} (h : n ≤ 1000) : n ≤ lineN := Nat.le_trans h (by decide)
end Mine.Pl
/-! W1 -/
namespace Mine.Pl
section
variable {G : GTab} {D : Nat → Option Fn}
theorem put_val (hS : D 3 = some p_3) (n : Nat) (x : Int) (nums : List Int) (H : AH) (hl : nums.length < 255) : callN G D (n + 1) 3 [pathV nums, .int x, .int 2, .int 255] H = some (pathV (x :: nums), H) := by
  have hl' : ((nums.map V.int).length : Int) < 255 := by rw [List.length_map]; omega
  refine d_call (ρ := [some (pathV nums), some (.int x), some (.int 2), some (.int 255), none]) hS rfl rfl (dxs_ite_ret (dv_and rfl (dv_and rfl (dv_cmp (t := true) (x := .int (nums.map V.int).length) (y := .int 255) rfl rfl (congrArg some (decide_eq_true hl')))))
    (dxs_ret (dv_bin (x := .tup [.tup [.int 2, .tup ((x :: nums).map .int)]]) (y := .tup []) (dv_tup (dvs_cons (dv_tup (dvs_cons rfl (dvs_cons (dv_bin (x := .tup [.int x]) (y := .tup (nums.map .int)) rfl rfl (bin_tup (line_of ?_))) dvs_nil))) dvs_nil)) rfl rfl)))
  rw [List.length_map]; simp only [List.length_cons, List.length_nil]; omega
theorem put_val0 (hS : D 3 = some p_3) (n : Nat) (x : Int) (H : AH) : callN G D (n + 1) 3 [.tup [], .int x, .int 2, .int 255] H = some (pathV [x], H) :=
  d_call (ρ := [some (.tup []), some (.int x), some (.int 2), some (.int 255), none]) hS rfl rfl (dxs (dx_ite false rfl rfl) (dxs_ret rfl))
noncomputable def ahead (k : Nat) (x : Int) : Option (List Int) → Option (List Int)
  | none => if k = 0 then none else some (List.replicate k x)
  | some l => some (List.replicate k x ++ l)
theorem prep_val (hS : D 3 = some p_3) (hS4 : D 4 = some p_4) (n : Nat) (x : Int) (path : Option (List Int)) (k : Nat) (H : AH) (hk : k ≤ 2) (hl : (path.getD []).length + 2 < 255) :
    callN G D (n + 2) 4 [pv path, .int x, .int k] H = some (pv (ahead k x path), H) := by
  -- one turn
  let run : V → Loc → AH → Option (Fl × Loc × AH) := fun v ρ H => obn (putV (.one 3) v ρ) fun ρ' => exs G (callN G D (n + 1)) (.cons (.asg (.one 0) (.call 3 (.cons (.var 0) (.cons (.var 1) (.cons (.c (.int 2)) (.cons (.c (.int 255)) .nil)))))) .nil) ρ' H
  have one : ∀ (p q kk i : V) (x3 : Option V), callN G D (n + 1) 3 [p, .int x, .int 2, .int 255] H = some (q, H) → run i [some p, some (.int x), some kk, x3, none, none, none, none] H = some (.next, [some q, some (.int x), some kk, some i, none, none, none, none], H) :=
    fun p q kk i x3 h => dxs (dx_asg (dv_call (dvs_cons rfl (dvs_cons rfl (dvs_cons rfl (dvs_cons rfl dvs_nil)))) h) rfl) rfl
  have first : callN G D (n + 1) 3 [pv path, .int x, .int 2, .int 255] H = some (pv (ahead 1 x path), H) := by
    cases path with
    | none => exact put_val0 hS n x H
    | some l => exact put_val hS n x l H (by have : l.length + 2 < 255 := hl; omega)
  have second : callN G D (n + 1) 3 [pv (ahead 1 x path), .int x, .int 2, .int 255] H = some (pv (ahead 2 x path), H) := by
    cases path with
    | none => exact put_val hS n x [x] H (show 1 < 255 by decide)
    | some l => exact put_val hS n x (x :: l) H (by have : l.length + 2 < 255 := hl; simp only [List.length_cons]; omega)
  have fin : ∀ (m : List V) (q i : V) (kk : Int), rangeI kk = m → (-1000000 ≤ kk ∧ kk ≤ 1000000) → forI run m [some (pv path), some (.int x), some (.int kk), none, none, none, none, none] H = some (.next, [some q, some (.int x), some (.int kk), some i, none, none, none, none], H) →
      callN G D (n + 2) 4 [pv path, .int x, .int kk] H = some (q, H) := by
    intro m q i kk hm hr hf
    refine d_call (ρ := [some (pv path), some (.int x), some (.int kk), none, none, none, none, none]) hS4 rfl rfl (dxs (H1 := H) (ρ' := [some q, some (.int x), some (.int kk), some i, none, none, none, none]) ?_ (dxs_ret rfl))
    have : ex G (callN G D (n + 1)) (.for_ (.one 3) .range (.var 2) (.cons (.asg (.one 0) (.call 3 (.cons (.var 0) (.cons (.var 1) (.cons (.c (.int 2)) (.cons (.c (.int 255)) .nil)))))) .nil)) [some (pv path), some (.int x), some (.int kk), none, none, none, none, none] H =
        gua (decide (-1000000 ≤ kk ∧ kk ≤ 1000000)) (forI run (rangeI kk) [some (pv path), some (.int x), some (.int kk), none, none, none, none, none] H) := rfl
    rw [this, gua_e hr, hm]
    exact hf
  match k, hk with
  | 0, _ =>
    have e : ahead 0 x path = path := by cases path <;> rfl
    rw [e]
    refine d_call (ρ := [some (pv path), some (.int x), some (.int 0), none, none, none, none, none]) hS4 rfl rfl (dxs (H1 := H) (ρ' := [some (pv path), some (.int x), some (.int 0), none, none, none, none, none]) rfl (dxs_ret rfl))
  | 1, _ => exact fin [.int 0] _ (.int 0) 1 rfl (by decide) (thn_e (one _ _ _ _ _ first))
  | 2, _ => exact fin [.int 0, .int 1] _ (.int 1) 2 rfl (by decide) ((thn_e (one _ _ _ _ _ first)).trans (thn_e (one _ _ _ _ _ second)))
/-- the same dict, made anew -/
theorem copy_ev {F : Calls} {ρ : Loc} {H : AH} {j : Nat} {l : List (Key × V)} (hj : H[j]? = some (.dict l)) (hn : (l.map (·.1)).Nodup) (keep : Key → Bool) (c : PE) (hk : calm c = true) (k : Nat) (fr : List (Nat × Nat)) (he : ev G F (.var 0) ρ H = some (.ref j, H)) (hf : frameOf 3 [(2, 0)] ρ = [none, none, some (.ref j)])
    (hc : ∀ k, ev G F c [none, some (keyV k), some (.ref j)] H = some (.bool (keep k), H)) :
    ev G F (.dcomp 3 [(2, 0)] 1 (.var 0) c (.var 1) (.sub (.var 2) (.var 1))) ρ H = some (.ref H.length, H ++ [.dict (l.filter fun p => keep p.1)]) := by
  have hn' : ((l.filter fun p => keep p.1).map (·.1)).Nodup := nodup_filter hn _
  refine (bnd_e (f := fun x H1 => onD H1 x fun _ l => gua (calm c && calm (.var 1) && calm (.sub (.var 2) (.var 1))) (finD (compI (drun 1 (frameOf 3 [(2, 0)] ρ) (ev G F c) (ev G F (.var 1)) (ev G F (.sub (.var 2) (.var 1)))) (l.map fun p => keyV p.1) H1))) he).trans ((obn_e (dct_is hj)).trans ?_)
  rw [hk, hf]
  show bnd (compI (drun 1 [none, none, some (.ref j)] (ev G F c) (ev G F (.var 1)) (ev G F (.sub (.var 2) (.var 1)))) (l.map fun p => keyV p.1) H) (fun ps H2 => some (V.ref H2.length, H2 ++ [MO.dict (ps.foldl (fun d p => setK d p.1 p.2) [])])) = _
  refine (bnd_e (compI_copy _ keep l H hn (fun k' v' hg => ?_) l [] rfl)).trans ?_
  · show bnd (ev G F c [none, some (keyV k'), some (.ref j)] H) (fun b H2 => brn b (bnd (ev G F (.var 1) [none, some (keyV k'), some (.ref j)] H2) fun y H3 => bnd (ev G F (.sub (.var 2) (.var 1)) [none, some (keyV k'), some (.ref j)] H3) fun z H4 => obn (keyOf y) fun y => some (some (y, z), H4)) (some (none, H2))) = _
    refine (bnd_e (hc k')).trans ?_
    cases keep k'
    · rfl
    · have hs : ev G F (.sub (.var 2) (.var 1)) [none, some (keyV k'), some (.ref j)] H = some (v', H) := dv_sub (x := .ref j) (y := keyV k') rfl rfl (by
        show (match lst H j with | some l => _ | none => obn (dct H j) fun l => obn (keyOf (keyV k')) fun k => getK l k) = _
        unfold lst dct
        rw [hj, keyOf_keyV]
        exact hg)
      show bnd (ev G F (.var 1) [none, some (keyV k'), some (.ref j)] H) (fun y H3 => bnd (ev G F (.sub (.var 2) (.var 1)) [none, some (keyV k'), some (.ref j)] H3) fun z H4 => obn (keyOf y) fun y => some (some (y, z), H4)) = _
      exact (bnd_e (show ev G F (.var 1) [none, some (keyV k'), some (.ref j)] H = some (keyV k', H) from rfl)).trans ((bnd_e hs).trans (obn_e (keyOf_keyV k')))
  · rw [fold_self _ [] hn', List.nil_append]
theorem wf_val (hS : D 12 = some p_12) (n j : Nat) (k : Nat) (v : V) (l : List (Key × V)) (H : AH) (hj : H[j]? = some (.dict l)) (hn : (l.map (·.1)).Nodup) (hl : l.length + 1 ≤ lineN) :
    callN G D (n + 1) 12 [.ref j, .str k, v] H = some (.ref H.length, H ++ [.dict (setK l (.s k) v)]) := by
  have hf : (l.filter fun _ => true) = l := List.filter_eq_self.mpr fun _ _ => rfl
  have hset : (H ++ [MO.dict l]).set H.length (.dict (setK l (.s k) v)) = H ++ [.dict (setK l (.s k) v)] := by
    rw [List.set_append_right _ _ (Nat.le_refl _), Nat.sub_self]; rfl
  have h1 := copy_ev (G := G) (F := callN G D n) (ρ := [some (.ref j), some (.str k), some v, none]) hj hn (fun _ => true) (.c (.bool true)) rfl 3 [] rfl rfl fun _ => rfl
  rw [hf] at h1
  refine d_call (ρ := [some (.ref j), some (.str k), some v, none]) (ρ' := [some (.ref j), some (.str k), some v, some (.ref H.length)]) hS rfl rfl (dxs (ρ' := [some (.ref j), some (.str k), some v, some (.ref H.length)]) (dx_asg h1 rfl) (dxs (dx_asub (x := .ref H.length) (y := .str k) (v := v) rfl rfl rfl (store_dict (at_len _ _) hl)) ?_))
  rw [hset]
  exact dxs_ret rfl
/-- the same, for a route -/
theorem wf_at (hS : D 12 = some p_12) (n j : Nat) (k : Nat) (v : V) (r r' : Rt) (H : AH) (hj : At H j r) (hr : ∀ k', r'.get k' = if k' = .s k then some v else r.get k') :
    ∃ H' i, callN G D (n + 1) 12 [.ref j, .str k, v] H = some (.ref i, H') ∧ Keep H H' ∧ At H' i r' :=
  hj.elim fun l h => ⟨_, _, wf_val hS n j k v l H h.1 h.2.1 (line_of (Nat.le_trans (Nat.succ_le_succ h.2.seven) (by decide))), Keep.app _ _, _, at_len _ _, nodup_setK h.2.1 _ _, fun k' => by rw [getK_setK, hr, h.2.2]⟩
end
end Mine.Pl
/-! W2 -/
namespace Mine.Pl
noncomputable def ddA : Int → List Int → List Int
  | _, [] => []
  | p, y :: r => if y = p then ddA p r else y :: ddA y r
noncomputable def dd : List Int → List Int
  | [] => []
  | x :: r => x :: ddA x r
noncomputable def norm (ns : List Int) : List Int := dd (sortI ns)
theorem intsOf_ints (ns : List Int) : intsOf (ns.map .int) = some ns := by
  induction ns with
  | nil => rfl
  | cons x r ih => exact (obn_e (f := fun m => some (x :: m)) ih)
theorem insI_len (x : Int) (l : List Int) : (insI x l).length = l.length + 1 := by
  induction l with
  | nil => rfl
  | cons y r ih =>
    by_cases h : x ≤ y
    · exact congrArg List.length (show insI x (y :: r) = x :: y :: r from if_pos h)
    · exact (congrArg List.length (show insI x (y :: r) = y :: insI x r from if_neg h)).trans (congrArg Nat.succ ih)
theorem sortI_len' (l : List Int) : (sortI l).length = l.length := by
  induction l with
  | nil => rfl
  | cons x r ih => exact (insI_len x (sortI r)).trans (congrArg Nat.succ ih)
theorem drop_head {α : Type} {l m : List α} {v : α} {i : Nat} (hd : l.drop i = v :: m) : l[i]? = some v ∧ l.drop (i + 1) = m := by
  constructor
  · have : (l.drop i)[0]? = some v := by rw [hd]; rfl
    rwa [List.getElem?_drop] at this
  · have : (l.drop i).drop 1 = m := by rw [hd]; rfl
    rwa [List.drop_drop] at this
/-- neighbours that say the same: one of them -/
theorem enum_dd (run : V → AH → Option (Option V × AH)) (H : AH) (l : List Int)
    (h0 : ∀ x, run (.tup [.int 0, .int x]) H = some (some (.int x), H))
    (h1 : ∀ (i : Nat) (p x : Int), l[i]? = some p → run (.tup [.int ((i+1 : Nat) : Int), .int x]) H = some (if x = p then none else some (.int x), H)) :
    compI run (enumI (l.map .int)) H = some ((dd l).map .int, H) := by
  have key : ∀ (m : List Int) (i : Nat) (p : Int), l[i]? = some p → l.drop (i + 1) = m → compI run ((List.range' (i + 1) m.length).zipWith (fun (i : Nat) v => .tup [.int (i : Int), v]) (m.map .int)) H = some ((ddA p m).map .int, H) := by
    intro m
    induction m with
    | nil => intro i p _ _; rfl
    | cons y m ih =>
      intro i p hp hd
      obtain ⟨hy, hd'⟩ := drop_head hd
      have := ih (i + 1) y hy hd'
      rw [List.length_cons, List.range'_succ, List.map_cons, List.zipWith_cons_cons]
      refine (bnd_e (h1 i p y hp)).trans ((bnd_e this).trans ?_)
      by_cases e : y = p
      · rw [if_pos e, show ddA p (y :: m) = ddA p m from if_pos e, e]; rfl
      · rw [if_neg e, show ddA p (y :: m) = y :: ddA y m from if_neg e]; rfl
  unfold enumI
  rw [List.length_map, List.range_eq_range']
  cases l with
  | nil => rfl
  | cons x r =>
    rw [List.length_cons, List.range'_succ, List.map_cons, List.zipWith_cons_cons]
    exact (bnd_e (h0 x)).trans (bnd_e (key r 0 x rfl rfl))
theorem some_lt {H : AH} {i : Nat} {m : MO} (h : H[i]? = some m) : i < H.length := (List.getElem?_eq_some_iff.mp h).1
theorem Keep.set {H H' : AH} (h : Keep H H') {k : Nat} (hk : H.length ≤ k) (m : MO) : Keep H (H'.set k m) := fun i o e => by
  rw [List.getElem?_set_ne (Nat.ne_of_gt (Nat.lt_of_lt_of_le (some_lt e) hk))]
  exact h i o e
theorem sorted_fn {H : AH} {c : Nat} {ns : List Int} (hc : H[c]? = some (.list (ns.map .int))) (hn : ns.length < 64) : fnV .sorted (.ref c) H = some (.ref H.length, H ++ [.list ((sortI ns).map .int)]) := by
  show obn (lst H c) (fun l => gua (decide (l.length < 64)) (obn (intsOf l) fun ns => some (V.ref H.length, H ++ [MO.list ((sortI ns).map .int)]))) = _
  rw [lst_is hc]
  exact (gua_e (by rw [List.length_map]; exact hn)).trans (obn_e (intsOf_ints ns))
theorem tuple_fn {H : AH} {c : Nat} {l : List V} (hc : H[c]? = some (.list l)) : fnV .tuple (.ref c) H = some (.tup l, H) := obn_e (f := fun l => some (V.tup l, H)) (lst_is hc)
/-- a list against the empty one -/
theorem ne_nil {H : AH} {a b : Nat} {l : List V} (ha : H[a]? = some (.list l)) (hb : H[b]? = some (.list [])) : eqT H (.ref a) (.ref b) = some l.isEmpty := by
  show (match lst H a with | some l => obn (lst H b) fun m => eqL (eqV H 64) l m | none => _) = _
  rw [lst_is ha]
  refine (obn_e (lst_is hb)).trans ?_
  cases l <;> rfl
theorem ne_cmp {H : AH} {x y : V} {t : Bool} (h : eqT H x y = some t) : cmpV .NotEq x y H = some (!t) := obn_e (f := fun x => some (!x)) h
theorem nat_ne (n c : Nat) : (!(n == c)) = decide (Key.s n ≠ Key.s c) := by
  by_cases e : n = c
  · subst e; simp
  · rw [beq_false_of_ne e]; exact (decide_eq_true (p := Key.s n ≠ Key.s c) fun h => e (Key.s.inj h)).symm
theorem not_comm {G : GTab} {F : Calls} {H : AH} {j : Nat} (c : Nat) : ∀ k : Key, ev G F (.cmp .NotEq (.var 1) (.c (.str c))) [none, some (keyV k), some (.ref j)] H = some (.bool (decide (k ≠ .s c)), H)
  | .s n => congrArg (fun b => some (V.bool b, H)) (nat_ne n c)
  | .i _ => rfl
section
variable {G : GTab} {D : Nat → Option Fn}
theorem int_ne (x p : Int) : (!(x == p)) = !(decide (x = p)) := by by_cases e : x = p <;> simp [e]
theorem kept_ev {F : Calls} {H : AH} (a b c : Nat) (s : List Int) (hs : H[c]? = some (.list (s.map .int))) (x4 x5 x6 x7 : Option V) :
    ev G F (.lcomp 4 [(3, 3)] (.many [1, 2]) .enum (.var 3) (.or (.cmp .Eq (.var 1) (.c (.int 0))) (.cmp .NotEq (.var 2) (.sub (.var 3) (.bin .Sub (.var 1) (.c (.int 1)))))) (.var 2)) [some (.ref a), some (.ref b), x4, some (.ref c), x5, x6, x7, none] H =
      some (.ref H.length, H ++ [.list ((dd s).map .int)]) := by
  refine (bnd_e (f := fun x H1 => lsrc (calm (.or (.cmp .Eq (.var 1) (.c (.int 0))) (.cmp .NotEq (.var 2) (.sub (.var 3) (.bin .Sub (.var 1) (.c (.int 1)))))) && calm (.var 2)) (lrun (.many [1, 2]) (frameOf 4 [(3, 3)] [some (.ref a), some (.ref b), x4, some (.ref c), x5, x6, x7, none]) (ev G F (.or (.cmp .Eq (.var 1) (.c (.int 0))) (.cmp .NotEq (.var 2) (.sub (.var 3) (.bin .Sub (.var 1) (.c (.int 1))))))) (ev G F (.var 2))) .enum x H1) (show ev G F (.var 3) _ H = some (.ref c, H) from rfl)).trans ((obn_e (lst_is hs)).trans ?_)
  show bnd (compI (lrun (.many [1, 2]) [none, none, none, some (.ref c)] (ev G F (.or (.cmp .Eq (.var 1) (.c (.int 0))) (.cmp .NotEq (.var 2) (.sub (.var 3) (.bin .Sub (.var 1) (.c (.int 1))))))) (ev G F (.var 2))) (enumI (s.map .int)) H) (fun ys H2 => some (V.ref H2.length, H2 ++ [MO.list ys])) = _
  refine bnd_e (enum_dd _ H s (fun x => rfl) fun i p x hp => ?_)
  have e1 : (((i + 1 : Nat) : Int) == 0) = false := beq_false_of_ne (by omega)
  have h1 : ev G F (.or (.cmp .Eq (.var 1) (.c (.int 0))) (.cmp .NotEq (.var 2) (.sub (.var 3) (.bin .Sub (.var 1) (.c (.int 1)))))) [none, some (.int ((i + 1 : Nat) : Int)), some (.int x), some (.ref c)] H = some (.bool (!(x == p)), H) :=
    dv_or (congrArg (fun b => some (V.bool b, H)) e1) (dv_cmp (y := .int p) rfl (dv_sub (x := .ref c) (y := .int (i : Int)) rfl (dv_bin (x := .int ((i + 1 : Nat) : Int)) (y := .int 1) rfl rfl (congrArg (fun z => some (V.int z, H)) (by omega))) (sub_list hs (by rw [List.getElem?_map, hp]; rfl))) (ne_cmp rfl))
  show bnd (ev G F (.or (.cmp .Eq (.var 1) (.c (.int 0))) (.cmp .NotEq (.var 2) (.sub (.var 3) (.bin .Sub (.var 1) (.c (.int 1)))))) [none, some (.int ((i + 1 : Nat) : Int)), some (.int x), some (.ref c)] H) (fun b H2 => brn b (some (some (V.int x), H2)) (some (none, H2))) = _
  refine (bnd_e h1).trans ?_
  rw [int_ne]
  by_cases e : x = p
  · rw [if_pos e, decide_eq_true e]; rfl
  · rw [if_neg e, decide_eq_false e]; rfl
theorem wc_val (hS : D 11 = some p_11) (n j c : Nat) (r : Rt) (ns : List Int) (H : AH) (hj : At H j r) (hc : H[c]? = some (.list (ns.map .int))) (hn : ns.length < 64) :
    ∃ H' i, callN G D (n + 1) 11 [.ref j, .ref c] H = some (.ref i, H') ∧ Keep H H' ∧ At H' i { r with comm := norm ns } := by
  refine hj.elim fun l h => ?_
  let l' := l.filter (fun p => decide (p.1 ≠ kComm))
  have hl' : (l'.map (·.1)).Nodup := nodup_filter h.2.1 _
  have hg' : ∀ k, getK l' k = if decide (k ≠ kComm) then r.get k else none := fun k => by rw [getK_filter (fun k => decide (k ≠ kComm)) k l, h.2.2]
  have hlen : l'.length + 1 ≤ lineN := line_of (Nat.le_trans (Nat.succ_le_succ (Nat.le_trans (List.length_filter_le _ _) h.2.seven)) (by decide))
  let H1 : AH := H ++ [.dict l']
  let H2 : AH := H1 ++ [.list ((sortI ns).map .int)]
  let H3 : AH := H2 ++ [.list ((norm ns).map .int)]
  let H4 : AH := H3 ++ [.list []]
  have k14 : Keep H1 H4 := ((Keep.app H1 _).trans (Keep.app H2 _)).trans (Keep.app H3 _)
  have k4 : Keep H H4 := (Keep.app H _).trans k14
  have s1 : ex G (callN G D n) (.asg (.one 2) (.dcomp 3 [(2, 0)] 1 (.var 0) (.cmp .NotEq (.var 1) (.c (.str 139505373566937160341090147))) (.var 1) (.sub (.var 2) (.var 1)))) [some (.ref j), some (.ref c), none, none, none, none, none, none] H = some (.next, [some (.ref j), some (.ref c), some (.ref H.length), none, none, none, none, none], H1) :=
    dx_asg (copy_ev h.1 h.2.1 (fun k => decide (k ≠ kComm)) _ rfl 3 [] rfl rfl (not_comm _)) rfl
  have s2 : ex G (callN G D n) (.asg (.one 3) (.fn .sorted (.var 1))) [some (.ref j), some (.ref c), some (.ref H.length), none, none, none, none, none] H1 = some (.next, [some (.ref j), some (.ref c), some (.ref H.length), some (.ref H1.length), none, none, none, none], H2) :=
    dx_asg (dv_fn rfl (sorted_fn ((Keep.app H _) _ _ hc) hn)) rfl
  have s3 : ex G (callN G D n) (.asg (.one 3) (.lcomp 4 [(3, 3)] (.many [1, 2]) .enum (.var 3) (.or (.cmp .Eq (.var 1) (.c (.int 0))) (.cmp .NotEq (.var 2) (.sub (.var 3) (.bin .Sub (.var 1) (.c (.int 1)))))) (.var 2))) [some (.ref j), some (.ref c), some (.ref H.length), some (.ref H1.length), none, none, none, none] H2 = some (.next, [some (.ref j), some (.ref c), some (.ref H.length), some (.ref H2.length), none, none, none, none], H3) :=
    dx_asg (kept_ev j c H1.length _ (at_len _ _) _ _ _ _) rfl
  have s4 : ev G (callN G D n) (.cmp .NotEq (.var 3) (.list .nil)) [some (.ref j), some (.ref c), some (.ref H.length), some (.ref H2.length), none, none, none, none] H3 = some (.bool (!((norm ns).map V.int).isEmpty), H4) :=
    dv_cmp rfl (dv_list dvs_nil) (ne_cmp (ne_nil ((Keep.app H3 _) _ _ (at_len _ _)) (at_len _ _)))
  have g1 : H4[H.length]? = some (.dict l') := k14 _ _ (at_len _ _)
  by_cases ht : norm ns = []
  · rw [ht] at s4
    have hpn : getK l' (.s 30506403037864304) = none := hg' _
    refine ⟨H4 ++ [.list []], H.length, d_call (ρ := [some (.ref j), some (.ref c), none, none, none, none, none, none]) (ρ' := [some (.ref j), some (.ref c), some (.ref H.length), some (.ref H2.length), some (.tup []), none, none, none]) hS rfl rfl (dxs s1 (dxs s2 (dxs s3 (dxs (dx_ite false s4 rfl) (dxs (H1 := H4 ++ [.list []]) (ρ' := [some (.ref j), some (.ref c), some (.ref H.length), some (.ref H2.length), some (.tup []), none, none, none]) ?_ (dxs (dx_ite false rfl rfl) (dxs_ret rfl))))))),
      k4.trans (Keep.app H4 _), l', (Keep.app H4 _) _ _ g1, hl', fun k => ?_⟩
    · have hm : ev G (callN G D n) (.meth .pop (.var 2) (.cons (.c (.str 30506403037864304)) (.cons (.tup .nil) .nil))) [some (.ref j), some (.ref c), some (.ref H.length), some (.ref H2.length), none, none, none, none] H4 = some (.tup [], H4) :=
        dv_meth (m := .pop) (u := ()) (x := .ref H.length) (vs := [.str 30506403037864304, .tup []]) rfl (obn_e (f := fun _ => some ()) (dct_is g1)) (dvs_cons rfl (dvs_cons rfl dvs_nil)) ((obn_e (f := fun l => caO (getK l (.s 30506403037864304)) (some (V.tup [], H4)) fun v => some (v, H4.set H.length (.dict (delK l (.s 30506403037864304))))) (dct_is g1)).trans (by rw [hpn]; rfl))
      refine dx_asg (v := .tup []) (dv_fn (x := .ref H4.length) (H1 := H4 ++ [.list []]) ?_ (tuple_fn (at_len _ _))) rfl
      exact (bnd_e (f := fun x H1 => lsrc true (lrun (.one 1) (frameOf 2 [] [some (.ref j), some (.ref c), some (.ref H.length), some (.ref H2.length), none, none, none, none]) (ev G (callN G D n) (.cmp .NotEq (.var 1) (.c (.str 139505373566937160341090147)))) (ev G (callN G D n) (.var 1))) .plain x H1) hm).trans rfl
    · rw [hg']
      by_cases e : k = kComm
      · subst e; simp [Rt.get, ht]
      · rw [if_pos (decide_eq_true e)]; simp only [Rt.get, if_neg e] <;> rfl
  · have hne : ((norm ns).map V.int).isEmpty = false := by cases hx : norm ns with
      | nil => exact absurd hx ht
      | cons _ _ => rfl
    rw [hne] at s4
    have g3 : H4[H2.length]? = some (.list ((norm ns).map .int)) := (Keep.app H3 _) _ _ (at_len _ _)
    refine ⟨H4.set H.length (.dict (setK l' kComm (.tup ((norm ns).map .int)))), H.length, d_call (ρ := [some (.ref j), some (.ref c), none, none, none, none, none, none]) (ρ' := [some (.ref j), some (.ref c), some (.ref H.length), some (.ref H2.length), none, none, none, none]) hS rfl rfl (dxs s1 (dxs s2 (dxs s3 (dxs_ite_ret s4 (dxs (dx_asub (x := .ref H.length) (y := .str 139505373566937160341090147) (dv_fn (x := .ref H2.length) rfl (tuple_fn g3)) rfl rfl (store_dict g1 hlen)) (dxs_ret rfl)))))),
      Keep.set k4 (Nat.le_refl _) _, _, List.getElem?_set_self (some_lt g1), nodup_setK hl' _ _, fun k => ?_⟩
    rw [getK_setK, hg']
    by_cases e : k = kComm
    · subst e; simp [Rt.get, ht]
    · rw [if_neg e, if_pos (decide_eq_true e)]; simp only [Rt.get, if_neg e] <;> rfl
end
end Mine.Pl
/-! W3 -/
namespace Mine.Pl
inductive Fld where
  | lp | med | origin | nh | tag
  deriving DecidableEq, Inhabited
inductive Dd where
  | set (f : Fld) (v : Int)
  | self
  | add (n : Int)
  | drop (n : Int)
  | clear
  | prep (x : Int) (k : Nat)
  deriving DecidableEq, Inhabited
noncomputable def Fld.word : Fld → Nat
  | .lp => 483552748545009705512812
  | .med => 6579565
  | .origin => 121398985585263
  | .nh => 8101808799099676014
  | .tag => 6775156
noncomputable def Fld.key : Fld → Nat
  | .lp => 483552748599985286901612
  | .med => 6579565
  | .origin => 121398985585263
  | .nh => 8101809013848040814
  | .tag => 6775156
noncomputable def Dd.enc : Dd → V
  | .set f v => .tup [.str 7628147, .str f.word, .int v]
  | .self => .tup [.str 7628147, .str 8101808799099676014, .str 1718379891]
  | .add n => .tup [.str 6579297, .int n]
  | .drop n => .tup [.str 1886351972, .int n]
  | .clear => .tup [.str 491260308579]
  | .prep x k => .tup [.str 28268879627514480, .int x, .int k]
noncomputable def Rt.put (r : Rt) : Fld → Int → Rt
  | .lp, v => { r with lp := some v }
  | .med, v => { r with med := some v }
  | .origin, v => { r with origin := v }
  | .nh, v => { r with nh := v }
  | .tag, v => { r with tag := some v }
noncomputable def Dd.app (own : Int) (r : Rt) : Dd → Rt
  | .set f v => r.put f v
  | .self => { r with nh := own }
  | .add n => { r with comm := norm (r.comm ++ [n]) }
  | .drop n => { r with comm := norm (r.comm.filter fun m => decide (m ≠ n)) }
  | .clear => { r with comm := norm [] }
  | .prep x k => { r with path := ahead k x r.path }
noncomputable def FactsAt (H : AH) (f : Nat) (own peer : Int) : Prop := ∃ l, H[f]? = some (.dict l) ∧ (getK l (.s 139571412765187396326029167)).getD (.int 0) = .int own ∧ (getK l (.s 32476684890760560)).getD (.int 0) = .int peer
theorem FactsAt.keep {H H' : AH} {f : Nat} {own peer : Int} (h : FactsAt H f own peer) (g : Keep H H') : FactsAt H' f own peer := by
  obtain ⟨l, h1, h2⟩ := h
  exact ⟨l, g _ _ h1, h2⟩
noncomputable def Dd.okk : Dd → Bool
  | .prep _ k => decide (k ≤ 2)
  | _ => true
theorem get_comm (r : Rt) : (r.get kComm).getD (.tup []) = .tup (r.comm.map .int) := by
  by_cases h : r.comm = [] <;> simp [Rt.get, h]
theorem get_put (r : Rt) (v : Int) : ∀ (fd : Fld) (k : Key), (r.put fd v).get k = if k = .s fd.key then some (.int v) else r.get k
  | .lp, k => by
    show (r.put .lp v).get k = if k = kLp then some (.int v) else r.get k
    by_cases e : k = kLp
    · subst e; simp [Rt.put, Rt.get]
    · simp only [Rt.put, Rt.get, if_neg e] <;> rfl
  | .med, k => by
    show (r.put .med v).get k = if k = kMed then some (.int v) else r.get k
    by_cases e : k = kMed
    · subst e; simp [Rt.put, Rt.get]
    · simp only [Rt.put, Rt.get, if_neg e] <;> rfl
  | .origin, k => by
    show (r.put .origin v).get k = if k = kOrigin then some (.int v) else r.get k
    by_cases e : k = kOrigin
    · subst e; simp [Rt.put, Rt.get]
    · simp only [Rt.put, Rt.get, if_neg e] <;> rfl
  | .nh, k => by
    show (r.put .nh v).get k = if k = kNh then some (.int v) else r.get k
    by_cases e : k = kNh
    · subst e; simp [Rt.put, Rt.get]
    · simp only [Rt.put, Rt.get, if_neg e] <;> rfl
  | .tag, k => by
    show (r.put .tag v).get k = if k = kTag then some (.int v) else r.get k
    by_cases e : k = kTag
    · subst e; simp [Rt.put, Rt.get]
    · simp only [Rt.put, Rt.get, if_neg e] <;> rfl
theorem get_path (r : Rt) (p : Option (List Int)) (k : Key) : ({ r with path := p } : Rt).get k = if k = kPath then some (pv p) else r.get k := by
  by_cases e : k = kPath
  · subst e; simp [Rt.get]
  · simp only [Rt.get, if_neg e] <;> rfl
/-- the list of communities without one of them -/
theorem drop_comp (run : V → AH → Option (Option V × AH)) (H : AH) (j : Nat) (ns : List Int) (n : Int) (hj : H[j]? = some (.list (ns.map .int)))
    (hrun : ∀ x, run (.int x) H = some (if x ≠ n then some (.int x) else none, H)) : ∀ (m : List Int) (i k : Nat), ns.drop i = m → compL run j (m.length + 1 + k) i H = some ((m.filter fun x => decide (x ≠ n)).map .int, H) := by
  intro m
  induction m with
  | nil =>
    intro i k hd
    have : (ns.map V.int)[i]? = none := by rw [List.getElem?_map, List.getElem?_eq_none (List.drop_eq_nil_iff.mp hd)]; rfl
    rw [List.length_nil, Nat.zero_add, Nat.add_comm]
    refine (obn_e (lst_is hj)).trans ?_
    rw [this]
    rfl
  | cons x m ih =>
    intro i k hd
    obtain ⟨hx, hd'⟩ := drop_head hd
    have hx' : (ns.map V.int)[i]? = some (.int x) := by rw [List.getElem?_map, hx]; rfl
    rw [show (x :: m).length + 1 + k = (m.length + 1 + k) + 1 by rw [List.length_cons]; omega]
    refine (obn_e (lst_is hj)).trans ?_
    rw [hx']
    show bnd (run (.int x) H) (fun y H' => bnd (compL run j (m.length + 1 + k) (i + 1) H') fun ys H'' => some (y.toList ++ ys, H'')) = _
    refine (bnd_e (hrun x)).trans ((bnd_e (ih (i + 1) k hd')).trans ?_)
    by_cases e : x = n
    · rw [if_neg (fun h => h e), List.filter_cons, if_neg (by simpa using e)]; rfl
    · rw [if_pos e, List.filter_cons, if_pos (decide_eq_true e)]; rfl
theorem list_fn {H : AH} {l : List V} : fnV .list (.tup l) H = some (.ref H.length, H ++ [.list l]) := rfl
structure Std (D : Nat → Option Fn) : Prop where
  s3 : D 3 = some p_3
  s4 : D 4 = some p_4
  s11 : D 11 = some p_11
  s12 : D 12 = some p_12
  s13 : D 13 = some p_13
  s14 : D 14 = some p_14
  s15 : D 15 = some p_15
theorem cr_val {D : Nat → Option Fn} (hS : Std D) (n j f : Nat) (d : Dd) (r : Rt) (own peer : Int) (H : AH) (hj : At H j r) (hf : FactsAt H f own peer) (hc : r.comm.length < 62) (hp : (r.path.getD []).length + 2 < 255) (hd : d.okk = true) :
    ∃ H' i, callN glo D (n + 3) 13 [d.enc, .ref j, .ref f] H = some (.ref i, H') ∧ Keep H H' ∧ At H' i (d.app own r) := by
  refine hj.elim fun l h => ?_
  have hcm : (getK l kComm).getD (.tup []) = .tup (r.comm.map .int) := by rw [h.2.2]; exact get_comm r
  have hpt : getK l kPath = some (pv r.path) := h.2.2 _
  let H1 : AH := H ++ [.list (r.comm.map .int)]
  have k1 : Keep H H1 := Keep.app _ _
  have h1' : H1[j]? = some (.dict l) := k1 _ _ h.1
  have hc1 : H1[H.length]? = some (.list (r.comm.map .int)) := at_len _ _
  have hj1 : At H1 j r := hj.keep k1
  let ρ0 : V → Nat → Loc := fun st w => [some st, some (.ref j), some (.ref f), some (.str w), some (.ref H.length), none, none, none, none, none, none]
  have first : ∀ (w : Nat) (rest : List V), ex glo (callN glo D (n + 2)) (.asg (.many [3, 4]) (.tup (.cons (.sub (.var 0) (.c (.int 0))) (.cons (.fn .list (.meth .get (.var 1) (.cons (.c (.str 139505373566937160341090147)) (.cons (.tup .nil) .nil)))) .nil))))
      [some (.tup (.str w :: rest)), some (.ref j), some (.ref f), none, none, none, none, none, none, none, none] H = some (.next, ρ0 (.tup (.str w :: rest)) w, H1) := fun w rest =>
    dx_asg (dv_tup (dvs_cons (dv_sub (x := .tup (.str w :: rest)) (y := .int 0) rfl rfl rfl) (dvs_cons (dv_fn (dv_meth (x := .ref j) rfl (rec_dict h.1) (dvs_cons rfl (dvs_cons rfl dvs_nil)) (get_dict h.1 hcm)) list_fn) dvs_nil))) rfl
  have fin : ∀ (w : Nat) (rest : List V) (H' : AH) (i : Nat) (ρ' : Loc) (d' : Rt), Keep H1 H' ∧ At H' i d' → (∀ (r0 : PSs), p_13.body = .cons (.asg (.many [3, 4]) (.tup (.cons (.sub (.var 0) (.c (.int 0))) (.cons (.fn .list (.meth .get (.var 1) (.cons (.c (.str 139505373566937160341090147)) (.cons (.tup .nil) .nil)))) .nil)))) r0 → exs glo (callN glo D (n + 2)) r0 (ρ0 (.tup (.str w :: rest)) w) H1 = some (.ret (.ref i), ρ', H')) →
      ∃ H' i, callN glo D (n + 3) 13 [.tup (.str w :: rest), .ref j, .ref f] H = some (.ref i, H') ∧ Keep H H' ∧ At H' i d' := fun w rest H' i ρ' d' hk he =>
    ⟨H', i, d_call (ρ := [some (.tup (.str w :: rest)), some (.ref j), some (.ref f), none, none, none, none, none, none, none, none]) hS.s13 rfl rfl (dxs (first w rest) (he _ rfl)), k1.trans hk.1, hk.2⟩
  have hset : ∀ (wd fk : Nat) (sv v : V) (r' : Rt), getK [(.s 483552748545009705512812, .str 483552748599985286901612), (.s 6579565, .str 6579565), (.s 121398985585263, .str 121398985585263), (.s 8101808799099676014, .str 8101809013848040814), (.s 6775156, .str 6775156)] (.s wd) = some (.str fk) →
      ev glo (callN glo D (n + 2)) (.ite (.cmp .Eq (.sub (.var 0) (.c (.int 2))) (.c (.str 1718379891))) (.meth .get (.var 2) (.cons (.c (.str 139571412765187396326029167)) (.cons (.c (.int 0)) .nil))) (.sub (.var 0) (.c (.int 2)))) (ρ0 (.tup [.str 7628147, .str wd, sv]) 7628147) H1 = some (v, H1) →
      (∀ k', r'.get k' = if k' = .s fk then some v else r.get k') → ∃ H' i, callN glo D (n + 3) 13 [.tup [.str 7628147, .str wd, sv], .ref j, .ref f] H = some (.ref i, H') ∧ Keep H H' ∧ At H' i r' := by
    intro wd fk sv v r' hg hv hr
    refine (wf_at (G := glo) hS.s12 (n + 1) j fk v r r' H1 hj1 hr).elim fun H' h => h.elim fun i h => fin _ _ H' i (ρ0 (.tup [.str 7628147, .str wd, sv]) 7628147 |>.set 5 (some v)) r' h.2 fun r0 hb => ?_
    injection hb with _ hb
    subst hb
    refine dxs (dx_ite false rfl rfl) (dxs (dx_ite false rfl rfl) (dxs (dx_ite false rfl rfl) (dxs (dx_ite false rfl rfl) (dxs (dx_asg hv rfl) (dxs_ret (dv_call (dvs_cons rfl (dvs_cons (v := .str fk) ?_ (dvs_cons rfl dvs_nil))) h.1))))))
    exact obn_e (f := fun v => some (v, H1)) hg
  cases d with
  | set fd v => cases fd <;> exact hset _ _ _ (.int v) _ rfl rfl (get_put r v _)
  | self =>
    refine hf.elim fun fl hh => hset _ _ _ (.int own) _ rfl ?_ (get_put r own .nh)
    exact dv_ite rfl <| dv_meth (x := .ref f) rfl (rec_dict (k1 _ _ hh.1)) (dvs_cons rfl (dvs_cons rfl dvs_nil)) (get_dict (k1 _ _ hh.1) hh.2.1)
  | add x =>
    let H2 : AH := H1 ++ [.list [.int x]]
    let H3 : AH := H2 ++ [.list ((r.comm ++ [x]).map .int)]
    have k3 : Keep H1 H3 := (Keep.app H1 _).trans (Keep.app H2 _)
    refine (wc_val (G := glo) hS.s11 (n + 1) j H2.length r (r.comm ++ [x]) H3 (hj1.keep k3) (at_len _ _) (by rw [List.length_append]; exact Nat.lt_of_lt_of_le (Nat.succ_lt_succ hc) (by decide))).elim fun H' h => h.elim fun i h => fin _ _ H' i (ρ0 (.tup [.str 6579297, .int x]) 6579297) _ ⟨k3.trans h.2.1, h.2.2⟩ fun r0 hb => ?_
    injection hb with _ hb
    subst hb
    have hb : binV .Add (.ref H.length) (.ref H1.length) H2 = some (.ref H2.length, H3) := by
      rw [add_lists ((Keep.app H1 _) _ _ hc1) (at_len H1 _) (line_of (by rw [List.length_map]; exact Nat.le_of_lt (Nat.lt_of_lt_of_le (Nat.succ_lt_succ hc) (by decide))))]
      simp only [H3, List.map_append, List.map_cons, List.map_nil] <;> rfl
    exact dxs_ite_ret rfl (dxs_ret (dv_call (dvs_cons rfl (dvs_cons (dv_bin (x := .ref H.length) rfl (dv_list (dvs_cons rfl dvs_nil)) hb) dvs_nil)) h.1))
  | drop x =>
    let ns := r.comm.filter fun m => decide (m ≠ x)
    let H3 : AH := H1 ++ [.list (ns.map .int)]
    have k3 : Keep H1 H3 := Keep.app _ _
    refine (wc_val (G := glo) hS.s11 (n + 1) j H1.length r ns H3 (hj1.keep k3) (at_len _ _) (Nat.lt_of_le_of_lt (List.length_filter_le _ _) (Nat.lt_of_lt_of_le hc (by decide)))).elim fun H' h => h.elim fun i h => fin _ _ H' i (ρ0 (.tup [.str 1886351972, .int x]) 1886351972) _ ⟨k3.trans h.2.1, h.2.2⟩ fun r0 hb => ?_
    injection hb with _ hb
    subst hb
    have hv : ev glo (callN glo D (n + 2)) (.lcomp 3 [(2, 0)] (.one 1) .plain (.var 4) (.cmp .NotEq (.var 1) (.sub (.var 2) (.c (.int 1)))) (.var 1)) (ρ0 (.tup [.str 1886351972, .int x]) 1886351972) H1 = some (.ref H1.length, H3) := by
      show caL H1 (.ref H.length) (fun j l => finL (compL (lrun (.one 1) (frameOf 3 [(2, 0)] (ρ0 (.tup [.str 1886351972, .int x]) 1886351972)) (ev glo (callN glo D (n + 2)) (.cmp .NotEq (.var 1) (.sub (.var 2) (.c (.int 1))))) (ev glo (callN glo D (n + 2)) (.var 1))) j (l.length + 1) 0 H1)) _ = _
      show (match lst H1 H.length with | some l => _ | none => _) = _
      rw [lst_is hc1]
      show finL (compL _ H.length ((r.comm.map V.int).length + 1) 0 H1) = _
      rw [List.length_map, show r.comm.length + 1 = r.comm.length + 1 + 0 from rfl, drop_comp _ H1 H.length r.comm x hc1 (fun y => ?_) r.comm 0 0 rfl]
      · rfl
      show brn (V.bool (!(y == x))) (some (some (V.int y), H1)) (some (none, H1)) = _
      rw [int_ne]
      by_cases e : y = x
      · rw [if_neg (fun h => h e), decide_eq_true e]; rfl
      · rw [if_pos e, decide_eq_false e]; rfl
    exact dxs (dx_ite false rfl rfl) (dxs_ite_ret rfl (dxs_ret (dv_call (dvs_cons rfl (dvs_cons hv dvs_nil)) h.1)))
  | clear =>
    let H3 : AH := H1 ++ [.list []]
    have k3 : Keep H1 H3 := Keep.app _ _
    refine (wc_val (G := glo) hS.s11 (n + 1) j H1.length r [] H3 (hj1.keep k3) (at_len _ _) (by decide)).elim fun H' h => h.elim fun i h => fin _ _ H' i (ρ0 (.tup [.str 491260308579]) 491260308579) _ ⟨k3.trans h.2.1, h.2.2⟩ fun r0 hb => ?_
    injection hb with _ hb
    subst hb
    exact dxs (dx_ite false rfl rfl) (dxs (dx_ite false rfl rfl) (dxs_ite_ret rfl (dxs_ret (dv_call (dvs_cons rfl (dvs_cons (dv_list dvs_nil) dvs_nil)) h.1))))
  | prep x k =>
    have c0 := prep_val (G := glo) hS.s3 hS.s4 n x r.path k H1 (of_decide_eq_true hd) hp
    refine (wf_at (G := glo) hS.s12 (n + 1) j 29401359423861601 (pv (ahead k x r.path)) r _ H1 hj1 (get_path r _)).elim fun H' h => h.elim fun i h => fin _ _ H' i (ρ0 (.tup [.str 28268879627514480, .int x, .int k]) 28268879627514480) _ h.2 fun r0 hb => ?_
    injection hb with _ hb
    subst hb
    exact dxs (dx_ite false rfl rfl) (dxs (dx_ite false rfl rfl) (dxs (dx_ite false rfl rfl) (dxs_ite_ret rfl (dxs_ret (dv_call (dvs_cons rfl (dvs_cons rfl (dvs_cons (dv_call (dvs_cons (dv_meth (x := .ref j) rfl (rec_dict h1') (dvs_cons rfl (dvs_cons rfl dvs_nil)) (get_dict h1' (by rw [hpt]; rfl))) (dvs_cons rfl (dvs_cons rfl dvs_nil))) c0) dvs_nil))) h.1)))))
end Mine.Pl
/-! R1 -/
set_option genSizeOf false
namespace Mine.Pl
/-! the policies of law 02, as data -/
inductive En where
  | acc | nxt | rej
inductive Wd where
  | med | lp | tag | len | nh | org
inductive Op where
  | ge | eq | ne | lt | gt
inductive Cn where
  | or (a b : Cn)
  | not (a : Cn)
  | tru
  | com (two : Bool)
  | has (x : Int)
  | first (x : Int)
  | pfx
  | peer (k : Int)
  | cmp (w : Wd) (o : Op) (k : Int)
inductive De where
  | set (f : Fld) (v : Int)
  | self
  | com (two v : Bool)
  | clear
  | prep (x : Int) (two : Bool)
inductive St where
  | fin (e : En)
  | deed (d : De)
  | ite (c : Cn) (a b : List St)
structure S where
  org : Int
  hd : Int
  tl : List Int
  nh : Int
  med : Option Int
  lp : Option Int
  tag : Option Int
  c1 : Bool
  c2 : Bool
/-- the three prefixes -/
inductive Pf where
  | lo | mid | hi
noncomputable def Pf.isin (p : Pf) : Bool := match p with
  | .mid => true
  | _ => false
/-- a door: does the prefix lie within; the own address; the peer -/
structure Dr where
  pf : Pf
  own : Int
  peer : Int
noncomputable def Wd.val (s : S) : Wd → Int
  | .med => s.med.getD 0
  | .lp => s.lp.getD 0
  | .tag => s.tag.getD 0
  | .len => (s.tl.length + 1 : Nat)
  | .nh => s.nh
  | .org => s.org
noncomputable def Op.at (x k : Int) : Op → Bool
  | .ge => decide (k ≤ x)
  | .eq => x == k
  | .ne => !(x == k)
  | .lt => decide (x < k)
  | .gt => decide (k < x)
noncomputable def Cn.holds (c : Cn) (e : Dr) (s : S) : Bool := match c with
  | .or a b => a.holds e s || b.holds e s
  | .not a => !a.holds e s
  | .tru => true
  | .com two => cond two s.c2 s.c1
  | .has x => (s.hd :: s.tl).any (· == x)
  | .first x => s.hd == x
  | .pfx => e.pf.isin
  | .peer k => e.peer == k
  | .cmp w o k => o.at (w.val s) k
noncomputable def De.step (own : Int) (s : S) : De → S
  | .set .lp v => { s with lp := some v }
  | .set .med v => { s with med := some v }
  | .set .origin v => { s with org := v }
  | .set .nh v => { s with nh := v }
  | .set .tag v => { s with tag := some v }
  | .self => { s with nh := own }
  | .com two v => cond two { s with c2 := v } { s with c1 := v }
  | .clear => { s with c1 := false, c2 := false }
  | .prep x two => { s with hd := x, tl := cond two (x :: s.hd :: s.tl) (s.hd :: s.tl) }
/-- one behind the other, unless the first one ends -/
noncomputable def sq (p : Option En × S) (k : S → Option En × S) : Option En × S := caO p.1 (k p.2) fun e => (some e, p.2)
section
variable (e : Dr)
mutual
noncomputable def St.run : St → S → Option En × S
  | .fin z, s => (some z, s)
  | .deed d, s => (none, d.step e.own s)
  | .ite c a b, s => cond (c.holds e s) (runs a s) (runs b s)
noncomputable def runs : List St → S → Option En × S
  | [], s => (none, s)
  | x :: r, s => sq (x.run s) (runs r)
end
end
noncomputable def En.pick {α : Type} (e : En) (a n r : α) : α := match e with
  | .acc => a
  | .nxt => n
  | .rej => r
noncomputable abbrev Term := Nat × List St
noncomputable def pol (e : Dr) : List Term → Bool → S → Option S
  | [], fb, s => cond fb (some s) none
  | t :: ts, fb, s => caO (runs e t.2 s).1 (pol e ts fb (runs e t.2 s).2) fun z => z.pick (some (runs e t.2 s).2) (pol e ts fb (runs e t.2 s).2) none
theorem sq_assoc (p : Option En × S) (k l : S → Option En × S) : sq (sq p k) l = sq p fun s => sq (k s) l := by
  obtain ⟨e, s⟩ := p
  cases e <;> rfl
theorem sq_none (p : Option En × S) : sq p (fun s => (none, s)) = p := by
  obtain ⟨e, s⟩ := p
  cases e <;> rfl
theorem runs_append (e : Dr) (a b : List St) (s : S) : runs e (a ++ b) s = sq (runs e a s) (runs e b) := by
  induction a generalizing s with
  | nil => rfl
  | cons x r ih =>
    show sq (x.run e s) (runs e (r ++ b)) = sq (sq (x.run e s) (runs e r)) (runs e b)
    rw [sq_assoc]
    exact congrArg (sq _) (funext ih)
/-! the tree of two policies -/
noncomputable def Cn.settle (p : Int) (c : Cn) : Cn := match c with
  | .or a b => .or (a.settle p) (b.settle p)
  | .not a => .not (a.settle p)
  | .peer k => cond (p == k) .tru (.not .tru)
  | c => c
noncomputable def De.put (own : Int) : De → De
  | .self => .set .nh own
  | d => d
section
variable (own p : Int) (bh lt : List St)
mutual
/-- the tree of one statement, with what comes behind -/
noncomputable def St.tree : St → List St → List St
  | .fin z, _ => z.pick lt bh [.fin .rej]
  | .deed d, k => .deed (d.put own) :: k
  | .ite c a b, k => [.ite (c.settle p) (trees a k) (trees b k)]
noncomputable def trees : List St → List St → List St
  | [], k => k
  | x :: r, k => x.tree (trees r k)
end
end
theorem trees_append (own p : Int) (bh lt : List St) (a b k : List St) : trees own p bh lt (a ++ b) k = trees own p bh lt a (trees own p bh lt b k) := by
  induction a with
  | nil => rfl
  | cons x r ih => exact congrArg (x.tree own p bh lt) ih
noncomputable def whole (own p : Int) (lt : List St) (fb : Bool) : List Term → List St
  | [] => cond fb lt [.fin .rej]
  | t :: ts => trees own p (whole own p lt fb ts) lt t.2 (whole own p lt fb ts)
theorem settle_holds (e d : Dr) (h : e.pf = d.pf) (c : Cn) (s : S) : (c.settle e.peer).holds d s = c.holds e s := by
  induction c with
  | or a b iha ihb => show ((a.settle e.peer).holds d s || (b.settle e.peer).holds d s) = _; rw [iha, ihb]; rfl
  | not a ih => show (!(a.settle e.peer).holds d s) = _; rw [ih]; rfl
  | peer k =>
    show (Cn.holds (cond (e.peer == k) .tru (.not .tru)) d s) = (e.peer == k)
    cases e.peer == k <;> rfl
  | pfx => exact congrArg Pf.isin h.symm
  | _ => rfl
theorem put_step (own o : Int) (d : De) (s : S) : (d.put own).step o s = d.step own s := by
  cases d with
  | set f v => cases f <;> rfl
  | _ => rfl
/-- no condition that was settled -/
noncomputable def Cn.raw : Cn → Bool
  | .or a b => a.raw && b.raw
  | .not a => a.raw
  | .tru => false
  | _ => true
mutual
noncomputable def St.raw : St → Bool
  | .ite c a b => c.raw && (raws a && raws b)
  | _ => true
noncomputable def raws : List St → Bool
  | [] => true
  | x :: r => x.raw && raws r
end
theorem raws_append (a b : List St) : raws (a ++ b) = (raws a && raws b) := by
  induction a with
  | nil => rfl
  | cons x r ih => show (x.raw && raws (r ++ b)) = (x.raw && raws r && raws b); rw [ih, Bool.and_assoc]
/-- what is let out -/
noncomputable def out (x : Option En × S) : Option S := caO x.1 none fun z => z.pick (some x.2) none none
noncomputable def outs (d : Dr) (bh lt k : List St) (x : Option En × S) : Option S := caO x.1 (out (runs d k x.2)) fun z => z.pick (out (runs d lt x.2)) (out (runs d bh x.2)) none
section
variable (e d : Dr) (h : e.pf = d.pf) (bh lt : List St)
include h
theorem trees_ok (l : List St) : ∀ (k : List St) (s : S), out (runs d (trees e.own e.peer bh lt l k) s) = outs d bh lt k (runs e l s) :=
  List.rec (motive := fun l => ∀ k s, out (runs d (trees e.own e.peer bh lt l k) s) = outs d bh lt k (runs e l s)) (fun _ _ => rfl)
    (fun x r ih => by
      have one : ∀ (x : St) (k : List St) (s : S), out (runs d (x.tree e.own e.peer bh lt k) s) = outs d bh lt k (x.run e s) := fun x =>
        St.rec (motive_1 := fun x => ∀ k s, out (runs d (x.tree e.own e.peer bh lt k) s) = outs d bh lt k (x.run e s)) (motive_2 := fun l => ∀ k s, out (runs d (trees e.own e.peer bh lt l k) s) = outs d bh lt k (runs e l s))
          (fun z k s => by cases z <;> rfl)
          (fun y k s => by
            show out (runs d k ((y.put e.own).step d.own s)) = out (runs d k (y.step e.own s))
            rw [put_step])
          (fun c a b iha ihb k s => by
            show out (sq (cond ((c.settle e.peer).holds d s) (runs d (trees e.own e.peer bh lt a k) s) (runs d (trees e.own e.peer bh lt b k) s)) fun s => (none, s)) = outs d bh lt k (cond (c.holds e s) (runs e a s) (runs e b s))
            rw [sq_none, settle_holds e d h]
            cases c.holds e s
            · exact ihb k s
            · exact iha k s)
          (fun _ _ => rfl)
          (fun x r ih ihr k s => by
            show out (runs d (x.tree e.own e.peer bh lt (trees e.own e.peer bh lt r k)) s) = outs d bh lt k (sq (x.run e s) (runs e r))
            rw [ih]
            cases hx : x.run e s with
            | mk o s' =>
              cases o with
              | none => exact ihr k s'
              | some z => cases z <;> rfl)
          x
      intro k s
      show out (runs d (x.tree e.own e.peer bh lt (trees e.own e.peer bh lt r k)) s) = outs d bh lt k (sq (x.run e s) (runs e r))
      rw [one]
      cases hx : x.run e s with
      | mk o s' =>
        cases o with
        | none => exact ih k s'
        | some z => cases z <;> rfl)
    l
theorem whole_ok (fb : Bool) (ts : List Term) : ∀ s, out (runs d (whole e.own e.peer lt fb ts) s) = (pol e ts fb s).bind fun s' => out (runs d lt s') := by
  induction ts with
  | nil => intro s; cases fb <;> rfl
  | cons t ts ih =>
    intro s
    refine (trees_ok e d h _ lt t.2 _ s).trans ?_
    show outs d (whole e.own e.peer lt fb ts) lt (whole e.own e.peer lt fb ts) (runs e t.2 s) = (caO (runs e t.2 s).1 (pol e ts fb (runs e t.2 s).2) fun z => z.pick (some (runs e t.2 s).2) (pol e ts fb (runs e t.2 s).2) none).bind fun s' => out (runs d lt s')
    cases runs e t.2 s with
    | mk o s' =>
      cases o with
      | none => exact ih s'
      | some z =>
        cases z with
        | acc => rfl
        | nxt => exact ih s'
        | rej => rfl
end
/-- the one policy of a single term -/
theorem single_ok (l : List St) (nm : Nat) (d : Dr) (s : S) : pol d [(nm, l)] false s = out (runs d l s) := by
  show (caO (runs d l s).1 none fun z => z.pick (some (runs d l s).2) none none) = _
  rfl
theorem both_ok (e1 e2 d : Dr) (h1 : e1.pf = d.pf) (h2 : e2.pf = d.pf) (f1 f2 : Bool) (t1 t2 : List Term) (nm : Nat) (s : S) :
    pol d [(nm, whole e1.own e1.peer (whole e2.own e2.peer [.fin .acc] f2 t2) f1 t1)] false s = (pol e1 t1 f1 s).bind (pol e2 t2 f2) := by
  rw [single_ok, whole_ok e1 d h1]
  refine congrArg _ (funext fun s' => ?_)
  rw [whole_ok e2 d h2]
  cases pol e2 t2 f2 s' <;> rfl
end Mine.Pl
/-! R2 -/
namespace Mine.Pl
/-! as values -/
noncomputable def En.word : En → Nat
  | .acc => 128026086171489
  | .nxt => 1954047342
  | .rej => 127970252055922
noncomputable def Wd.word : Wd → Nat
  | .med => 6579565
  | .lp => 483552748545009705512812
  | .tag => 6775156
  | .len => 1926849177878679876449
  | .nh => 8101808799099676014
  | .org => 121398985585263
noncomputable def Op.word : Op → Nat
  | .ge => 15678
  | .eq => 61
  | .ne => 15649
  | .lt => 60
  | .gt => 62
noncomputable def Pf.enc : Pf → V
  | .lo => .tup [.int 167772160, .int 8]
  | .mid => .tup [.int 167837696, .int 16]
  | .hi => .tup [.int 184549376, .int 16]
noncomputable def Cn.enc : Cn → V
  | .or a b => .tup [.str 29295, a.enc, b.enc]
  | .not a => .tup [.str 7630702, a.enc]
  | .tru => .tup [.str 1702195828]
  | .com two => .tup [.str 2240444390150436122467, .int (cond two 2 1)]
  | .has x => .tup [.str 7561576, .int x]
  | .first x => .tup [.str 500153084262, .int x]
  | .pfx => .tup [.str 132394084823664, .tup [.int 167772160, .int 8], .int 16, .int 32]
  | .peer k => .tup [.str 28554735471390563, .str 32476470142395760, .str 61, .int k]
  | .cmp w o k => .tup [.str 28554735471390563, .str w.word, .str o.word, .int k]
noncomputable def De.dd : De → Dd
  | .set f v => .set f v
  | .self => .self
  | .com two v => cond v (.add (cond two 2 1)) (.drop (cond two 2 1))
  | .clear => .clear
  | .prep x two => .prep x (cond two 2 1)
mutual
noncomputable def St.enc : St → V
  | .fin e => .tup [.str e.word]
  | .deed d => d.dd.enc
  | .ite c a b => .tup [.str 26217, c.enc, .tup (encs a), .tup (encs b)]
noncomputable def encs : List St → List V
  | [] => []
  | x :: r => x.enc :: encs r
end
theorem encs_map (l : List St) : encs l = l.map St.enc := by
  induction l with
  | nil => rfl
  | cons x r ih => exact congrArg _ ih
noncomputable def comm2 (a b : Bool) : List Int := (if a then [1] else []) ++ (if b then [2] else [])
noncomputable def S.rt (s : S) : Rt := ⟨s.org, some (s.hd :: s.tl), s.nh, s.med, s.lp, s.tag, comm2 s.c1 s.c2⟩
theorem norm_add : ∀ (a b : Bool), norm (comm2 a b ++ [1]) = comm2 true b ∧ norm (comm2 a b ++ [2]) = comm2 a true := by decide
theorem norm_drop : ∀ (a b : Bool), norm ((comm2 a b).filter fun m => decide (m ≠ 1)) = comm2 false b ∧ norm ((comm2 a b).filter fun m => decide (m ≠ 2)) = comm2 a false := by decide
theorem app_step (own : Int) (d : De) (s : S) : d.dd.app own s.rt = (d.step own s).rt := by
  obtain ⟨og, hd, tl, nh, m, lp, t, a, b⟩ := s
  have na := norm_add a b
  have nd := norm_drop a b
  have hc : ∀ {x y : List Int}, x = y → (⟨og, some (hd :: tl), nh, m, lp, t, x⟩ : Rt) = ⟨og, some (hd :: tl), nh, m, lp, t, y⟩ := fun h => by rw [h]
  cases d with
  | com two v => cases two <;> cases v <;> first | exact hc na.1 | exact hc na.2 | exact hc nd.1 | exact hc nd.2
  | set f v => cases f <;> rfl
  | prep x two => cases two <;> rfl
  | _ => rfl
theorem okk_de (d : De) : d.dd.okk = true := by
  cases d with
  | com two v => cases v <;> rfl
  | prep x two => cases two <;> rfl
  | _ => rfl
/-! how deep, how wide -/
noncomputable def Cn.dep : Cn → Nat
  | .or a b => max a.dep b.dep + 1
  | .not a => a.dep + 1
  | .peer _ => 1
  | _ => 0
mutual
noncomputable def St.wt : St → Nat
  | .fin _ => 1
  | .deed _ => 1
  | .ite c a b => max c.dep (max (wts a) (wts b)) + 1
noncomputable def wts : List St → Nat
  | [] => 0
  | x :: r => x.wt + wts r
end
theorem wts_append (a b : List St) : wts (a ++ b) = wts a + wts b := by
  induction a with
  | nil => exact (Nat.zero_add _).symm
  | cons x r ih => show x.wt + wts (r ++ b) = x.wt + wts r + wts b; rw [ih, Nat.add_assoc]
theorem len_wts (l : List St) : l.length ≤ wts l := by
  induction l with
  | nil => exact Nat.le_refl _
  | cons x r ih => exact Nat.le_trans (Nat.le_of_eq (Nat.add_comm _ _)) (Nat.add_le_add (by cases x <;> first | exact Nat.le_refl _ | exact Nat.le_add_left _ _) ih)
/-- how much longer the path may grow -/
theorem step_len (own : Int) (d : De) (s : S) : (d.step own s).tl.length ≤ s.tl.length + 2 := by
  cases d with
  | set f v => cases f <;> exact Nat.le_add_right _ _
  | com two v => cases two <;> exact Nat.le_add_right _ _
  | prep x two => cases two <;> first | exact Nat.le_refl _ | exact Nat.le_succ _
  | _ => exact Nat.le_add_right _ _
theorem sq_len {p : Option En × S} {k : S → Option En × S} {a b n : Nat} (h : p.2.tl.length ≤ n + 2 * a) (g : ∀ s, (k s).2.tl.length ≤ s.tl.length + 2 * b) : (sq p k).2.tl.length ≤ n + 2 * (a + b) := by
  obtain ⟨o, s⟩ := p
  cases o with
  | none => exact Nat.le_trans (g s) (by have h : s.tl.length ≤ _ := h; omega)
  | some z => exact Nat.le_trans h (by omega)
theorem runs_len (e : Dr) (l : List St) : ∀ s, (runs e l s).2.tl.length ≤ s.tl.length + 2 * wts l := by
  have one : ∀ (x : St) (s : S), (x.run e s).2.tl.length ≤ s.tl.length + 2 * x.wt := fun x =>
    St.rec (motive_1 := fun x => ∀ s, (x.run e s).2.tl.length ≤ s.tl.length + 2 * x.wt) (motive_2 := fun l => ∀ s, (runs e l s).2.tl.length ≤ s.tl.length + 2 * wts l)
      (fun _ s => Nat.le_add_right _ _) (fun d s => step_len e.own d s)
      (fun c a b iha ihb s => by
        show (cond (c.holds e s) (runs e a s) (runs e b s)).2.tl.length ≤ s.tl.length + 2 * (max c.dep (max (wts a) (wts b)) + 1)
        have h1 := Nat.le_trans (Nat.le_max_left (wts a) (wts b)) (Nat.le_max_right c.dep _)
        have h2 := Nat.le_trans (Nat.le_max_right (wts a) (wts b)) (Nat.le_max_right c.dep _)
        generalize max c.dep (max (wts a) (wts b)) = M at *
        cases c.holds e s
        · exact Nat.le_trans (ihb s) (by omega)
        · exact Nat.le_trans (iha s) (by omega))
      (fun _ => Nat.le_refl _) (fun x r ih ihr s => sq_len (ih s) ihr) x
  induction l with
  | nil => exact fun s => Nat.le_refl _
  | cons x r ih => exact fun s => sq_len (one x s) ih
theorem pol_len (e : Dr) (fb : Bool) (B : Nat) (ts : List Term) : (∀ t ∈ ts, wts t.2 ≤ B) → ∀ s s', pol e ts fb s = some s' → s'.tl.length ≤ s.tl.length + 2 * (B * ts.length) := by
  induction ts with
  | nil =>
    intro _ s s' h
    cases fb
    · cases h
    · cases h; exact Nat.le_add_right _ _
  | cons t ts ih =>
    intro hB s s' h
    have h1 := runs_len e t.2 s
    have h2 := hB t (.head _)
    have e1 : B * (t :: ts).length = B * ts.length + B := Nat.mul_succ _ _
    replace h : (caO (runs e t.2 s).1 (pol e ts fb (runs e t.2 s).2) fun z => z.pick (some (runs e t.2 s).2) (pol e ts fb (runs e t.2 s).2) none) = some s' := h
    cases hx : runs e t.2 s with
    | mk o s1 =>
      rw [hx] at h h1
      have h1 : s1.tl.length ≤ s.tl.length + 2 * wts t.2 := h1
      have go : pol e ts fb s1 = some s' → s'.tl.length ≤ s.tl.length + 2 * (B * (t :: ts).length) := fun h => by
        have := ih (fun t ht => hB t (.tail _ ht)) s1 s' h
        rw [e1]
        omega
      cases o with
      | none => exact go h
      | some z =>
        cases z with
        | acc => cases h; rw [e1]; omega
        | nxt => exact go h
        | rej => cases h
/-! the tree's weight -/
theorem settle_dep (p : Int) (c : Cn) : (c.settle p).dep ≤ c.dep := by
  induction c with
  | or a b iha ihb => exact Nat.succ_le_succ (Nat.max_le.mpr ⟨Nat.le_trans iha (Nat.le_max_left _ _), Nat.le_trans ihb (Nat.le_max_right _ _)⟩)
  | not a ih => exact Nat.succ_le_succ ih
  | peer k =>
    show (cond (p == k) Cn.tru (.not .tru)).dep ≤ 1
    cases p == k <;> decide
  | _ => exact Nat.le_refl _
theorem trees_wt (own p : Int) (bh lt : List St) (l : List St) : ∀ (k : List St) (B : Nat), wts bh ≤ B → wts lt ≤ B → 1 ≤ B → wts k ≤ B → wts (trees own p bh lt l k) ≤ wts l + B := by
  have cons : ∀ (x : St) (r : List St), (∀ (k : List St) (B : Nat), wts bh ≤ B → wts lt ≤ B → 1 ≤ B → wts k ≤ B → wts (x.tree own p bh lt k) ≤ x.wt + B) → (∀ (k : List St) (B : Nat), wts bh ≤ B → wts lt ≤ B → 1 ≤ B → wts k ≤ B → wts (trees own p bh lt r k) ≤ wts r + B) →
      ∀ (k : List St) (B : Nat), wts bh ≤ B → wts lt ≤ B → 1 ≤ B → wts k ≤ B → wts (x.tree own p bh lt (trees own p bh lt r k)) ≤ x.wt + wts r + B := fun x r ih ihr k B h1 h2 h3 h4 =>
    Nat.le_trans (ih _ (wts r + B) (by omega) (by omega) (by omega) (ihr k B h1 h2 h3 h4)) (by omega)
  have one : ∀ (x : St) (k : List St) (B : Nat), wts bh ≤ B → wts lt ≤ B → 1 ≤ B → wts k ≤ B → wts (x.tree own p bh lt k) ≤ x.wt + B := fun x =>
    St.rec (motive_1 := fun x => ∀ (k : List St) (B : Nat), wts bh ≤ B → wts lt ≤ B → 1 ≤ B → wts k ≤ B → wts (x.tree own p bh lt k) ≤ x.wt + B) (motive_2 := fun l => ∀ (k : List St) (B : Nat), wts bh ≤ B → wts lt ≤ B → 1 ≤ B → wts k ≤ B → wts (trees own p bh lt l k) ≤ wts l + B)
      (fun z k B h1 h2 h3 _ => by
        have h3 : wts [St.fin .rej] ≤ B := h3
        cases z
        · exact Nat.le_trans h2 (Nat.le_add_left _ _)
        · exact Nat.le_trans h1 (Nat.le_add_left _ _)
        · exact Nat.le_trans h3 (Nat.le_add_left _ _))
      (fun d k B _ _ _ h => Nat.add_le_add_left h 1)
      (fun c a b iha ihb k B h1 h2 h3 h4 => by
        show max (c.settle p).dep (max (wts (trees own p bh lt a k)) (wts (trees own p bh lt b k))) + 1 ≤ max c.dep (max (wts a) (wts b)) + 1 + B
        have a1 := iha k B h1 h2 h3 h4
        have a2 := ihb k B h1 h2 h3 h4
        have a3 := settle_dep p c
        have b1 := Nat.le_trans (Nat.le_max_left (wts a) (wts b)) (Nat.le_max_right c.dep _)
        have b2 := Nat.le_trans (Nat.le_max_right (wts a) (wts b)) (Nat.le_max_right c.dep _)
        have b3 := Nat.le_max_left c.dep (max (wts a) (wts b))
        generalize max c.dep (max (wts a) (wts b)) = M at *
        have : max (c.settle p).dep (max (wts (trees own p bh lt a k)) (wts (trees own p bh lt b k))) ≤ M + B := Nat.max_le.mpr ⟨by omega, Nat.max_le.mpr ⟨by omega, by omega⟩⟩
        omega)
      (fun k B _ _ _ h => by show wts k ≤ 0 + B; omega) (fun x r ih ihr => cons x r ih ihr) x
  induction l with
  | nil => exact fun k B _ _ _ h => by show wts k ≤ 0 + B; omega
  | cons x r ih => exact cons x r (one x) ih
theorem whole_wt (own p : Int) (lt : List St) (fb : Bool) (B : Nat) (ts : List Term) : (∀ t ∈ ts, wts t.2 ≤ B) → wts (whole own p lt fb ts) ≤ B * ts.length + wts lt + 1 := by
  induction ts with
  | nil =>
    intro _
    cases fb
    · exact Nat.le_add_left 1 _
    · show wts lt ≤ B * 0 + wts lt + 1
      omega
  | cons t ts ih =>
    intro hB
    have h1 := ih fun t ht => hB t (.tail _ ht)
    have h2 := hB t (.head _)
    have e1 : B * (t :: ts).length = B * ts.length + B := Nat.mul_succ _ _
    rw [e1]
    exact Nat.le_trans (trees_wt own p _ lt t.2 _ (B * ts.length + wts lt + 1) h1 (by omega) (by omega) h1) (by omega)
end Mine.Pl
/-! R3 -/
namespace Mine.Pl
theorem std02 : Std tab02 := ⟨rfl, rfl, rfl, rfl, rfl, rfl, rfl⟩
section
variable {G : GTab} {F : Calls} {ρ ρ' : Loc} {H H1 H2 H3 : AH} {a b c e1 e2 e3 e4 : PE} {x y : Bool} {v v1 v2 v3 v4 : V} {r p : PSs}
theorem dv_var {i : Nat} {v : V} (h : ρ[i]? = some (some v)) : ev G F (.var i) ρ H = some (v, H) := obn_e (f := fun o => obn o fun v => some (v, H)) h
theorem dv_not (ha : ev G F a ρ H = some (.bool x, H1)) : ev G F (.not a) ρ H = some (.bool (!x), H1) :=
  show bnd (ev G F a ρ H) (fun v H1 => obn (boolV v) fun b => some (V.bool (!b), H1)) = _ from (bnd_e ha).trans rfl
theorem dv_andB (ha : ev G F a ρ H = some (.bool x, H)) (hb : ev G F b ρ H = some (.bool y, H)) : ev G F (.and a b) ρ H = some (.bool (x && y), H) := by
  cases x
  · exact dv_and' ha
  · exact dv_and ha hb
theorem dv_orB (ha : ev G F a ρ H = some (.bool x, H)) (hb : ev G F b ρ H = some (.bool y, H)) : ev G F (.or a b) ρ H = some (.bool (x || y), H) := by
  cases x
  · exact dv_or ha hb
  · exact dv_or' ha
theorem dv_gin {i : PE} {g : Nat} {y : V} {l : List (Key × V)} {k : Key} (h : ev G F i ρ H = some (y, H1)) (hg : G g = some l) (hk : keyOf y = some k) : ev G F (.gin i g) ρ H = some (.bool (getK l k).isSome, H1) :=
  show bnd (ev G F i ρ H) (fun y H1 => obn (G g) fun l => obn (keyOf y) fun k => some (V.bool (getK l k).isSome, H1)) = _ from (bnd_e h).trans ((obn_e hg).trans (obn_e hk))
theorem dv_gsub {i : PE} {g : Nat} {y v : V} {l : List (Key × V)} {k : Key} (h : ev G F i ρ H = some (y, H1)) (hg : G g = some l) (hk : keyOf y = some k) (hv : getK l k = some v) : ev G F (.gsub g i) ρ H = some (v, H1) :=
  show bnd (ev G F i ρ H) (fun y H1 => obn (G g) fun l => obn (keyOf y) fun k => obn (getK l k) fun v => some (v, H1)) = _ from (bnd_e h).trans ((obn_e hg).trans ((obn_e hk).trans (obn_e hv)))
theorem dx_for_tup {t : Tgt} {it : PE} {body : PSs} {l : List V} {r : Option (Fl × Loc × AH)} (h : ev G F it ρ H = some (.tup l, H1)) (k : forI (frun G F t body) l ρ H1 = r) : ex G F (.for_ t .plain it body) ρ H = r :=
  show bnd (ev G F it ρ H) (fun x H1 => fsrc (frun G F t body) .plain x ρ H1) = _ from (bnd_e h).trans k
theorem dxs_for {t : Tgt} {it : PE} {body : PSs} {l : List V} (h : ev G F it ρ H = some (.tup l, H1)) : exs G F (.cons (.for_ t .plain it body) r) ρ H = thn (forI (frun G F t body) l ρ H1) fun ρ H => exs G F r ρ H :=
  congrArg (fun o => thn o fun ρ H => exs G F r ρ H) (dx_for_tup h rfl)
theorem for1 {t : Tgt} {it : PE} {body : PSs} {x : V} {ρ1 : Loc} {q : Option (Fl × Loc × AH)} (h : ev G F it ρ H = some (.tup [x], H1)) (hp : putV t x ρ = some ρ1) (hb : exs G F body ρ1 H1 = some (.next, ρ', H2)) (h' : exs G F r ρ' H2 = q) : exs G F (.cons (.for_ t .plain it body) r) ρ H = q :=
  (dxs_for h).trans ((thn_e (ρ := ρ') (H := H2) (thn_e ((obn_e hp).trans hb))).trans h')
theorem for1r {t : Tgt} {it : PE} {body : PSs} {x : V} {ρ1 : Loc} (h : ev G F it ρ H = some (.tup [x], H1)) (hp : putV t x ρ = some ρ1) (hb : exs G F body ρ1 H1 = some (.ret v, ρ', H2)) : exs G F (.cons (.for_ t .plain it body) r) ρ H = some (.ret v, ρ', H2) :=
  (dxs_for h).trans (thn_r (thn_r ((obn_e hp).trans hb)))
/-- a test that fails; a test that holds and gives back -/
theorem sk {q : Option (Fl × Loc × AH)} (h : ev G F c ρ H = some (.bool false, H1)) (h' : exs G F r ρ H1 = q) : exs G F (.cons (.ite c p .nil) r) ρ H = q := dxs (dx_ite false h rfl) h'
theorem hit {q : PSs} (h : ev G F c ρ H = some (.bool true, H1)) (h' : ev G F a ρ H1 = some (v, H2)) : exs G F (.cons (.ite c (.cons (.ret a) p) q) r) ρ H = some (.ret v, ρ, H2) := dxs_ite_ret h (dxs_ret h')
theorem dvs1 (h1 : ev G F e1 ρ H = some (v1, H1)) : evs G F (.cons e1 .nil) ρ H = some ([v1], H1) := dvs_cons h1 dvs_nil
theorem dvs2 (h1 : ev G F e1 ρ H = some (v1, H1)) (h2 : ev G F e2 ρ H1 = some (v2, H2)) : evs G F (.cons e1 (.cons e2 .nil)) ρ H = some ([v1, v2], H2) := dvs_cons h1 (dvs1 h2)
theorem dvs3 (h1 : ev G F e1 ρ H = some (v1, H1)) (h2 : ev G F e2 ρ H1 = some (v2, H2)) (h3 : ev G F e3 ρ H2 = some (v3, H3)) : evs G F (.cons e1 (.cons e2 (.cons e3 .nil))) ρ H = some ([v1, v2, v3], H3) := dvs_cons h1 (dvs2 h2 h3)
theorem dvs4 {H4 : AH} (h1 : ev G F e1 ρ H = some (v1, H1)) (h2 : ev G F e2 ρ H1 = some (v2, H2)) (h3 : ev G F e3 ρ H2 = some (v3, H3)) (h4 : ev G F e4 ρ H3 = some (v4, H4)) : evs G F (.cons e1 (.cons e2 (.cons e3 (.cons e4 .nil)))) ρ H = some ([v1, v2, v3, v4], H4) := dvs_cons h1 (dvs3 h2 h3 h4)
end
theorem thn_assoc (o : Option (Fl × Loc × AH)) (k l : Loc → AH → Option (Fl × Loc × AH)) : thn (thn o k) l = thn o fun ρ H => thn (k ρ H) l := by
  cases o with
  | none => rfl
  | some p => obtain ⟨f, ρ, H⟩ := p; cases f <;> rfl
theorem inV_ints (x : Int) (l : List Int) : inV (.int x) (l.map .int) = some (l.any (· == x)) := by
  induction l with
  | nil => rfl
  | cons y r ih => exact obn_e (f := fun b => some ((y == x) || b)) ih
theorem in_comm (two : Bool) (s : S) : inV (.int (cond two 2 1)) ((comm2 s.c1 s.c2).map .int) = some (cond two s.c2 s.c1) := by
  obtain ⟨_, _, _, _, _, _, _, a, b⟩ := s
  cases two <;> cases a <;> cases b <;> rfl
/-- what a route's dict gives -/
theorem at_get {H : AH} {j : Nat} {s : S} (hj : At H j s.rt) {k : Nat} {d v : V} (h : (s.rt.get (.s k)).getD d = v) : recOk .get (.ref j) H = some () ∧ methV .get (.ref j) [.str k, d] H = some (v, H) :=
  hj.elim fun l g => ⟨rec_dict g.1, get_dict g.1 (by rw [g.2.2]; exact h)⟩
section
variable {G : GTab} {F : Calls} {ρ : Loc} {H : AH} {j f : Nat} {s : S}
theorem ev_get {i k : Nat} {d v : V} {p : PE} (hj : At H j s.rt) (hi : ev G F (.var i) ρ H = some (.ref j, H)) (hp : ev G F p ρ H = some (d, H)) (h : (s.rt.get (.s k)).getD d = v) : ev G F (.meth .get (.var i) (.cons (.c (.str k)) (.cons p .nil))) ρ H = some (v, H) :=
  dv_meth hi (at_get hj h).1 (dvs2 rfl hp) (at_get hj h).2
end
section
variable {P : V} {j f : Nat} {s : S} {H : AH} {e : Dr}
theorem len_val (n : Nat) (l : List Int) (H : AH) : callN glo tab02 (n + 1) 0 [pathV l] H = some (.int l.length, H) := by
  have hl : ev glo (callN glo tab02 n) (.bin .Add (.var 1) (.fn .len (.var 3))) [some (pathV l), some (.int 0), some (.int 2), some (.tup (l.map .int)), none, none, none] H = some (.int l.length, H) :=
    dv_bin (op := .Add) (x := .int 0) (y := .int l.length) rfl (dv_fn (x := .tup (l.map .int)) rfl (congrArg (fun n : Nat => some (V.int n, H)) (List.length_map V.int))) (congrArg (fun i => some (V.int i, H)) (Int.zero_add _))
  have e1 : exs glo (callN glo tab02 n) p_0.body [some (pathV l), none, none, none, none, none, none] H = some (.ret (.int l.length), [some (pathV l), some (.int l.length), some (.int 2), some (.tup (l.map .int)), none, none, none], H) :=
    dxs (dx_asg rfl rfl) (for1 (x := .tup [.int 2, .tup (l.map .int)]) (H1 := H) (H2 := H) rfl rfl (dxs (dx_ite true rfl (dxs (dx_asg hl rfl) dxs_nil)) dxs_nil) (dxs_ret rfl))
  exact d_call rfl rfl rfl e1
theorem first_val (n : Nat) (x : Int) (l : List Int) (H : AH) : callN glo tab02 (n + 1) 1 [pathV (x :: l)] H = some (.int x, H) := by
  have hc : ev glo (callN glo tab02 n) (.cmp .Gt (.fn .len (.var 2)) (.c (.int 0))) [some (pathV (x :: l)), some (.int 2), some (.tup ((x :: l).map .int)), none, none, none] H = some (.bool true, H) :=
    dv_cmp (op := .Gt) (t := true) (x := .int ((x :: l).map V.int).length) (y := .int 0) rfl rfl (congrArg some (decide_eq_true (by rw [List.length_map, List.length_cons]; omega)))
  have e1 : exs glo (callN glo tab02 n) p_1.body [some (pathV (x :: l)), none, none, none, none, none] H = some (.ret (.int x), [some (pathV (x :: l)), some (.int 2), some (.tup ((x :: l).map .int)), none, none, none], H) :=
    for1r (x := .tup [.int 2, .tup ((x :: l).map .int)]) (H1 := H) rfl rfl (hit (dv_and rfl hc) rfl)
  exact d_call rfl rfl rfl e1
theorem has_val (n : Nat) (x : Int) (l : List Int) (H : AH) : callN glo tab02 (n + 1) 2 [pathV l, .int x] H = some (.bool (l.any (· == x)), H) := by
  have hc : ev glo (callN glo tab02 n) (.cmp .In (.var 1) (.var 3)) [some (pathV l), some (.int x), some (.int 2), some (.tup (l.map .int))] H = some (.bool (l.any (· == x)), H) := dv_cmp (op := .In) (x := .int x) (y := .tup (l.map .int)) rfl rfl (inV_ints x l)
  have e1 : exs glo (callN glo tab02 n) p_2.body [some (pathV l), some (.int x), none, none] H = some (.ret (.bool (l.any (· == x))), [some (pathV l), some (.int x), some (.int 2), some (.tup (l.map .int))], H) := by
    cases h : l.any (· == x) with
    | true => rw [h] at hc; exact for1r (x := .tup [.int 2, .tup (l.map .int)]) (H1 := H) rfl rfl (hit hc rfl)
    | false => rw [h] at hc; exact for1 (x := .tup [.int 2, .tup (l.map .int)]) (H1 := H) (H2 := H) rfl rfl (sk hc dxs_nil) (dxs_ret rfl)
  exact d_call rfl rfl rfl e1
theorem cmp_val (n : Nat) (o : Op) (x k : Int) (H : AH) : callN glo tab02 (n + 1) 8 [.int x, .str o.word, .int k] H = some (.bool (o.at x k), H) := by
  cases o with
  | eq => exact d_call (ρ := [some (.int x), some (.str 61), some (.int k)]) rfl rfl rfl (hit rfl rfl)
  | ne => exact d_call (ρ := [some (.int x), some (.str 15649), some (.int k)]) rfl rfl rfl (sk rfl (hit rfl rfl))
  | lt => exact d_call (ρ := [some (.int x), some (.str 60), some (.int k)]) rfl rfl rfl (sk rfl (sk rfl (hit rfl rfl)))
  | gt => exact d_call (ρ := [some (.int x), some (.str 62), some (.int k)]) rfl rfl rfl (sk rfl (sk rfl (sk rfl (sk rfl (dxs_ret (dv_ite rfl rfl))))))
  | ge => exact d_call (ρ := [some (.int x), some (.str 15678), some (.int k)]) rfl rfl rfl (sk rfl (sk rfl (sk rfl (sk rfl (dxs_ret (dv_ite' rfl rfl))))))
theorem opt_int (o : Option Int) : (o.map V.int).getD (.int 0) = .int (o.getD 0) := by cases o <;> rfl
theorem field_val (n : Nat) (w : Wd) (hj : At H j s.rt) : callN glo tab02 (n + 2) 9 [.str w.word, P, .ref j, .ref f] H = some (.int (w.val s), H) := by
  have go : ∀ (wd k : Nat) (v : Int), getK [(.s 483552748545009705512812, .str 483552748599985286901612), (.s 6579565, .str 6579565), (.s 121398985585263, .str 121398985585263), (.s 8101808799099676014, .str 8101809013848040814), (.s 6775156, .str 6775156)] (.s wd) = some (.str k) →
      (s.rt.get (.s k)).getD (.int 0) = .int v → ev glo (callN glo tab02 (n + 1)) (.meth .get (.var 2) (.cons (.gsub 0 (.var 0)) (.cons (.c (.int 0)) .nil))) [some (.str wd), some P, some (.ref j), some (.ref f), none, none] H = some (.int v, H) := fun wd k v h1 h2 =>
    dv_meth (x := .ref j) rfl (at_get hj h2).1 (dvs2 (dv_gsub (y := .str wd) rfl rfl rfl h1) rfl) (at_get hj h2).2
  have fin : ∀ (wd : Nat) (v : Int), (wd == 114849160783212) = false → (wd == 1926849177878679876449) = false → (wd == 32476470142395760) = false → ev glo (callN glo tab02 (n + 1)) (.meth .get (.var 2) (.cons (.gsub 0 (.var 0)) (.cons (.c (.int 0)) .nil))) [some (.str wd), some P, some (.ref j), some (.ref f), none, none] H = some (.int v, H) →
      callN glo tab02 (n + 2) 9 [.str wd, P, .ref j, .ref f] H = some (.int v, H) := fun wd v h1 h2 h3 h => by
    have e1 : exs glo (callN glo tab02 (n + 1)) p_9.body [some (.str wd), some P, some (.ref j), some (.ref f), none, none] H = some (.ret (.int v), [some (.str wd), some P, some (.ref j), some (.ref f), none, none], H) :=
      sk (dv_cmp (op := .Eq) (x := .str wd) (y := .str 114849160783212) rfl rfl (congrArg some h1)) (sk (dv_cmp (op := .Eq) (x := .str wd) (y := .str 1926849177878679876449) rfl rfl (congrArg some h2)) (sk (dv_cmp (op := .Eq) (x := .str wd) (y := .str 32476470142395760) rfl rfl (congrArg some h3)) (dxs_ret h)))
    exact d_call rfl rfl rfl e1
  cases w with
  | med => exact fin _ _ rfl rfl rfl (go _ 6579565 _ rfl (opt_int s.med))
  | lp => exact fin _ _ rfl rfl rfl (go _ 483552748599985286901612 _ rfl (opt_int s.lp))
  | tag => exact fin _ _ rfl rfl rfl (go _ 6775156 _ rfl (opt_int s.tag))
  | nh => exact fin _ _ rfl rfl rfl (go _ 8101809013848040814 _ rfl rfl)
  | org => exact fin _ _ rfl rfl rfl (go _ 121398985585263 _ rfl rfl)
  | len =>
    have e1 : exs glo (callN glo tab02 (n + 1)) p_9.body [some (.str 1926849177878679876449), some P, some (.ref j), some (.ref f), none, none] H = some (.ret (.int (s.tl.length + 1 : Nat)), [some (.str 1926849177878679876449), some P, some (.ref j), some (.ref f), none, none], H) :=
      sk rfl (hit rfl (dv_call (dvs1 (ev_get (k := 29401359423861601) (v := pathV (s.hd :: s.tl)) hj rfl rfl rfl)) (len_val n (s.hd :: s.tl) H)))
    exact d_call rfl rfl rfl e1
theorem facts_get {i k : Nat} {F : Calls} {ρ : Loc} {v : Int} {l : List (Key × V)} (h : H[f]? = some (.dict l)) (hi : ev glo F (.var i) ρ H = some (.ref f, H)) (hg : (getK l (.s k)).getD (.int 0) = .int v) : ev glo F (.meth .get (.var i) (.cons (.c (.str k)) (.cons (.c (.int 0)) .nil))) ρ H = some (.int v, H) :=
  dv_meth hi (rec_dict h) (dvs2 rfl rfl) (get_dict h hg)
theorem peer_val (n : Nat) (own peer : Int) (hf : FactsAt H f own peer) : callN glo tab02 (n + 1) 9 [.str 32476470142395760, P, .ref j, .ref f] H = some (.int peer, H) := by
  obtain ⟨l, h1, _, h3⟩ := hf
  have e1 : exs glo (callN glo tab02 n) p_9.body [some (.str 32476470142395760), some P, some (.ref j), some (.ref f), none, none] H = some (.ret (.int peer), [some (.str 32476470142395760), some P, some (.ref j), some (.ref f), none, none], H) := sk rfl (sk rfl (hit rfl (facts_get h1 rfl h3)))
  exact d_call rfl rfl rfl e1
theorem dv_cmp2 {G : GTab} {F : Calls} {ρ : Loc} {a b c : PE} {x y z : V} {t : Bool} (ha : ev G F a ρ H = some (x, H)) (hb : ev G F b ρ H = some (y, H)) (h1 : cmpV .LtE x y H = some true) (hc : ev G F c ρ H = some (z, H)) (h2 : cmpV .LtE y z H = some t) : ev G F (.cmp2 .LtE .LtE a b c) ρ H = some (.bool t, H) :=
  show bnd (ev G F a ρ H) (fun x H1 => bnd (ev G F b ρ H1) fun y H2 => obn (cmpV .LtE x y H2) fun r => cond r (bnd (ev G F c ρ H2) fun z H3 => obn (cmpV .LtE y z H3) fun r => some (V.bool r, H3)) (some (V.bool false, H2))) = _ from
    (bnd_e ha).trans ((bnd_e hb).trans ((obn_e h1).trans (show bnd (ev G F c ρ H) (fun z H3 => obn (cmpV .LtE y z H3) fun r => some (V.bool r, H3)) = _ from (bnd_e hc).trans (obn_e h2))))
noncomputable abbrev pfC : V := .tup [.int 167772160, .int 8]
theorem addr_val (n : Nat) (x y m : Int) (hb : binV .BitAnd (.int x) (.int 4278190080) H = some (.int m, H)) : callN glo tab02 (n + 2) 6 [.tup [.int y, .int 8], .int x, .int 32] H = some (.bool (m == y), H) := by
  have e5 : callN glo tab02 (n + 1) 5 [.int 8, .int 32] H = some (.int 4278190080, H) :=
    d_call (ρ := [some (.int 8), some (.int 32)]) rfl rfl rfl (dxs_ret (dv_bin (op := .LShift) (x := .int 255) (y := .int 24) (dv_bin (op := .Sub) (x := .int 256) (y := .int 1) rfl rfl rfl) rfl rfl))
  have e1 : exs glo (callN glo tab02 (n + 1)) p_6.body [some (.tup [.int y, .int 8]), some (.int x), some (.int 32), none] H = some (.ret (.bool (m == y)), [some (.tup [.int y, .int 8]), some (.int x), some (.int 32), none], H) :=
    dxs_ret (dv_cmp (op := .Eq) (x := .int m) (y := .int y) (dv_bin (op := .BitAnd) (x := .int x) (y := .int 4278190080) rfl (dv_call (dvs2 rfl rfl) e5) hb) rfl rfl)
  exact d_call rfl rfl rfl e1
theorem cov_val (n : Nat) (x l m : Int) (hl : decide ((8 : Int) ≤ l) = true) (hb : binV .BitAnd (.int x) (.int 4278190080) H = some (.int m, H)) : callN glo tab02 (n + 3) 7 [pfC, .tup [.int x, .int l], .int 32] H = some (.bool (m == 167772160), H) := by
  have e1 : exs glo (callN glo tab02 (n + 2)) p_7.body [some pfC, some (.tup [.int x, .int l]), some (.int 32), none] H = some (.ret (.bool (m == 167772160)), [some pfC, some (.tup [.int x, .int l]), some (.int 32), none], H) :=
    dxs_ret (dv_and (dv_cmp (op := .LtE) (x := .int 8) (y := .int l) rfl rfl (congrArg some hl)) (dv_call (dvs3 rfl rfl rfl) (addr_val n x 167772160 m hb)))
  exact d_call rfl rfl rfl e1
noncomputable abbrev pfE : PE := .and (.call 7 (.cons (.sub (.var 0) (.c (.int 1))) (.cons (.var 1) (.cons (.c (.int 32)) .nil)))) (.cmp2 .LtE .LtE (.sub (.var 0) (.c (.int 2))) (.sub (.var 1) (.c (.int 1))) (.sub (.var 0) (.c (.int 3))))
theorem pfx_val (n : Nat) (p : Pf) (ρ : Loc) (h0 : ρ[0]? = some (some Cn.pfx.enc)) (h1 : ρ[1]? = some (some p.enc)) : ev glo (callN glo tab02 (n + 3)) pfE ρ H = some (.bool p.isin, H) := by
  have a0 : ∀ {k : Nat} {v : V}, [V.str 132394084823664, pfC, .int 16, .int 32][k]? = some v → ev glo (callN glo tab02 (n + 3)) (.sub (.var 0) (.c (.int k))) ρ H = some (v, H) := fun {k v} h => dv_sub (x := Cn.pfx.enc) (y := .int k) (dv_var h0) rfl (show gua (decide ((0 : Int) ≤ (k : Int))) [V.str 132394084823664, pfC, .int 16, .int 32][(k : Int).toNat]? = _ from (gua_e (Int.natCast_nonneg k)).trans h)
  have one : ∀ (x l m : Int) (t : Bool), p.enc = .tup [.int x, .int l] → decide ((8 : Int) ≤ l) = true → binV .BitAnd (.int x) (.int 4278190080) H = some (.int m, H) → (m == 167772160) = t → ev glo (callN glo tab02 (n + 3)) (.call 7 (.cons (.sub (.var 0) (.c (.int 1))) (.cons (.var 1) (.cons (.c (.int 32)) .nil)))) ρ H = some (.bool t, H) := fun x l m t hp hl hb ht =>
    dv_call (dvs3 (a0 (k := 1) rfl) (hp ▸ dv_var h1) rfl) (ht ▸ cov_val n x l m hl hb)
  have a1 : ∀ {x l : Int}, p.enc = .tup [.int x, .int l] → ev glo (callN glo tab02 (n + 3)) (.sub (.var 1) (.c (.int 1))) ρ H = some (.int l, H) := fun hp => dv_sub (x := .tup [_, _]) (hp ▸ dv_var h1) rfl rfl
  cases p with
  | lo =>
    refine dv_and (one 167772160 8 167772160 true rfl rfl rfl rfl) ?_
    exact (bnd_e (a0 (k := 2) rfl)).trans (bnd_e (a1 rfl))
  | mid => exact dv_and (one 167837696 16 167772160 true rfl rfl rfl rfl) (dv_cmp2 (a0 (k := 2) rfl) (a1 rfl) rfl (a0 (k := 3) rfl) rfl)
  | hi => exact dv_and' (one 184549376 16 184549376 false rfl rfl rfl rfl)
end
end Mine.Pl
/-! R4 -/
namespace Mine.Pl
noncomputable abbrev loc10 (c P : V) (j f : Nat) (k : Option V) : Loc := [some c, some P, some (.ref j), some (.ref f), k, none, none, none, none, none, none, none]
section
variable {j f : Nat} {s : S} {H : AH} {e : Dr}
theorem cond_val (c : Cn) : ∀ m, c.dep + 3 < m → At H j s.rt → FactsAt H f e.own e.peer → callN glo tab02 m 10 [c.enc, e.pf.enc, .ref j, .ref f] H = some (.bool (c.holds e s), H) := by
  have go : ∀ (c : Cn) (k : Nat) (m : Nat) (v : V), (∀ {t : Option (Fl × Loc × AH)} {r : PSs}, exs glo (callN glo tab02 m) r (loc10 c.enc e.pf.enc j f (some (.str k))) H = t → exs glo (callN glo tab02 m) (.cons (.asg (.one 4) (.sub (.var 0) (.c (.int 0)))) r) (loc10 c.enc e.pf.enc j f none) H = t) →
      (∀ r, p_10.body = .cons (.asg (.one 4) (.sub (.var 0) (.c (.int 0)))) r → exs glo (callN glo tab02 m) r (loc10 c.enc e.pf.enc j f (some (.str k))) H = some (.ret v, loc10 c.enc e.pf.enc j f (some (.str k)), H)) → callN glo tab02 (m + 1) 10 [c.enc, e.pf.enc, .ref j, .ref f] H = some (v, H) := fun c k m v h1 h2 => by
    have e1 : exs glo (callN glo tab02 m) p_10.body (loc10 c.enc e.pf.enc j f none) H = some (.ret v, loc10 c.enc e.pf.enc j f (some (.str k)), H) := h1 (h2 _ rfl)
    exact d_call rfl rfl rfl e1
  have path : ∀ {F : Calls} {ρ : Loc}, ρ[2]? = some (some (.ref j)) → At H j s.rt → ev glo F (.meth .get (.var 2) (.cons (.c (.str 29401359423861601)) (.cons (.tup .nil) .nil))) ρ H = some (pathV (s.hd :: s.tl), H) := fun h hj => ev_get hj (dv_var h) rfl rfl
  induction c with
  | or a b iha ihb =>
    intro m hm hj hf
    have hd : max a.dep b.dep + 1 + 3 < m := hm
    obtain ⟨m, rfl⟩ : ∃ k, m = k + 1 := ⟨m - 1, by omega⟩
    refine go (.or a b) 29295 m _ (fun h => dxs (dx_asg rfl rfl) h) fun r hr => ?_
    cases hr
    exact sk rfl (hit rfl (dv_orB (dv_call (dvs4 rfl rfl rfl rfl) (iha m (by omega) hj hf)) (dv_call (dvs4 rfl rfl rfl rfl) (ihb m (by omega) hj hf))))
  | not a iha =>
    intro m hm hj hf
    have hd : a.dep + 1 + 3 < m := hm
    obtain ⟨m, rfl⟩ : ∃ k, m = k + 1 := ⟨m - 1, by omega⟩
    refine go (.not a) 7630702 m _ (fun h => dxs (dx_asg rfl rfl) h) fun r hr => ?_
    cases hr
    exact sk rfl (sk rfl (hit rfl (dv_not (dv_call (dvs4 rfl rfl rfl rfl) (iha m (by omega) hj hf)))))
  | tru =>
    intro m hm hj hf
    obtain ⟨m, rfl⟩ : ∃ k, m = k + 1 := ⟨m - 1, by omega⟩
    refine go .tru 1702195828 m _ (fun h => dxs (dx_asg rfl rfl) h) fun r hr => ?_
    cases hr
    exact sk rfl (sk rfl (sk rfl (sk rfl (sk rfl (sk rfl (sk rfl (sk rfl (sk rfl (dxs_ret rfl)))))))))
  | com two =>
    intro m hm hj hf
    obtain ⟨m, rfl⟩ : ∃ k, m = k + 1 := ⟨m - 1, by omega⟩
    refine go (.com two) 2240444390150436122467 m _ (fun h => dxs (dx_asg rfl rfl) h) fun r hr => ?_
    cases hr
    exact sk rfl (sk rfl (sk rfl (sk rfl (hit rfl (dv_cmp (op := .In) (x := .int (cond two 2 1)) (y := .tup ((comm2 s.c1 s.c2).map .int)) rfl (ev_get hj rfl rfl (get_comm s.rt)) (in_comm two s))))))
  | has x =>
    intro m hm hj hf
    obtain ⟨m, rfl⟩ : ∃ k, m = k + 1 + 1 := ⟨m - 2, by omega⟩
    refine go (.has x) 7561576 (m + 1) _ (fun h => dxs (dx_asg rfl rfl) h) fun r hr => ?_
    cases hr
    exact sk rfl (sk rfl (sk rfl (sk rfl (sk rfl (hit rfl (dv_call (dvs2 (path rfl hj) rfl) (has_val m x _ H)))))))
  | first x =>
    intro m hm hj hf
    obtain ⟨m, rfl⟩ : ∃ k, m = k + 1 + 1 := ⟨m - 2, by omega⟩
    refine go (.first x) 500153084262 (m + 1) _ (fun h => dxs (dx_asg rfl rfl) h) fun r hr => ?_
    cases hr
    exact sk rfl (sk rfl (sk rfl (sk rfl (sk rfl (sk rfl (hit rfl (dv_cmp (op := .Eq) (x := .int s.hd) (y := .int x) (dv_call (dvs1 (path rfl hj)) (first_val m _ _ H)) rfl rfl)))))))
  | pfx =>
    intro m hm hj hf
    obtain ⟨m, rfl⟩ : ∃ k, m = k + 3 + 1 := ⟨m - 4, by omega⟩
    refine go .pfx 132394084823664 (m + 3) _ (fun h => dxs (dx_asg rfl rfl) h) fun r hr => ?_
    cases hr
    exact sk rfl (sk rfl (sk rfl (hit rfl (pfx_val m e.pf _ rfl rfl))))
  | peer k =>
    intro m hm hj hf
    obtain ⟨m, rfl⟩ : ∃ k, m = k + 1 + 1 := ⟨m - 2, by omega⟩
    refine go (.peer k) 28554735471390563 (m + 1) _ (fun h => dxs (dx_asg rfl rfl) h) fun r hr => ?_
    cases hr
    exact sk rfl (sk rfl (sk rfl (sk rfl (sk rfl (sk rfl (sk rfl (sk rfl (hit rfl (dv_call (dvs3 (dv_call (dvs4 rfl rfl rfl rfl) (peer_val m e.own e.peer hf)) rfl rfl) (cmp_val m .eq e.peer k H))))))))))
  | cmp w o k =>
    intro m hm hj hf
    obtain ⟨m, rfl⟩ : ∃ k, m = k + 2 + 1 := ⟨m - 3, by omega⟩
    refine go (.cmp w o k) 28554735471390563 (m + 2) _ (fun h => dxs (dx_asg rfl rfl) h) fun r hr => ?_
    cases hr
    exact sk rfl (sk rfl (sk rfl (sk rfl (sk rfl (sk rfl (sk rfl (sk rfl (hit rfl (dv_call (dvs3 (dv_call (dvs4 rfl rfl rfl rfl) (field_val m w hj)) rfl rfl) (cmp_val (m + 1) o _ k H))))))))))
end
/-! run_statements -/
noncomputable def code (o : Option En) : Int := caO o 0 fun e => e.pick 1 3 2
noncomputable abbrev body14 : PSs := .cons (.asg (.one 5) (.c (.int 0)))
    (.cons (.ite (.cmp .Eq (.sub (.var 4) (.c (.int 0))) (.c (.str 26217))) (.cons (.asg (.one 6) (.call 10 (.cons (.sub (.var 4) (.c (.int 1))) (.cons (.var 1) (.cons (.var 2) (.cons (.var 3) .nil))))))
    (.cons (.asg (.many [5, 2]) (.call 14 (.cons (.ite (.var 6) (.sub (.var 4) (.c (.int 2))) (.sub (.var 4) (.c (.int 3)))) (.cons (.var 1) (.cons (.var 2) (.cons (.var 3) .nil))))))
    .nil)) (.cons (.ite (.gin (.sub (.var 4) (.c (.int 0))) 1) (.cons (.asg (.one 5) (.gsub 1 (.sub (.var 4) (.c (.int 0)))))
    .nil) (.cons (.asg (.one 2) (.call 13 (.cons (.var 4) (.cons (.var 2) (.cons (.var 3) .nil)))))
    .nil))
    .nil))
    (.cons (.ite (.cmp .NotEq (.var 5) (.c (.int 0))) (.cons (.ret (.tup (.cons (.var 5) (.cons (.var 2) .nil))))
    .nil) .nil)
    .nil))
noncomputable abbrev ret14 : PSs := .cons (.ret (.tup (.cons (.c (.int 0)) (.cons (.var 2) .nil)))) .nil
noncomputable abbrev loc14 (A P : V) (j f : Nat) (x4 x5 x6 : Option V) : Loc := [some A, some P, some (.ref j), some (.ref f), x4, x5, x6, none, none, none, none, none]
noncomputable def fl14 (o : Option En) (i : Nat) : Fl := caO o .next fun e => .ret (.tup [.int (code (some e)), .ref i])
noncomputable abbrev ends3 : List (Key × V) := [(.s 128026086171489, .int 1), (.s 127970252055922, .int 2), (.s 1954047342, .int 3)]
theorem word_de (d : De) : ∃ w rest, d.dd.enc = .tup (.str w :: rest) ∧ (w == 26217) = false ∧ getK ends3 (.s w) = none := by
  cases d with
  | com two v => cases v <;> exact ⟨_, _, rfl, rfl, rfl⟩
  | _ => exact ⟨_, _, rfl, rfl, rfl⟩
theorem fit_rt {s : S} {n : Nat} (h : s.tl.length + 2 * (n + 1) ≤ 240) : s.rt.comm.length < 62 ∧ (s.rt.path.getD []).length + 2 < 255 :=
  ⟨Nat.lt_of_le_of_lt ((by decide : ∀ a b, (comm2 a b).length ≤ 2) s.c1 s.c2) (by decide), by show s.tl.length + 1 + 2 < 255; omega⟩
/-- what a call of run_statements gives -/
noncomputable def RsAt (m f : Nat) (e : Dr) (l : List St) : Prop := ∀ (j : Nat) (s : S) (H : AH), At H j s.rt → FactsAt H f e.own e.peer → s.tl.length + 2 * wts l ≤ 240 →
  ∃ H' i, callN glo tab02 m 14 [.tup (encs l), e.pf.enc, .ref j, .ref f] H = some (.tup [.int (code (runs e l s).1), .ref i], H') ∧ Keep H H' ∧ At H' i (runs e l s).2.rt
section
variable {n f : Nat} {e : Dr}
theorem last14 {F : Calls} {A P : V} {j f : Nat} {x4 x6 : Option V} {H : AH} (o : Option En) : exs glo F (.cons (.ite (.cmp .NotEq (.var 5) (.c (.int 0))) (.cons (.ret (.tup (.cons (.var 5) (.cons (.var 2) .nil)))) .nil) .nil) .nil) (loc14 A P j f x4 (some (.int (code o))) x6) H =
    some (fl14 o j, loc14 A P j f x4 (some (.int (code o))) x6, H) := by
  cases o with
  | none => exact dxs (dx_ite false rfl rfl) dxs_nil
  | some e => cases e <;> exact dxs_ite_ret rfl (dxs_ret rfl)
theorem one14 (hN : ∀ l, wts l < n → RsAt (n + 4) f e l) (x : St) (hx : x.wt ≤ n) (A : V) (j : Nat) (s : S) (H : AH) (x4 x5 x6 : Option V) (hj : At H j s.rt) (hf : FactsAt H f e.own e.peer) (hl : s.tl.length + 2 * x.wt ≤ 240) :
    ∃ H' i y5 y6, Keep H H' ∧ At H' i (x.run e s).2.rt ∧ frun glo (callN glo tab02 (n + 4)) (.one 4) body14 x.enc (loc14 A e.pf.enc j f x4 x5 x6) H = some (fl14 (x.run e s).1 i, loc14 A e.pf.enc i f (some x.enc) y5 y6, H') := by
  have first : ∀ {r : PSs} {t : Option (Fl × Loc × AH)}, exs glo (callN glo tab02 (n + 4)) r (loc14 A e.pf.enc j f (some x.enc) (some (.int 0)) x6) H = t → exs glo (callN glo tab02 (n + 4)) (.cons (.asg (.one 5) (.c (.int 0))) r) (loc14 A e.pf.enc j f (some x.enc) x5 x6) H = t := fun h => dxs (dx_asg rfl rfl) h
  cases x with
  | fin z => exact ⟨H, j, some (.int (code (some z))), x6, Keep.refl _, hj, first (dxs (ρ' := loc14 A e.pf.enc j f (some (St.fin z).enc) (some (.int (code (some z)))) x6) (dx_ite false (by cases z <;> rfl) (dxs (dx_ite true (by cases z <;> rfl) (dxs (dx_asg (v := .int (code (some z))) (by cases z <;> rfl) rfl) dxs_nil)) dxs_nil)) (last14 (some z)))⟩
  | deed d =>
    obtain ⟨H1, i1, c1, c2, c3⟩ := cr_val std02 (n + 1) j f d.dd s.rt e.own e.peer H hj hf (fit_rt (n := 0) hl).1 (fit_rt (n := 0) hl).2 (okk_de d)
    rw [app_step] at c3
    obtain ⟨w, rest, hw, w1, w2⟩ := word_de d
    have hsub : ev glo (callN glo tab02 (n + 4)) (.sub (.var 4) (.c (.int 0))) (loc14 A e.pf.enc j f (some (St.deed d).enc) (some (.int 0)) x6) H = some (.str w, H) := by
      show ev glo (callN glo tab02 (n + 4)) (.sub (.var 4) (.c (.int 0))) (loc14 A e.pf.enc j f (some d.dd.enc) (some (.int 0)) x6) H = some (.str w, H)
      rw [hw]
      exact dv_sub (x := .tup (.str w :: rest)) (y := .int 0) rfl rfl rfl
    exact ⟨H1, i1, some (.int 0), x6, c2, c3, first (dxs (ρ' := loc14 A e.pf.enc i1 f (some (St.deed d).enc) (some (.int 0)) x6) (dx_ite false (dv_cmp (y := .str 26217) hsub rfl (congrArg some w1)) (dxs (dx_ite false ((dv_gin hsub rfl rfl).trans (by rw [w2]; rfl)) (dxs (dx_asg (dv_call (dvs3 rfl rfl rfl) c1) rfl) dxs_nil)) dxs_nil)) (last14 none))⟩
  | ite c a b =>
    have hd : max c.dep (max (wts a) (wts b)) + 1 ≤ n := hx
    have hl : s.tl.length + 2 * (max c.dep (max (wts a) (wts b)) + 1) ≤ 240 := hl
    have b1 := Nat.le_trans (Nat.le_max_left (wts a) (wts b)) (Nat.le_max_right c.dep _)
    have b2 := Nat.le_trans (Nat.le_max_right (wts a) (wts b)) (Nat.le_max_right c.dep _)
    have b3 := Nat.le_max_left c.dep (max (wts a) (wts b))
    generalize max c.dep (max (wts a) (wts b)) = M at *
    have hc := cond_val (f := f) (e := e) c (n + 4) (by omega) hj hf
    obtain ⟨H1, i1, c1, c2, c3⟩ : ∃ H' i, callN glo tab02 (n + 4) 14 [cond (c.holds e s) (.tup (encs a)) (.tup (encs b)), e.pf.enc, .ref j, .ref f] H = some (.tup [.int (code (cond (c.holds e s) (runs e a s) (runs e b s)).1), .ref i], H') ∧ Keep H H' ∧ At H' i (cond (c.holds e s) (runs e a s) (runs e b s)).2.rt := by
      cases c.holds e s
      · exact hN b (by omega) j s H hj hf (by omega)
      · exact hN a (by omega) j s H hj hf (by omega)
    have hite : ev glo (callN glo tab02 (n + 4)) (.ite (.var 6) (.sub (.var 4) (.c (.int 2))) (.sub (.var 4) (.c (.int 3)))) (loc14 A e.pf.enc j f (some (St.ite c a b).enc) (some (.int 0)) (some (.bool (c.holds e s)))) H = some (cond (c.holds e s) (.tup (encs a)) (.tup (encs b)), H) := by
      cases c.holds e s
      · exact dv_ite' rfl rfl
      · exact dv_ite rfl rfl
    refine ⟨H1, i1, some (.int (code ((St.ite c a b).run e s).1)), some (.bool (c.holds e s)), c2, c3, first (dxs (ρ' := loc14 A e.pf.enc i1 f (some (St.ite c a b).enc) (some (.int (code ((St.ite c a b).run e s).1))) (some (.bool (c.holds e s)))) (H1 := H1) (dx_ite true rfl ?_) (last14 _))⟩
    exact dxs (ρ' := loc14 A e.pf.enc j f (some (St.ite c a b).enc) (some (.int 0)) (some (.bool (c.holds e s)))) (dx_asg (dv_call (dvs4 rfl rfl rfl rfl) hc) rfl)
      (dxs (dx_asg (dv_call (dvs4 hite rfl rfl rfl) c1) rfl) dxs_nil)
theorem list14 (hN : ∀ l, wts l < n → RsAt (n + 4) f e l) (A : V) (l : List St) : wts l ≤ n → ∀ (j : Nat) (s : S) (H : AH) (x4 x5 x6 : Option V), At H j s.rt → FactsAt H f e.own e.peer → s.tl.length + 2 * wts l ≤ 240 →
    ∃ H' i ρ', thn (forI (frun glo (callN glo tab02 (n + 4)) (.one 4) body14) (encs l) (loc14 A e.pf.enc j f x4 x5 x6) H) (fun ρ H => exs glo (callN glo tab02 (n + 4)) ret14 ρ H) = some (.ret (.tup [.int (code (runs e l s).1), .ref i]), ρ', H') ∧ Keep H H' ∧ At H' i (runs e l s).2.rt := by
  induction l with
  | nil => exact fun _ j s H x4 x5 x6 hj _ _ => ⟨H, j, _, show exs glo (callN glo tab02 (n + 4)) ret14 (loc14 A e.pf.enc j f x4 x5 x6) H = _ from dxs_ret rfl, Keep.refl _, hj⟩
  | cons x r ih =>
    intro hd j s H x4 x5 x6 hj hf hl
    have hd : x.wt + wts r ≤ n := hd
    have hl : s.tl.length + 2 * (x.wt + wts r) ≤ 240 := hl
    obtain ⟨H1, i1, y5, y6, k1, a1, e1⟩ := one14 hN x (by omega) A j s H x4 x5 x6 hj hf (by omega)
    have hx1 : (x.run e s).2.tl.length ≤ s.tl.length + 2 * x.wt := by
      have := runs_len e [x] s
      replace this : (sq (x.run e s) fun s => (none, s)).2.tl.length ≤ s.tl.length + 2 * (x.wt + 0) := this
      rw [sq_none] at this
      exact this
    have e0 : ∀ K : Loc → AH → Option (Fl × Loc × AH), thn (forI (frun glo (callN glo tab02 (n + 4)) (.one 4) body14) (encs (x :: r)) (loc14 A e.pf.enc j f x4 x5 x6) H) K = thn (some (fl14 (x.run e s).1 i1, loc14 A e.pf.enc i1 f (some x.enc) y5 y6, H1)) (fun ρ H => thn (forI (frun glo (callN glo tab02 (n + 4)) (.one 4) body14) (encs r) ρ H) K) := by
      intro K
      rw [← e1]
      exact thn_assoc _ _ _
    rw [e0]
    show ∃ H' i ρ', _ = some (Fl.ret (.tup [.int (code (sq (x.run e s) (runs e r)).1), .ref i]), ρ', H') ∧ Keep H H' ∧ At H' i (sq (x.run e s) (runs e r)).2.rt
    cases hx : x.run e s with
    | mk o s' =>
      rw [hx] at a1 hx1
      cases o with
      | some z => exact ⟨H1, i1, _, rfl, k1, a1⟩
      | none =>
        have hx1 : s'.tl.length ≤ s.tl.length + 2 * x.wt := hx1
        obtain ⟨H2, i2, ρ2, e2, k2, a2⟩ := ih (by omega) i1 s' H1 (some x.enc) y5 y6 a1 (hf.keep k1) (by omega)
        exact ⟨H2, i2, ρ2, e2, k1.trans k2, a2⟩
theorem rs_step (hN : ∀ l, wts l < n → RsAt (n + 4) f e l) (l : List St) (hl : wts l ≤ n) : RsAt (n + 5) f e l := fun j s H hj hf hp => by
  obtain ⟨H', i, ρ', e1, k, a⟩ := list14 hN (.tup (encs l)) l hl j s H none none none hj hf hp
  exact ⟨H', i, d_call (ρ := loc14 (.tup (encs l)) e.pf.enc j f none none none) rfl rfl rfl (show exs glo (callN glo tab02 (n + 4)) (.cons (.for_ (.one 4) .plain (.var 0) body14) ret14) (loc14 (.tup (encs l)) e.pf.enc j f none none none) H = _ from (dxs_for rfl).trans e1), k, a⟩
theorem rs_val (n : Nat) : ∀ l, wts l ≤ n → RsAt (n + 5) f e l := by
  induction n with
  | zero => exact rs_step fun l h => absurd h (Nat.not_lt_zero _)
  | succ n ih => exact rs_step fun l h => ih l (Nat.le_of_lt_succ h)
end
/-! run_policy -/
noncomputable abbrev body15 : PSs := .cons (.asg (.many [8, 2]) (.call 14 (.cons (.var 7) (.cons (.var 1) (.cons (.var 2) (.cons (.var 3) .nil))))))
    (.cons (.ite (.cmp .Eq (.var 8) (.c (.int 1))) (.cons (.ret (.var 2))
    .nil) .nil)
    (.cons (.ite (.cmp .Eq (.var 8) (.c (.int 2))) (.cons (.ret (.c .none))
    .nil) .nil)
    .nil))
noncomputable def termV (t : Term) : V := .tup [.str t.1, .tup (encs t.2)]
noncomputable abbrev fbV (fb : Bool) : V := .tup [.str (cond fb 128026086171489 127970252055922)]
noncomputable abbrev polV (ts : List Term) (fb : Bool) : V := .tup [.tup (ts.map termV), fbV fb]
/-- a route, or nothing -/
noncomputable def ResAt (H : AH) (v : V) (o : Option S) : Prop := caO o (v = .none) fun s => ∃ i, v = .ref i ∧ At H i s.rt
noncomputable abbrev ret15 : PSs := .cons (.ret (.ite (.cmp .Eq (.var 5) (.tup (.cons (.c (.str 128026086171489)) .nil))) (.var 2) (.c .none))) .nil
noncomputable abbrev loc15 (A P : V) (j f : Nat) (B C : V) (x6 x7 x8 : Option V) : Loc := [some A, some P, some (.ref j), some (.ref f), some B, some C, x6, x7, x8, none, none, none]
section
variable {n f : Nat} {e : Dr}
theorem list15 (A B : V) (fb : Bool) (ts : List Term) : (∀ t ∈ ts, wts t.2 ≤ n) → ∀ (j : Nat) (s : S) (H : AH) (x6 x7 x8 : Option V), At H j s.rt → FactsAt H f e.own e.peer → s.tl.length + 2 * (n * ts.length) ≤ 240 →
    ∃ H' v ρ', thn (forI (frun glo (callN glo tab02 (n + 5)) (.many [6, 7]) body15) (ts.map termV) (loc15 A e.pf.enc j f B (fbV fb) x6 x7 x8) H) (fun ρ H => exs glo (callN glo tab02 (n + 5)) ret15 ρ H) = some (.ret v, ρ', H') ∧ Keep H H' ∧ ResAt H' v (pol e ts fb s) := by
  induction ts with
  | nil =>
    intro _ j s H x6 x7 x8 hj _ _
    cases fb with
    | true => exact ⟨H, .ref j, _, show exs glo (callN glo tab02 (n + 5)) ret15 (loc15 A e.pf.enc j f B (fbV true) x6 x7 x8) H = _ from dxs_ret (dv_ite (dv_cmp rfl rfl rfl) rfl), Keep.refl _, j, rfl, hj⟩
    | false => exact ⟨H, .none, _, show exs glo (callN glo tab02 (n + 5)) ret15 (loc15 A e.pf.enc j f B (fbV false) x6 x7 x8) H = _ from dxs_ret (dv_ite' (dv_cmp rfl rfl rfl) rfl), Keep.refl _, rfl⟩
  | cons t ts ih =>
    intro hd j s H x6 x7 x8 hj hf hl
    have e1 : n * (t :: ts).length = n * ts.length + n := Nat.mul_succ _ _
    rw [e1] at hl
    have ht := hd t (.head _)
    obtain ⟨H1, i1, c1, k1, a1⟩ := rs_val (f := f) (e := e) n t.2 ht j s H hj hf (by omega)
    have l1 := runs_len e t.2 s
    have first : ∀ {K : Loc → AH → Option (Fl × Loc × AH)} {r : Option (Fl × Loc × AH)}, thn (exs glo (callN glo tab02 (n + 5)) (.cons (.ite (.cmp .Eq (.var 8) (.c (.int 1))) (.cons (.ret (.var 2)) .nil) .nil) (.cons (.ite (.cmp .Eq (.var 8) (.c (.int 2))) (.cons (.ret (.c .none)) .nil) .nil) .nil)) (loc15 A e.pf.enc i1 f B (fbV fb) (some (.str t.1)) (some (.tup (encs t.2))) (some (.int (code (runs e t.2 s).1)))) H1) (fun ρ H => thn (forI (frun glo (callN glo tab02 (n + 5)) (.many [6, 7]) body15) (ts.map termV) ρ H) K) = r →
        thn (forI (frun glo (callN glo tab02 (n + 5)) (.many [6, 7]) body15) ((t :: ts).map termV) (loc15 A e.pf.enc j f B (fbV fb) x6 x7 x8) H) K = r := fun h => by
      refine Eq.trans ?_ h
      refine (thn_assoc _ _ _).trans (congrArg (fun o => thn o _) ?_)
      show exs glo (callN glo tab02 (n + 5)) body15 (loc15 A e.pf.enc j f B (fbV fb) (some (.str t.1)) (some (.tup (encs t.2))) x8) H = _
      exact dxs (s := .asg (.many [8, 2]) (.call 14 (.cons (.var 7) (.cons (.var 1) (.cons (.var 2) (.cons (.var 3) .nil)))))) (dx_asg (dv_call (dvs4 rfl rfl rfl rfl) c1) rfl) rfl
    show ∃ H' v ρ', _ = some (Fl.ret v, ρ', H') ∧ Keep H H' ∧ ResAt H' v (caO (runs e t.2 s).1 (pol e ts fb (runs e t.2 s).2) fun z => z.pick (some (runs e t.2 s).2) (pol e ts fb (runs e t.2 s).2) none)
    cases hx : runs e t.2 s with
    | mk o s' =>
      rw [hx] at a1 c1 first l1
      have l1 : s'.tl.length ≤ s.tl.length + 2 * wts t.2 := l1
      have next : ∀ {x : Int}, (x == 1) = false → (x == 2) = false → exs glo (callN glo tab02 (n + 5)) (.cons (.ite (.cmp .Eq (.var 8) (.c (.int 1))) (.cons (.ret (.var 2)) .nil) .nil) (.cons (.ite (.cmp .Eq (.var 8) (.c (.int 2))) (.cons (.ret (.c .none)) .nil) .nil) .nil)) (loc15 A e.pf.enc i1 f B (fbV fb) (some (.str t.1)) (some (.tup (encs t.2))) (some (.int x))) H1 = some (.next, loc15 A e.pf.enc i1 f B (fbV fb) (some (.str t.1)) (some (.tup (encs t.2))) (some (.int x)), H1) :=
        fun h1 h2 => sk (dv_cmp rfl rfl (congrArg some h1)) (sk (dv_cmp rfl rfl (congrArg some h2)) dxs_nil)
      have go : ∀ {x : Int}, (x == 1) = false → (x == 2) = false → x = code o → ∃ H' v ρ', thn (forI (frun glo (callN glo tab02 (n + 5)) (.many [6, 7]) body15) ((t :: ts).map termV) (loc15 A e.pf.enc j f B (fbV fb) x6 x7 x8) H) (fun ρ H => exs glo (callN glo tab02 (n + 5)) ret15 ρ H) = some (.ret v, ρ', H') ∧ Keep H H' ∧ ResAt H' v (pol e ts fb s') := fun h1 h2 h3 => by
        subst h3
        obtain ⟨H2, v, ρ2, e2, k2, a2⟩ := ih (fun t ht => hd t (.tail _ ht)) i1 s' H1 (some (.str t.1)) (some (.tup (encs t.2))) (some (.int (code o))) a1 (hf.keep k1) (by omega)
        exact ⟨H2, v, ρ2, first ((thn_e (next h1 h2)).trans e2), k1.trans k2, a2⟩
      cases o with
      | none => exact go rfl rfl rfl
      | some z =>
        cases z with
        | nxt => exact go rfl rfl rfl
        | acc => exact ⟨H1, .ref i1, _, first (thn_r (dxs_ite_ret rfl (dxs_ret rfl))), k1, i1, rfl, a1⟩
        | rej => exact ⟨H1, .none, _, first (thn_r (sk rfl (dxs_ite_ret rfl (dxs_ret rfl)))), k1, rfl⟩
theorem rp_val (fb : Bool) (ts : List Term) (hd : ∀ t ∈ ts, wts t.2 ≤ n) (j : Nat) (s : S) (H : AH) (hj : At H j s.rt) (hf : FactsAt H f e.own e.peer) (hl : s.tl.length + 2 * (n * ts.length) ≤ 240) :
    ∃ H' v, callN glo tab02 (n + 6) 15 [polV ts fb, e.pf.enc, .ref j, .ref f] H = some (v, H') ∧ Keep H H' ∧ ResAt H' v (pol e ts fb s) := by
  obtain ⟨H', v, ρ', e1, k, a⟩ := list15 (n := n) (e := e) (f := f) (polV ts fb) (.tup (ts.map termV)) fb ts hd j s H none none none hj hf hl
  exact ⟨H', v, d_call (ρ := [some (polV ts fb), some e.pf.enc, some (.ref j), some (.ref f), none, none, none, none, none, none, none, none]) rfl rfl rfl (dxs (ρ' := loc15 (polV ts fb) e.pf.enc j f (.tup (ts.map termV)) (fbV fb) none none none) (dx_asg rfl rfl) (show exs glo (callN glo tab02 (n + 5)) (.cons (.for_ (.many [6, 7]) .plain (.var 4) body15) ret15) (loc15 (polV ts fb) e.pf.enc j f (.tup (ts.map termV)) (fbV fb) none none none) H = _ from (dxs_for rfl).trans e1)), k, a⟩
end
end Mine.Pl
/-! R5 -/
namespace Mine.Pl
/-- all kept but one -/
noncomputable def KeepB (p : Nat) (H H' : AH) : Prop := ∀ (i : Nat) (m : MO), i ≠ p → H[i]? = some m → H'[i]? = some m
theorem Keep.but {H H' : AH} (h : Keep H H') (p : Nat) : KeepB p H H' := fun i m _ e => h i m e
theorem KeepB.refl (p : Nat) (H : AH) : KeepB p H H := fun _ _ _ e => e
theorem KeepB.trans {p : Nat} {A B C : AH} (h : KeepB p A B) (g : KeepB p B C) : KeepB p A C := fun i m n e => g i m n (h i m n e)
theorem KeepB.of_set (p : Nat) (H : AH) (m : MO) : KeepB p H (H.set p m) := fun i o n e => by
  rw [List.getElem?_set_ne (fun h => n h.symm)]; exact e
theorem len_list {H : AH} {j : Nat} {l : List V} (h : H[j]? = some (.list l)) : fnV .len (.ref j) H = some (.int l.length, H) := obn_e (f := fun l : List V => some (V.int (l.length : Nat), H)) (lst_is h)
theorem store_list' {H : AH} {j k : Nat} {l : List V} {v : V} (h : H[j]? = some (.list l)) (hk : k < l.length) : storeV (.ref j) (.int k) v H = some (H.set j (.list (l.set k v))) := by
  show (match lst H j with | some l => gua (decide ((0 : Int) ≤ (k : Int) ∧ (k : Int).toNat < l.length)) (some (H.set j (.list (l.set (k : Int).toNat v)))) | none => _) = _
  rw [lst_is h]
  exact gua_e ⟨Int.natCast_nonneg k, hk⟩
theorem sub_tup {H : AH} {l : List V} {k : Nat} {v : V} (g : l[k]? = some v) : subV (.tup l) (.int k) H = some v := (gua_e (Int.natCast_nonneg k)).trans g
theorem mod_int {x y : Int} {H : AH} (h : y ≠ 0) : binV .Mod (.int x) (.int y) H = some (.int (x.fmod y), H) := gua_e h
theorem mul_int {x y : Int} {H : AH} (h : small x = true) : binV .Mult (.int x) (.int y) H = some (.int (x * y), H) := by
  show gua (small x) (some (V.int (x * y), H)) = _
  rw [h]; rfl
theorem div_int {x y : Int} {H : AH} (h : y ≠ 0 ∧ y.natAbs < 1000000000) : binV .FloorDiv (.int x) (.int y) H = some (.int (x.fdiv y), H) := gua_e h
/-! draws -/
structure Pool (H : AH) (p q : Nat) (ns : List Int) (spot : Nat) : Prop where
  box : H[p]? = some (.list [.ref q, .int spot])
  src : H[q]? = some (.list (ns.map .int))
  ne : p ≠ q
noncomputable abbrev big : Nat := 1000000
theorem fmod_nat (x : Int) {m : Nat} (h : 0 < m) : ∃ k : Nat, k < m ∧ x.fmod m = k := by
  have h1 : 0 ≤ x.fmod m := by rw [Int.fmod_eq_emod_of_nonneg _ (by omega)]; exact Int.emod_nonneg _ (by omega)
  have h2 : x.fmod m < m := by rw [Int.fmod_eq_emod_of_nonneg _ (by omega)]; exact Int.emod_lt_of_pos _ (by omega)
  obtain ⟨k, hk⟩ := Int.eq_ofNat_of_zero_le h1
  exact ⟨k, by omega, hk⟩
section
variable {p q : Nat} {ns : List Int}
theorem draw_val (n : Nat) {spot : Nat} {H : AH} (m : Nat) (hm : 0 < m) (hs : spot ≤ big) (hP : Pool H p q ns spot) :
    ∃ (x : Nat) (H' : AH), x < m ∧ callN glo tab02 (n + 1) 16 [.ref p, .int m] H = some (.int x, H') ∧ KeepB p H H' ∧ Pool H' p q ns (spot + 1) := by
  obtain ⟨hp, hq, hpq⟩ := hP
  let H1 : AH := H.set p (.list [.ref q, .int (spot + 1)])
  have k1 : KeepB p H H1 := KeepB.of_set p H _
  have hp' : H1[p]? = some (.list [.ref q, .int (spot + 1)]) := List.getElem?_set_self (some_lt hp)
  have hq' : H1[q]? = some (.list (ns.map .int)) := k1 _ _ (fun h => hpq h.symm) hq
  let ρ : Loc := [some (.ref p), some (.int m), some (.int spot), none, none]
  have s0 : ev glo (callN glo tab02 n) (.sub (.var 0) (.c (.int 0))) ρ H1 = some (.ref q, H1) := dv_sub (x := .ref p) (y := .int (0 : Nat)) rfl rfl (sub_list hp' rfl)
  have s1 : ev glo (callN glo tab02 n) (.cmp .Lt (.var 2) (.fn .len (.sub (.var 0) (.c (.int 0))))) ρ H1 = some (.bool (decide ((spot : Int) < ns.length)), H1) :=
    dv_cmp (x := .int spot) (y := .int ns.length) rfl (dv_fn s0 ((len_list hq').trans (by rw [List.length_map]))) rfl
  have key : ∃ x : Nat, x < m ∧ callN glo tab02 (n + 1) 16 [.ref p, .int m] H = some (.int x, H1) := by
    have go : ∀ {x : Int}, exs glo (callN glo tab02 n) (.cons (.ite (.cmp .Lt (.var 2) (.fn .len (.sub (.var 0) (.c (.int 0))))) (.cons (.ret (.bin .Mod (.fn .abs (.sub (.sub (.var 0) (.c (.int 0))) (.var 2))) (.var 1))) .nil) .nil)
      (.cons (.ret (.bin .Mod (.bin .Add (.bin .Add (.bin .Mult (.c (.int 7)) (.var 2)) (.bin .FloorDiv (.bin .Mult (.var 2) (.var 2)) (.c (.int 5)))) (.c (.int 3))) (.var 1))) .nil)) ρ H1 = some (.ret (.int (x.fmod m)), ρ, H1) → ∃ x : Nat, x < m ∧ callN glo tab02 (n + 1) 16 [.ref p, .int m] H = some (.int x, H1) := fun {x} h => by
      obtain ⟨k, hk, e⟩ := fmod_nat x hm
      rw [e] at h
      exact ⟨k, hk, d_call (ρ := [some (.ref p), some (.int m), none, none, none]) (ρ' := ρ) rfl rfl rfl (dxs (ρ' := ρ) (H1 := H) (dx_asg (dv_sub (x := .ref p) (y := .int (1 : Nat)) rfl rfl (sub_list hp rfl)) rfl) (dxs (ρ' := ρ) (H1 := H1) (dx_asub (x := .ref p) (y := .int (1 : Nat)) (v := .int (spot + 1)) rfl rfl rfl (store_list' hp (show 1 < 2 by decide))) h))⟩
    have hm0 : (m : Int) ≠ 0 := by omega
    by_cases hs' : spot < ns.length
    · have hx : ns[spot]? = some ns[spot] := List.getElem?_eq_getElem hs'
      rw [show decide ((spot : Int) < ns.length) = true from decide_eq_true (by omega)] at s1
      exact go (dxs_ite_ret s1 (dxs_ret (dv_bin (x := .int (if ns[spot] < 0 then -ns[spot] else ns[spot])) (y := .int m) (dv_fn (dv_sub (x := .ref q) (y := .int spot) s0 rfl (sub_list hq' (by rw [List.getElem?_map, hx]; rfl))) rfl) rfl (mod_int hm0))))
    · rw [show decide ((spot : Int) < ns.length) = false from decide_eq_false (by omega)] at s1
      have hsm : small (spot : Int) = true := decide_eq_true (by rw [Int.natAbs_natCast]; exact Nat.lt_of_le_of_lt hs (by decide))
      exact go (dxs (dx_ite false s1 rfl) (dxs_ret (dv_bin (y := .int m) (dv_bin (y := .int 3) (dv_bin (x := .int (7 * (spot : Int))) (dv_bin rfl rfl (mul_int rfl)) (dv_bin (x := .int ((spot : Int) * spot)) (y := .int 5) (dv_bin rfl rfl (mul_int hsm)) rfl (div_int (by decide))) rfl) rfl rfl) rfl (mod_int hm0))))
  obtain ⟨x, hx, e⟩ := key
  exact ⟨x, H1, hx, e, k1, hp', hq', hpq⟩
/-- a draw as the body asks for it -/
theorem ev_draw (n : Nat) {ρ : Loc} (h0 : ρ[0]? = some (some (.ref p))) (n0 : Nat) {spot : Nat} {H : AH} (hn : 0 < n0) (hs : spot ≤ big) (hP : Pool H p q ns spot) :
    ∃ (x : Nat) (H' : AH), x < n0 ∧ ev glo (callN glo tab02 (n + 1)) (.call 16 (.cons (.var 0) (.cons (.c (.int n0)) .nil))) ρ H = some (.int x, H') ∧ KeepB p H H' ∧ Pool H' p q ns (spot + 1) := by
  obtain ⟨x, H', hx, e, k, P'⟩ := draw_val n n0 hn hs hP
  exact ⟨x, H', hx, dv_call (dvs_cons (dv_var h0) (dvs_cons rfl dvs_nil)) e, k, P'⟩
theorem Pool.keep {H H' : AH} {spot : Nat} (P : Pool H p q ns spot) (k : Keep H H') : Pool H' p q ns spot := ⟨k _ _ P.box, k _ _ P.src, P.ne⟩
theorem ext_list {G : GTab} {F : Calls} {ρ : Loc} {H : AH} {i j : Nat} {l vs : List V} {es : PEs} (hi : ρ[i]? = some (some (.ref j))) (hj : H[j]? = some (.list l)) (he : evs G F es ρ H = some (vs, H)) (hl : l.length + vs.length ≤ 1000) :
    ∃ H' j', ex G F (.asg (.one i) (.bin .Add (.var i) (.list es))) ρ H = some (.next, ρ.set i (some (.ref j')), H') ∧ Keep H H' ∧ H'[j']? = some (.list (l ++ vs)) ∧ H.length ≤ j' :=
  ⟨H ++ [.list vs] ++ [.list (l ++ vs)], (H ++ [MO.list vs]).length, dx_asg (dv_bin (op := .Add) (x := .ref j) (y := .ref H.length) (dv_var hi) (dv_list he) (add_lists ((Keep.app H _) _ _ hj) (at_len _ _) (line_of hl))) (gua_e (List.getElem?_eq_some_iff.mp hi).1),
    (Keep.app H _).trans (Keep.app _ _), at_len _ _, by rw [List.length_append]; exact Nat.le_add_right _ _⟩
theorem app_list {H : AH} {j : Nat} {l : List V} {v : V} (h : H[j]? = some (.list l)) (hl : l.length + 1 ≤ lineN) : methV .append (.ref j) [v] H = some (.none, H.set j (.list (l ++ [v]))) :=
  (obn_e (f := fun l : List V => gua (decide (l.length + 1 ≤ lineN)) (some (V.none, H.set j (.list (l ++ [v]))))) (lst_is h)).trans (gua_e hl)
theorem rec_list {H : AH} {j : Nat} {l : List V} (h : H[j]? = some (.list l)) : recOk .append (.ref j) H = some () := obn_e (f := fun _ => some ()) (lst_is h)
/-- the twelve conditions that are drawn -/
noncomputable def cns : List Cn := [.com false, .com true, .has 7, .first 8, .pfx, .cmp .med .ge 2, .cmp .lp .eq 7, .cmp .tag .ne 5, .cmp .len .lt 3, .cmp .nh .eq 9, .peer 3, .cmp .org .gt 0]
theorem cns_dep : ∀ c ∈ cns, c.dep ≤ 1 := fun c h => of_decide_eq_true (List.all_eq_true.mp (show cns.all (fun c => decide (c.dep ≤ 1)) = true from rfl) c h)
theorem cns_raw : ∀ c ∈ cns, c.raw = true := List.all_eq_true.mp (show cns.all Cn.raw = true from rfl)
theorem enc_at {α : Type} {l : List α} {f : α → V} {x n : Nat} (hx : x < n) (hn : l.length = n) : ∃ c ∈ l, (l.map f)[x]? = some (f c) :=
  ⟨l[x]'(by omega), List.getElem_mem _, by rw [List.getElem?_map, List.getElem?_eq_getElem (by omega)]; rfl⟩
/-- what a drawn condition is -/
structure GenC (H : AH) (p q : Nat) (ns : List Int) (spot k d : Nat) (o : Option (V × AH)) (c : Cn) (H' : AH) (spot' : Nat) : Prop where
  eq : o = some (c.enc, H')
  keep : KeepB p H H'
  pool : Pool H' p q ns spot'
  le : spot' ≤ spot + k
  dep : c.dep ≤ d
  raw : c.raw = true
theorem plain_val (n : Nat) {spot : Nat} {H : AH} (hs : spot ≤ big) (hP : Pool H p q ns spot) : ∃ c H', GenC H p q ns spot 1 1 (callN glo tab02 (n + 2) 17 [.ref p] H) c H' (spot + 1) := by
  have s1 : ex glo (callN glo tab02 (n + 1)) (.asg (.one 1) (.list (.cons (.tup (.cons (.c (.str 2240444390150436122467)) (.cons (.c (.int 1)) .nil))) (.cons (.tup (.cons (.c (.str 2240444390150436122467)) (.cons (.c (.int 2)) .nil))) (.cons (.tup (.cons (.c (.str 7561576)) (.cons (.c (.int 7)) .nil))) (.cons (.tup (.cons (.c (.str 500153084262)) (.cons (.c (.int 8)) .nil))) (.cons (.tup (.cons (.c (.str 132394084823664)) (.cons (.tup (.cons (.bin .Mult (.c (.int 10)) (.bin .Pow (.c (.int 2)) (.c (.int 24)))) (.cons (.c (.int 8)) .nil))) (.cons (.c (.int 16)) (.cons (.c (.int 32)) .nil))))) .nil)))))))
      [some (.ref p), none, none] H = some (.next, [some (.ref p), some (.ref H.length), none], H ++ [.list ((cns.take 5).map Cn.enc)]) := dx_asg (dv_list rfl) rfl
  obtain ⟨H2, j2, s2, k2, g2, l2⟩ := ext_list (G := glo) (F := callN glo tab02 (n + 1)) (ρ := [some (.ref p), some (.ref H.length), none]) (i := 1) (vs := ((cns.drop 5).take 3).map Cn.enc) (es := .cons (.tup (.cons (.c (.str 28554735471390563)) (.cons (.c (.str 6579565)) (.cons (.c (.str 15678)) (.cons (.c (.int 2)) .nil))))) (.cons (.tup (.cons (.c (.str 28554735471390563)) (.cons (.c (.str 483552748545009705512812)) (.cons (.c (.str 61)) (.cons (.c (.int 7)) .nil))))) (.cons (.tup (.cons (.c (.str 28554735471390563)) (.cons (.c (.str 6775156)) (.cons (.c (.str 15649)) (.cons (.c (.int 5)) .nil))))) .nil))) rfl (at_len H (.list ((cns.take 5).map Cn.enc))) rfl (by decide)
  obtain ⟨H3, j3, s3, k3, g3, l3⟩ := ext_list (G := glo) (F := callN glo tab02 (n + 1)) (ρ := [some (.ref p), some (.ref j2), none]) (i := 1) (vs := ((cns.drop 8).take 3).map Cn.enc) (es := .cons (.tup (.cons (.c (.str 28554735471390563)) (.cons (.c (.str 1926849177878679876449)) (.cons (.c (.str 60)) (.cons (.c (.int 3)) .nil))))) (.cons (.tup (.cons (.c (.str 28554735471390563)) (.cons (.c (.str 8101808799099676014)) (.cons (.c (.str 61)) (.cons (.c (.int 9)) .nil))))) (.cons (.tup (.cons (.c (.str 28554735471390563)) (.cons (.c (.str 32476470142395760)) (.cons (.c (.str 61)) (.cons (.c (.int 3)) .nil))))) .nil))) rfl g2 rfl (by decide)
  have k0 : Keep H H2 := (Keep.app H _).trans k2
  have hlen : H.length ≤ j3 := Nat.le_trans (Nat.le_trans (by rw [List.length_append]; exact Nat.le_add_right _ _) l2) (Nat.le_trans (Nat.le_of_lt (some_lt g2)) l3)
  have k4 : Keep H (H3.set j3 (.list (cns.map Cn.enc))) := Keep.set (k0.trans k3) hlen _
  have s4 : ex glo (callN glo tab02 (n + 1)) (.expr (.meth .append (.var 1) (.cons (.tup (.cons (.c (.str 28554735471390563)) (.cons (.c (.str 121398985585263)) (.cons (.c (.str 62)) (.cons (.c (.int 0)) .nil))))) .nil))) [some (.ref p), some (.ref j3), none] H3 = some (.next, [some (.ref p), some (.ref j3), none], H3.set j3 (.list (cns.map Cn.enc))) :=
    dx_expr (dv_meth (x := .ref j3) rfl (rec_list g3) (dvs1 rfl) (app_list g3 (line_of (by decide))))
  obtain ⟨x, H5, hx, e5, k5, P5⟩ := ev_draw n (ρ := [some (.ref p), some (.ref j3), none]) rfl 12 (by decide) hs (hP.keep k4)
  have g5 : H5[j3]? = some (.list (cns.map Cn.enc)) := k5 _ _ (fun h => by have := some_lt hP.box; omega) (List.getElem?_set_self (some_lt g3))
  obtain ⟨c, hc, hcx⟩ := enc_at (f := Cn.enc) hx (show cns.length = 12 from rfl)
  have e1 : exs glo (callN glo tab02 (n + 1)) p_17.body [some (.ref p), none, none] H = some (.ret c.enc, [some (.ref p), some (.ref j3), none], H5) :=
    dxs s1 (dxs s2 (dxs s3 (dxs s4 (dxs_ret (dv_sub (x := .ref j3) (y := .int x) rfl e5 (sub_list g5 hcx))))))
  exact ⟨c, H5, d_call rfl rfl rfl e1, (k4.but p).trans k5, P5, Nat.le_refl _, cns_dep c hc, cns_raw c hc⟩
theorem asked_val (n : Nat) {spot : Nat} {H : AH} (hs : spot + 10 ≤ big) (hP : Pool H p q ns spot) : ∃ c H' spot', GenC H p q ns spot 3 2 (callN glo tab02 (n + 3) 18 [.ref p] H) c H' spot' := by
  obtain ⟨x, H1, hx, e1, k1, P1⟩ := ev_draw (n + 1) (ρ := [some (.ref p), none, none, none, none]) rfl 6 (by decide) (by omega) hP
  obtain ⟨a, H2, g2⟩ := plain_val n (by omega) P1
  have d2 := g2.dep
  have first : ∀ {r : PSs} {t : Option (Fl × Loc × AH)}, exs glo (callN glo tab02 (n + 2)) r [some (.ref p), some (.int x), some a.enc, none, none] H2 = t →
      exs glo (callN glo tab02 (n + 2)) (.cons (.asg (.one 1) (.call 16 (.cons (.var 0) (.cons (.c (.int 6)) .nil)))) (.cons (.asg (.one 2) (.call 17 (.cons (.var 0) .nil))) r)) [some (.ref p), none, none, none, none] H = t := fun h => dxs (dx_asg e1 rfl) (dxs (dx_asg (dv_call (dvs1 rfl) g2.eq) rfl) h)
  have fin : ∀ {c : Cn} {H' : AH} {spot' : Nat} (r : PSs), p_18.body = .cons (.asg (.one 1) (.call 16 (.cons (.var 0) (.cons (.c (.int 6)) .nil)))) (.cons (.asg (.one 2) (.call 17 (.cons (.var 0) .nil))) r) → exs glo (callN glo tab02 (n + 2)) r [some (.ref p), some (.int x), some a.enc, none, none] H2 = some (.ret c.enc, [some (.ref p), some (.int x), some a.enc, none, none], H') →
      KeepB p H2 H' → Pool H' p q ns spot' → spot' ≤ spot + 3 → c.dep ≤ 2 → c.raw = true → ∃ c H' spot', GenC H p q ns spot 3 2 (callN glo tab02 (n + 3) 18 [.ref p] H) c H' spot' := fun {c H' spot'} r hr e k P l d w => by
    have e1 : exs glo (callN glo tab02 (n + 2)) p_18.body [some (.ref p), none, none, none, none] H = some (.ret c.enc, [some (.ref p), some (.int x), some a.enc, none, none], H') := hr ▸ first e
    exact ⟨c, H', spot', d_call rfl rfl rfl e1, k1.trans (g2.keep.trans k), P, l, d, w⟩
  by_cases h4 : x = 4
  · subst h4
    obtain ⟨b, H3, g3⟩ := plain_val n (by omega) g2.pool
    have d3 := g3.dep
    exact fin (c := .or a b) _ rfl (hit rfl (dv_tup (dvs3 rfl rfl (dv_call (dvs1 rfl) g3.eq)))) g3.keep g3.pool (by omega) (Nat.succ_le_succ (Nat.max_le.mpr ⟨d2, d3⟩)) (show (a.raw && b.raw) = true by rw [g2.raw, g3.raw]; rfl)
  have t4 : ((x : Int) == 4) = false := beq_eq_false_iff_ne.mpr (by omega)
  by_cases h5 : x = 5
  · subst h5
    exact fin (c := .not a) _ rfl (sk rfl (dxs_ret (dv_ite rfl rfl))) (KeepB.refl _ _) g2.pool (by omega) (Nat.succ_le_succ d2) g2.raw
  have t5 : ((x : Int) == 5) = false := beq_eq_false_iff_ne.mpr (by omega)
  exact fin (c := a) _ rfl (sk (dv_cmp (op := .Eq) (x := .int x) (y := .int 4) rfl rfl (congrArg some t4)) (dxs_ret (dv_ite' (dv_cmp (op := .Eq) (x := .int x) (y := .int 5) rfl rfl (congrArg some t5)) rfl))) (KeepB.refl _ _) g2.pool (by omega) (by omega) g2.raw
end
end Mine.Pl
/-! R6 -/
namespace Mine.Pl
/-- the thirteen deeds that are drawn -/
noncomputable def des : List De := [.set .med 3, .set .med 1, .set .lp 7, .set .tag 5, .set .origin 1, .self, .set .nh 4, .com false true, .com true true, .com false false, .clear, .prep 7 true, .prep 8 false]
noncomputable abbrev encD (d : De) : V := d.dd.enc
noncomputable abbrev dl1 : PEs := (.cons (.tup (.cons (.c (.str 7628147)) (.cons (.c (.str 6579565)) (.cons (.c (.int 3)) .nil)))) (.cons (.tup (.cons (.c (.str 7628147)) (.cons (.c (.str 6579565)) (.cons (.c (.int 1)) .nil)))) (.cons (.tup (.cons (.c (.str 7628147)) (.cons (.c (.str 483552748545009705512812)) (.cons (.c (.int 7)) .nil)))) (.cons (.tup (.cons (.c (.str 7628147)) (.cons (.c (.str 6775156)) (.cons (.c (.int 5)) .nil)))) (.cons (.tup (.cons (.c (.str 7628147)) (.cons (.c (.str 121398985585263)) (.cons (.c (.int 1)) .nil)))) .nil)))))
noncomputable abbrev dl2 : PEs := (.cons (.tup (.cons (.c (.str 7628147)) (.cons (.c (.str 8101808799099676014)) (.cons (.c (.str 1718379891)) .nil)))) (.cons (.tup (.cons (.c (.str 7628147)) (.cons (.c (.str 8101808799099676014)) (.cons (.c (.int 4)) .nil)))) (.cons (.tup (.cons (.c (.str 6579297)) (.cons (.c (.int 1)) .nil))) (.cons (.tup (.cons (.c (.str 6579297)) (.cons (.c (.int 2)) .nil))) (.cons (.tup (.cons (.c (.str 1886351972)) (.cons (.c (.int 1)) .nil))) .nil)))))
noncomputable abbrev dl3 : PEs := (.cons (.tup (.cons (.c (.str 491260308579)) .nil)) (.cons (.tup (.cons (.c (.str 28268879627514480)) (.cons (.c (.int 7)) (.cons (.c (.int 2)) .nil)))) (.cons (.tup (.cons (.c (.str 28268879627514480)) (.cons (.c (.int 8)) (.cons (.c (.int 1)) .nil)))) .nil)))
section
variable {p q : Nat} {ns : List Int}
structure GenS (H : AH) (p q : Nat) (ns : List Int) (spot k d : Nat) (o : Option (V × AH)) (x : St) (H' : AH) (spot' : Nat) : Prop where
  eq : o = some (x.enc, H')
  keep : KeepB p H H'
  pool : Pool H' p q ns spot'
  le : spot' ≤ spot + k
  wt : x.wt ≤ d
  raw : x.raw = true
noncomputable abbrev loc19 (p : Nat) (d x : Int) (x3 x4 x5 : Option V) : Loc := [some (.ref p), some (.int d), some (.int x), x3, x4, x5, none, none, none]
noncomputable abbrev rest19 : PSs := .cons (.ite (.cmp .Eq (.var 2) (.c (.int 5))) (.cons (.ret (.tup (.cons (.sub (.tup (.cons (.c (.str 128026086171489)) (.cons (.c (.str 127970252055922)) (.cons (.c (.str 1954047342)) .nil)))) (.call 16 (.cons (.var 0) (.cons (.c (.int 3)) .nil)))) .nil)))
    .nil) .nil)
    (.cons (.asg (.one 5) (.list dl1))
    (.cons (.asg (.one 5) (.bin .Add (.var 5) (.list dl2)))
    (.cons (.asg (.one 5) (.bin .Add (.var 5) (.list dl3)))
    (.cons (.ret (.sub (.var 5) (.call 16 (.cons (.var 0) (.cons (.c (.int 13)) .nil)))))
    .nil))))
theorem rest_val (n : Nat) (d : Int) (x : Nat) {spot : Nat} {H : AH} (hs : spot + 10 ≤ big) (hP : Pool H p q ns spot) :
    ∃ (y : St) (ρ' : Loc) (H' : AH), exs glo (callN glo tab02 (n + 1)) rest19 (loc19 p d x none none none) H = some (.ret y.enc, ρ', H') ∧ KeepB p H H' ∧ Pool H' p q ns (spot + 1) ∧ y.wt = 1 ∧ y.raw = true := by
  by_cases h5 : x = 5
  · subst h5
    obtain ⟨y, H1, hy, e1, k1, P1⟩ := ev_draw n (ρ := loc19 p d 5 none none none) rfl 3 (by decide) (by omega) hP
    have go : ∀ z : En, ([.str 128026086171489, .str 127970252055922, .str 1954047342] : List V)[y]? = some (.str z.word) → ∃ (y : St) (ρ' : Loc) (H' : AH), exs glo (callN glo tab02 (n + 1)) rest19 (loc19 p d (5 : Nat) none none none) H = some (.ret y.enc, ρ', H') ∧ KeepB p H H' ∧ Pool H' p q ns (spot + 1) ∧ y.wt = 1 ∧ y.raw = true := fun z h =>
      ⟨.fin z, loc19 p d 5 none none none, H1, hit rfl (dv_tup (dvs1 (dv_sub (y := .int y) rfl e1 (sub_tup h)))), k1, P1, rfl, rfl⟩
    rcases (by omega : y = 0 ∨ y = 1 ∨ y = 2) with rfl | rfl | rfl
    · exact go .acc rfl
    · exact go .rej rfl
    · exact go .nxt rfl
  have t5 : ((x : Int) == 5) = false := beq_eq_false_iff_ne.mpr (by omega)
  have s1 : ex glo (callN glo tab02 (n + 1)) (.asg (.one 5) (.list dl1)) (loc19 p d x none none none) H = some (.next, loc19 p d x none none (some (.ref H.length)), H ++ [.list ((des.take 5).map encD)]) := dx_asg (dv_list rfl) rfl
  obtain ⟨H2, j2, s2, k2, g2, l2⟩ := ext_list (G := glo) (F := callN glo tab02 (n + 1)) (ρ := loc19 p d x none none (some (.ref H.length))) (i := 5) (vs := ((des.drop 5).take 5).map encD) (es := dl2) rfl (at_len H (.list ((des.take 5).map encD))) rfl (by decide)
  obtain ⟨H3, j3, s3, k3, g3, l3⟩ := ext_list (G := glo) (F := callN glo tab02 (n + 1)) (ρ := loc19 p d x none none (some (.ref j2))) (i := 5) (vs := (des.drop 10).map encD) (es := dl3) rfl g2 rfl (by decide)
  have k0 : Keep H H3 := ((Keep.app H _).trans k2).trans k3
  have hlen : H.length ≤ j3 := Nat.le_trans (Nat.le_trans (by rw [List.length_append]; exact Nat.le_add_right _ _) l2) (Nat.le_trans (Nat.le_of_lt (some_lt g2)) l3)
  obtain ⟨y, H5, hy, e5, k5, P5⟩ := ev_draw n (ρ := loc19 p d x none none (some (.ref j3))) rfl 13 (by decide) (by omega) (hP.keep k0)
  have g5 : H5[j3]? = some (.list (des.map encD)) := k5 _ _ (fun h => by have := some_lt hP.box; omega) g3
  obtain ⟨c, hc, hcx⟩ := enc_at (f := encD) hy (show des.length = 13 from rfl)
  exact ⟨.deed c, loc19 p d x none none (some (.ref j3)), H5, sk (dv_cmp (op := .Eq) (x := .int x) (y := .int 5) rfl rfl (congrArg some t5)) (dxs s1 (dxs s2 (dxs s3 (dxs_ret (dv_sub (x := .ref j3) (y := .int y) rfl e5 (sub_list g5 hcx)))))), (k0.but p).trans k5, P5, rfl, rfl⟩
noncomputable def cost : Nat → Nat
  | 0 => 4
  | d + 1 => 5 + 2 * cost d
theorem sub_one (d : Nat) (H : AH) : binV .Sub (.int ((d + 1 : Nat) : Int)) (.int 1) H = some (.int d, H) := congrArg (fun i => some (V.int i, H)) (show ((d + 1 : Nat) : Int) - 1 = d by omega)
noncomputable abbrev test19 : PE := .and (.cmp .Lt (.var 2) (.c (.int 3))) (.cmp .Gt (.var 1) (.c (.int 0)))
theorem st_val (d : Nat) : ∀ (n : Nat) {spot : Nat} {H : AH}, spot + cost d + 30 ≤ big → Pool H p q ns spot → ∃ x H' spot', GenS H p q ns spot (cost d) (d + 2) (callN glo tab02 (n + d + 4) 19 [.ref p, .int d] H) x H' spot' := by
  -- not an if
  have plain : ∀ (d n : Nat) {spot : Nat} {H : AH} (x : Nat) (H1 : AH), spot + 20 ≤ big → KeepB p H H1 → Pool H1 p q ns (spot + 1) → (decide ((x : Int) < 3) && decide (0 < (d : Int))) = false →
      (∀ {r : PSs} {t : Option (Fl × Loc × AH)}, exs glo (callN glo tab02 (n + 1)) r (loc19 p d x none none none) H1 = t → exs glo (callN glo tab02 (n + 1)) (.cons (.asg (.one 2) (.call 16 (.cons (.var 0) (.cons (.c (.int 6)) .nil)))) r) [some (.ref p), some (.int d), none, none, none, none, none, none, none] H = t) →
      ∃ x H' spot', GenS H p q ns spot 4 1 (callN glo tab02 (n + 2) 19 [.ref p, .int d] H) x H' spot' := fun d n {spot H} x H1 hs k1 P1 ht first => by
    obtain ⟨y, ρ', H2, e, k2, P2, w2, r2⟩ := rest_val n (d : Int) x (by omega) P1
    have h0 : ev glo (callN glo tab02 (n + 1)) test19 (loc19 p d x none none none) H1 = some (.bool false, H1) := by
      rw [← ht]
      exact dv_andB (dv_cmp (op := .Lt) (x := .int x) (y := .int 3) rfl rfl rfl) (dv_cmp (op := .Gt) (x := .int d) (y := .int 0) rfl rfl rfl)
    have e1 : exs glo (callN glo tab02 (n + 1)) p_19.body [some (.ref p), some (.int d), none, none, none, none, none, none, none] H = some (.ret y.enc, ρ', H2) := first (sk h0 e)
    exact ⟨y, H2, spot + 1 + 1, d_call rfl rfl rfl e1, k1.trans k2, P2, by omega, Nat.le_of_eq w2, r2⟩
  have call : ∀ (d n : Nat) {spot : Nat} {H : AH}, spot + 20 ≤ big → Pool H p q ns spot → ∃ (x : Nat) (H1 : AH), x < 6 ∧ KeepB p H H1 ∧ Pool H1 p q ns (spot + 1) ∧
      (∀ {r : PSs} {t : Option (Fl × Loc × AH)}, exs glo (callN glo tab02 (n + 1)) r (loc19 p d x none none none) H1 = t → exs glo (callN glo tab02 (n + 1)) (.cons (.asg (.one 2) (.call 16 (.cons (.var 0) (.cons (.c (.int 6)) .nil)))) r) [some (.ref p), some (.int d), none, none, none, none, none, none, none] H = t) := fun d n {spot H} hs hP => by
    obtain ⟨x, H1, hx, e1, k1, P1⟩ := ev_draw n (ρ := [some (.ref p), some (.int d), none, none, none, none, none, none, none]) rfl 6 (by decide) (by omega) hP
    exact ⟨x, H1, hx, k1, P1, fun h => dxs (dx_asg e1 rfl) h⟩
  induction d with
  | zero =>
    intro n spot H hs hP
    have hs : spot + 4 + 30 ≤ big := hs
    obtain ⟨x, H1, hx, k1, P1, first⟩ := call 0 (n + 2) (by omega) hP
    obtain ⟨y, H2, s2, g⟩ := plain 0 (n + 2) x H1 (by omega) k1 P1 (Bool.and_false _) first
    exact ⟨y, H2, s2, g.eq, g.keep, g.pool, g.le, Nat.le_trans g.wt (by decide), g.raw⟩
  | succ d ih =>
    intro n spot H hs hP
    have hs : spot + (5 + 2 * cost d) + 30 ≤ big := hs
    obtain ⟨x, H1, hx, k1, P1, first⟩ := call (d + 1) (n + d + 3) (by omega) hP
    by_cases h3 : x < 3
    · obtain ⟨c, H2, s2, g2⟩ := asked_val (n + d + 1) (by omega) P1
      have l2 := g2.le
      obtain ⟨y, H3, s3, g3⟩ := ih n (by omega) g2.pool
      have l3 := g3.le
      have h0 : ev glo (callN glo tab02 (n + d + 4)) test19 (loc19 p (d + 1 : Nat) x none none none) H1 = some (.bool true, H1) :=
        dv_and (dv_cmp (op := .Lt) (x := .int x) (y := .int 3) rfl rfl (congrArg some (decide_eq_true (by omega)))) (dv_cmp (op := .Gt) (x := .int (d + 1 : Nat)) (y := .int 0) rfl rfl (congrArg some (decide_eq_true (by omega))))
      have ec : ∀ {o : V} {ρ : Loc} {Ha Hb : AH}, ρ[0]? = some (some (.ref p)) → ρ[1]? = some (some (.int (d + 1 : Nat))) → callN glo tab02 (n + d + 4) 19 [.ref p, .int d] Ha = some (o, Hb) → ev glo (callN glo tab02 (n + d + 4)) (.call 19 (.cons (.var 0) (.cons (.bin .Sub (.var 1) (.c (.int 1))) .nil))) ρ Ha = some (o, Hb) := fun h0 h1 e =>
        dv_call (dvs2 (dv_var h0) (dv_bin (dv_var h1) rfl (sub_one d _))) e
      have e3 : ex glo (callN glo tab02 (n + d + 4)) (.asg (.many [3, 4]) (.tup (.cons (.call 18 (.cons (.var 0) .nil)) (.cons (.tup (.cons (.call 19 (.cons (.var 0) (.cons (.bin .Sub (.var 1) (.c (.int 1))) .nil))) .nil)) .nil)))) (loc19 p (d + 1 : Nat) x none none none) H1 = some (.next, loc19 p (d + 1 : Nat) x (some c.enc) (some (.tup [y.enc])) none, H3) :=
        dx_asg (v := .tup [c.enc, .tup [y.enc]]) (dv_tup (dvs2 (dv_call (dvs1 rfl) g2.eq) (dv_tup (dvs1 (ec rfl rfl g3.eq))))) rfl
      have fin : ∀ {z : List St} {H' : AH} {spot' : Nat}, ev glo (callN glo tab02 (n + d + 4)) (.ite (.cmp .Eq (.var 2) (.c (.int 1))) (.tup (.cons (.call 19 (.cons (.var 0) (.cons (.bin .Sub (.var 1) (.c (.int 1))) .nil))) .nil)) (.tup .nil)) (loc19 p (d + 1 : Nat) x (some c.enc) (some (.tup [y.enc])) none) H3 = some (.tup (encs z), H') → KeepB p H3 H' → Pool H' p q ns spot' → spot' ≤ s3 + cost d → wts z ≤ d + 2 → raws z = true →
          ∃ x H' spot', GenS H p q ns spot (cost (d + 1)) (d + 1 + 2) (callN glo tab02 (n + (d + 1) + 4) 19 [.ref p, .int (d + 1 : Nat)] H) x H' spot' := fun {z H' spot'} e4 k4 P4 l4 w4 r4 => by
        have e1 : exs glo (callN glo tab02 (n + d + 4)) p_19.body [some (.ref p), some (.int (d + 1 : Nat)), none, none, none, none, none, none, none] H = some (.ret (St.ite c [y] z).enc, loc19 p (d + 1 : Nat) x (some c.enc) (some (.tup [y.enc])) none, H') :=
          first (dxs_ite_ret h0 (dxs e3 (dxs_ret (dv_tup (dvs4 rfl rfl rfl e4)))))
        exact ⟨.ite c [y] z, H', spot', d_call rfl rfl rfl e1, k1.trans (g2.keep.trans (g3.keep.trans k4)), P4, show spot' ≤ spot + (5 + 2 * cost d) by omega,
          show max c.dep (max (y.wt + 0) (wts z)) + 1 ≤ d + 1 + 2 from Nat.succ_le_succ (Nat.max_le.mpr ⟨Nat.le_trans g2.dep (Nat.le_add_left 2 d), Nat.max_le.mpr ⟨g3.wt, w4⟩⟩), show (c.raw && ((y.raw && true) && raws z)) = true by rw [g2.raw, g3.raw, r4]; rfl⟩
      by_cases h1 : x = 1
      · subst h1
        obtain ⟨z, H4, s4, g4⟩ := ih n (by omega) g3.pool
        exact fin (z := [z]) (dv_ite rfl (dv_tup (dvs1 (ec rfl rfl g4.eq)))) g4.keep g4.pool g4.le g4.wt (show (z.raw && true) = true by rw [g4.raw]; rfl)
      · have t1 : ((x : Int) == 1) = false := beq_eq_false_iff_ne.mpr (by omega)
        exact fin (z := []) (dv_ite' (dv_cmp (op := .Eq) (x := .int x) (y := .int 1) rfl rfl (congrArg some t1)) rfl) (KeepB.refl _ _) g3.pool (Nat.le_add_right _ _) (Nat.zero_le _) rfl
    · obtain ⟨y, H2, s2, g⟩ := plain (d + 1) (n + d + 3) x H1 (by omega) k1 P1 (by rw [decide_eq_false (by omega : ¬ ((x : Int) < 3))]; rfl) first
      exact ⟨y, H2, s2, g.eq, g.keep, g.pool, Nat.le_trans g.le (by show spot + 4 ≤ spot + (5 + 2 * cost d); omega), Nat.le_trans g.wt (by omega), g.raw⟩
end
end Mine.Pl
/-! R7 -/
namespace Mine.Pl
section
variable {G : GTab} {F : Calls} {ρ : Loc} {H H1 : AH}
theorem dx_for_range {t : Tgt} {it : PE} {body : PSs} {n : Int} {r : Option (Fl × Loc × AH)} (h : ev G F it ρ H = some (.int n, H1)) (hr : -1000000 ≤ n ∧ n ≤ 1000000) (k : forI (frun G F t body) (rangeI n) ρ H1 = r) : ex G F (.for_ t .range it body) ρ H = r :=
  show bnd (ev G F it ρ H) (fun x H1 => fsrc (frun G F t body) .range x ρ H1) = _ from (bnd_e h).trans ((gua_e hr).trans k)
end
theorem cat_str {a b : Nat} {H : AH} (h : (decL a a).length + (decL b b).length ≤ lineN) : binV .Add (.str a) (.str b) H = some (.str (cat a b), H) := gua_e h
theorem KeepB.set {H H' : AH} {p : Nat} (h : KeepB p H H') {k : Nat} (hk : H.length ≤ k) (m : MO) : KeepB p H (H'.set k m) := fun i o n e => by
  rw [List.getElem?_set_ne (Nat.ne_of_gt (Nat.lt_of_lt_of_le (some_lt e) hk))]
  exact h i o n e
section
variable {p q : Nat} {ns : List Int}
theorem Pool.set {H : AH} {spot j : Nat} (P : Pool H p q ns spot) (h1 : j ≠ p) (h2 : j ≠ q) (m : MO) : Pool (H.set j m) p q ns spot :=
  ⟨by rw [List.getElem?_set_ne h1]; exact P.box, by rw [List.getElem?_set_ne h2]; exact P.src, P.ne⟩
theorem Pool.lt {H : AH} {spot : Nat} (P : Pool H p q ns spot) {j : Nat} (h : H.length ≤ j) : j ≠ p ∧ j ≠ q := ⟨fun e => by have := some_lt P.box; omega, fun e => by have := some_lt P.src; omega⟩
/-! a drawn policy -/
noncomputable abbrev loc20 (p j : Nat) (x2 x3 : Option V) : Loc := [some (.ref p), some (.ref j), x2, x3, none, none, none, none, none]
noncomputable abbrev nameE : PE := .bin .Add (.c (.str 116)) (.fn .str (.var 2))
noncomputable abbrev body20 : PSs := .cons (.asg (.one 3) (.call 19 (.cons (.var 0) (.cons (.c (.int 1)) .nil))))
    (.cons (.expr (.meth .append (.var 1) (.cons (.tup (.cons nameE (.cons (.tup (.cons (.var 3) (.cons (.call 19 (.cons (.var 0) (.cons (.c (.int 2)) .nil))) .nil))) .nil))) .nil)))
    .nil)
/-- the rows drawn so far -/
structure Rows (H0 H : AH) (p q : Nat) (ns : List Int) (j spot : Nat) (ts : List Term) : Prop where
  keep : KeepB p H0 H
  pool : Pool H p q ns spot
  at_ : H[j]? = some (.list (ts.map termV))
  far : H0.length ≤ j
  jp : j ≠ p
  jq : j ≠ q
  len : ts.length ≤ 2
  wt : ∀ t ∈ ts, wts t.2 ≤ 7 ∧ raws t.2 = true
theorem turn20 (n : Nat) {H0 H : AH} {j spot : Nat} {ts : List Term} {a : Int} {nm : Nat} (hn : ∀ (F : Calls) (x3 : Option V) (H : AH), ev glo F nameE (loc20 p j (some (.int a)) x3) H = some (.str nm, H)) (x2 x3 : Option V) (hs : spot + 100 ≤ big) (h1 : ts.length ≤ 1) (R : Rows H0 H p q ns j spot ts) :
    ∃ t H' spot' y3, frun glo (callN glo tab02 (n + 6)) (.one 2) body20 (.int a) (loc20 p j x2 x3) H = some (.next, loc20 p j (some (.int a)) y3, H') ∧ Rows H0 H' p q ns j spot' (ts ++ [t]) ∧ spot' ≤ spot + 44 := by
  obtain ⟨x, H1, s1, g1⟩ := st_val (p := p) (q := q) (ns := ns) 1 (n + 1) (by have : cost 1 = 13 := rfl; omega) R.pool
  have l1 : s1 ≤ spot + 13 := g1.le
  obtain ⟨y, H2, s2, g2⟩ := st_val (p := p) (q := q) (ns := ns) 2 n (by have : cost 2 = 31 := rfl; omega) g1.pool
  have l2 : s2 ≤ s1 + 31 := g2.le
  have ha : H2[j]? = some (.list (ts.map termV)) := g2.keep _ _ R.jp (g1.keep _ _ R.jp R.at_)
  have w1 := g1.wt
  have w2 := g2.wt
  refine ⟨(nm, [x, y]), H2.set j (.list ((ts ++ [(nm, [x, y])]).map termV)), s2, some x.enc, ?_, ⟨KeepB.set (R.keep.trans (g1.keep.trans g2.keep)) R.far _, g2.pool.set R.jp R.jq _, List.getElem?_set_self (some_lt ha), R.far, R.jp, R.jq, by rw [List.length_append]; exact Nat.succ_le_succ h1, fun t ht => ?_⟩, by omega⟩
  · show exs glo (callN glo tab02 (n + 6)) body20 (loc20 p j (some (.int a)) x3) H = _
    have e2 : methV .append (.ref j) [termV (nm, [x, y])] H2 = some (.none, H2.set j (.list ((ts ++ [(nm, [x, y])]).map termV))) := by
      rw [List.map_append]
      exact app_list ha (line_of (by rw [List.length_map]; omega))
    exact dxs (dx_asg (dv_call (dvs2 rfl rfl) g1.eq) rfl) (dxs (dx_expr (dv_meth (x := .ref j) rfl (rec_list (g1.keep _ _ R.jp R.at_)) (dvs1 (dv_tup (dvs2 (hn _ _ _) (dv_tup (dvs2 rfl (dv_call (dvs2 rfl rfl) g2.eq)))))) e2)) dxs_nil)
  · rcases List.mem_append.mp ht with h | h
    · exact R.wt t h
    · rw [List.mem_singleton.mp h]
      exact ⟨show x.wt + (y.wt + 0) ≤ 7 by omega, show (x.raw && (y.raw && true)) = true by rw [g1.raw, g2.raw]; rfl⟩
structure GenP (H : AH) (p q : Nat) (ns : List Int) (spot : Nat) (o : Option (V × AH)) (ts : List Term) (fb : Bool) (H' : AH) (spot' : Nat) : Prop where
  eq : o = some (polV ts fb, H')
  keep : KeepB p H H'
  pool : Pool H' p q ns spot'
  le : spot' ≤ spot + 90
  len : ts.length ≤ 2
  wt : ∀ t ∈ ts, wts t.2 ≤ 7 ∧ raws t.2 = true
theorem pol_val (n : Nat) {spot : Nat} {H : AH} (hs : spot + 300 ≤ big) (hP : Pool H p q ns spot) : ∃ ts fb H' spot', GenP H p q ns spot (callN glo tab02 (n + 7) 20 [.ref p] H) ts fb H' spot' := by
  let H1 : AH := H ++ [.list []]
  have k1 : Keep H H1 := Keep.app _ _
  obtain ⟨x, H2, hx, e2, k2, P2⟩ := ev_draw (n + 5) (ρ := loc20 p H.length none none) rfl 2 (by decide) (by omega) (hP.keep k1)
  have hlt := hP.lt (Nat.le_refl _)
  have R0 : Rows H H2 p q ns H.length (spot + 1) [] := ⟨(k1.but p).trans k2, P2, k2 _ _ hlt.1 (at_len _ _), Nat.le_refl _, hlt.1, hlt.2, by decide, fun _ h => nomatch h⟩
  have n0 : ∀ (F : Calls) (x3 : Option V) (H' : AH), ev glo F nameE (loc20 p H.length (some (.int 0)) x3) H' = some (.str (cat 116 48), H') := fun F x3 H' => dv_bin (op := .Add) (x := .str 116) (y := .str 48) rfl (dv_fn (x := .int 0) (H1 := H') rfl rfl) (cat_str (by decide))
  have n1 : ∀ (F : Calls) (x3 : Option V) (H' : AH), ev glo F nameE (loc20 p H.length (some (.int 1)) x3) H' = some (.str (cat 116 49), H') := fun F x3 H' => dv_bin (op := .Add) (x := .str 116) (y := .str 49) rfl (dv_fn (x := .int 1) (H1 := H') rfl rfl) (cat_str (by decide))
  obtain ⟨t, H3, s3, y3, e3, R3, l3⟩ := turn20 n n0 none none (by omega) (Nat.zero_le _) R0
  have loop : ∃ ts H4 s4 ρ4, forI (frun glo (callN glo tab02 (n + 6)) (.one 2) body20) (rangeI (1 + (x : Int))) (loc20 p H.length none none) H2 = some (.next, ρ4, H4) ∧ ρ4[0]? = some (some (.ref p)) ∧ ρ4[1]? = some (some (.ref H.length)) ∧ Rows H H4 p q ns H.length s4 ts ∧ s4 ≤ spot + 89 := by
    rcases (by omega : x = 0 ∨ x = 1) with rfl | rfl
    · exact ⟨_, H3, s3, _, (thn_e e3).trans rfl, rfl, rfl, R3, by omega⟩
    · obtain ⟨t2, H4, s4, y4, e4, R4, l4⟩ := turn20 n n1 (some (.int 0)) y3 (by omega) (show ([] ++ [t]).length ≤ 1 from Nat.le_refl 1) R3
      exact ⟨_, H4, s4, _, (thn_e e3).trans ((thn_e e4).trans rfl), rfl, rfl, R4, by omega⟩
  obtain ⟨ts, H4, s4, ρ4, e4, r0, r1, R4, l4⟩ := loop
  obtain ⟨y, H5, hy, e5, k5, P5⟩ := ev_draw (n + 5) r0 3 (by decide) (by omega) R4.pool
  have go : ∀ fb : Bool, ([.str 127970252055922, .str 128026086171489, .str 128026086171489] : List V)[y]? = some (.str (cond fb 128026086171489 127970252055922)) → ∃ ts fb H' spot', GenP H p q ns spot (callN glo tab02 (n + 7) 20 [.ref p] H) ts fb H' spot' := fun fb h => by
    have e1 : exs glo (callN glo tab02 (n + 6)) p_20.body [some (.ref p), none, none, none, none, none, none, none, none] H = some (.ret (polV ts fb), ρ4, H5) :=
      dxs (ρ' := loc20 p H.length none none) (H1 := H1) (dx_asg (dv_list dvs_nil) rfl) (dxs (dx_for_range (n := 1 + (x : Int)) (dv_bin (x := .int 1) rfl e2 rfl) ⟨by omega, by omega⟩ e4)
        (dxs_ret (dv_tup (dvs2 (dv_fn (x := .ref H.length) (dv_var r1) (tuple_fn R4.at_)) (dv_tup (dvs1 (dv_sub (y := .int y) rfl e5 (sub_tup h))))))))
    exact ⟨ts, fb, H5, s4 + 1, d_call rfl rfl rfl e1, R4.keep.trans k5, P5, by omega, R4.len, R4.wt⟩
  rcases (by omega : y = 0 ∨ y = 1 ∨ y = 2) with rfl | rfl | rfl
  · exact go false rfl
  · exact go true rfl
  · exact go true rfl
/-! a drawn route -/
/-- a dict in the making -/
structure Mk (H0 H : AH) (p q : Nat) (ns : List Int) (spot j m : Nat) (g : Key → Option V) : Prop where
  keep : KeepB p H0 H
  pool : Pool H p q ns spot
  at_ : ∃ l, H[j]? = some (.dict l) ∧ (l.map (·.1)).Nodup ∧ (∀ k, getK l k = g k) ∧ l.length ≤ m
  far : H0.length ≤ j
  jp : j ≠ p
  jq : j ≠ q
noncomputable def upd (t : Bool) (k : Key) (v : V) (g : Key → Option V) : Key → Option V := fun k' => if k' = k then cond t (some v) (g k') else g k'
theorem len_setK (l : List (Key × V)) (k : Key) (v : V) : (setK l k v).length ≤ l.length + 1 := by
  unfold setK
  split
  · rw [List.length_map]; exact Nat.le_succ _
  · rw [List.length_append]; exact Nat.le_refl _
section
variable {F : Calls} {ρ : Loc} {H0 H : AH} {spot j m : Nat} {g : Key → Option V}
theorem Mk.draw {n : Nat} (M : Mk H0 H p q ns spot j m g) (h0 : ρ[0]? = some (some (.ref p))) (n0 : Nat) (hn : 0 < n0) (hs : spot ≤ big) :
    ∃ (x : Nat) (H' : AH), x < n0 ∧ ev glo (callN glo tab02 (n + 1)) (.call 16 (.cons (.var 0) (.cons (.c (.int n0)) .nil))) ρ H = some (.int x, H') ∧ Mk H0 H' p q ns (spot + 1) j m g := by
  obtain ⟨x, H', hx, e, k, P⟩ := ev_draw n h0 n0 hn hs M.pool
  obtain ⟨l, h1, h2⟩ := M.at_
  exact ⟨x, H', hx, e, M.keep.trans k, P, ⟨l, k _ _ M.jp h1, h2⟩, M.far, M.jp, M.jq⟩
theorem Mk.store {Ha : AH} (M : Mk H0 H p q ns spot j m g) (hm : m ≤ 20) {k : Nat} {e : PE} {v : V} (h1 : ρ[1]? = some (some (.ref j))) (he : ev glo F e ρ Ha = some (v, H)) : ∃ H', ex glo F (.asub (.var 1) (.c (.str k)) e) ρ Ha = some (.next, ρ, H') ∧ Mk H0 H' p q ns spot j (m + 1) (upd true (.s k) v g) := by
  obtain ⟨l, a1, a2, a3, a4⟩ := M.at_
  refine ⟨H.set j (.dict (setK l (.s k) v)), dx_asub (x := .ref j) (y := .str k) he (dv_var h1) rfl (store_dict a1 (line_of (by omega))), M.keep.set M.far _, M.pool.set M.jp M.jq _, ⟨_, List.getElem?_set_self (some_lt a1), nodup_setK a2 _ _, fun k' => ?_, Nat.le_trans (len_setK ..) (Nat.succ_le_succ a4)⟩, M.far, M.jp, M.jq⟩
  rw [getK_setK, a3]
  rfl
theorem Mk.test (M : Mk H0 H p q ns spot j m g) (hm : m ≤ 20) {k : Nat} {c e : PE} {v : V} {t : Bool} (h1 : ρ[1]? = some (some (.ref j))) (hc : ev glo F c ρ H = some (.bool t, H)) (he : ev glo F e ρ H = some (v, H)) :
    ∃ H', ex glo F (.ite c (.cons (.asub (.var 1) (.c (.str k)) e) .nil) .nil) ρ H = some (.next, ρ, H') ∧ Mk H0 H' p q ns spot j (m + 1) (upd t (.s k) v g) := by
  cases t with
  | true =>
    obtain ⟨H', e1, M'⟩ := M.store hm (k := k) h1 he
    exact ⟨H', dx_ite true hc (dxs e1 dxs_nil), M'⟩
  | false =>
    obtain ⟨l, a1, a2, a3, a4⟩ := M.at_
    exact ⟨H, dx_ite false hc dxs_nil, M.keep, M.pool, ⟨l, a1, a2, fun k' => (a3 k').trans (show g k' = if k' = .s k then g k' else g k' by rw [ite_self]), Nat.le_succ_of_le a4⟩, M.far, M.jp, M.jq⟩
end
theorem rt_get (og hd : Int) (tl : List Int) (med : Int) (tm tl' a b : Bool) (k : Key) :
    upd true kOrigin (.int og) (upd (a || b) kComm (.tup ((comm2 a b).map .int)) (upd tl' kLp (.int 7) (upd tm kMed (.int med) (getK [(kPath, pathV (hd :: tl)), (kNh, .int 5)])))) k =
      (S.mk og hd tl 5 (cond tm (some med) none) (cond tl' (some 7) none) none a b).rt.get k := by
  by_cases h1 : k = kOrigin
  · subst h1; rfl
  by_cases h2 : k = kPath
  · subst h2; rfl
  by_cases h3 : k = kNh
  · subst h3; rfl
  by_cases h4 : k = kMed
  · subst h4; cases tm <;> rfl
  by_cases h5 : k = kLp
  · subst h5; cases tl' <;> rfl
  by_cases h6 : k = kTag
  · subst h6; rfl
  by_cases h7 : k = kComm
  · subst h7; cases a <;> cases b <;> rfl
  show (if k = kOrigin then _ else if k = kComm then _ else if k = kLp then _ else if k = kMed then _ else getK [(kPath, pathV (hd :: tl)), (kNh, .int 5)] k) = _
  rw [if_neg h1, if_neg h7, if_neg h5, if_neg h4, getK_cons, getK_cons, getK_nil, if_neg (fun q => h2 q.symm), if_neg (fun q => h3 q.symm)]
  unfold Rt.get
  rw [if_neg h1, if_neg h2, if_neg h3, if_neg h4, if_neg h5, if_neg h6, if_neg h7]
end
end Mine.Pl
/-! R8 -/
namespace Mine.Pl
section
variable {G : GTab} {F : Calls} {ρ ρ' : Loc} {H H1 H2 H3 : AH} {k v : PE} {x y : V} {kk : Key} {r : PEds} {l : List (Key × V)}
theorem dvd_nil : evd G F .nil ρ H = some ([], H) := rfl
theorem dvd_cons (hk : ev G F k ρ H = some (x, H1)) (hv : ev G F v ρ H1 = some (y, H2)) (hx : keyOf x = some kk) (hr : evd G F r ρ H2 = some (l, H3)) : evd G F (.cons k v r) ρ H = some ((kk, y) :: l, H3) :=
  show bnd (ev G F k ρ H) (fun x H1 => bnd (ev G F v ρ H1) fun y H2 => obn (keyOf x) fun x => bnd (evd G F r ρ H2) fun r H3 => some ((x, y) :: r, H3)) = _ from (bnd_e hk).trans ((bnd_e hv).trans ((obn_e hx).trans (bnd_e hr)))
theorem dv_dict (h : evd G F r ρ H = some (l, H1)) (hl : (l.map (·.1)).Nodup) : ev G F (.dict r) ρ H = some (.ref H1.length, H1 ++ [.dict l]) := by
  have e := fold_self l [] (by rw [List.nil_append]; exact hl)
  rw [List.nil_append] at e
  exact (bnd_e (f := fun ps H2 => some (V.ref H2.length, H2 ++ [MO.dict (ps.foldl (fun d p => setK d p.1 p.2) [])])) h).trans (by rw [e])
end
theorem KeepB.len {H H' : AH} {p q spot : Nat} {ns : List Int} (k : KeepB p H H') (P : Pool H' p q ns spot) : H.length ≤ H'.length := by
  rcases Nat.eq_zero_or_pos H.length with h | h
  · omega
  · have hi : H.length - 1 < H.length := by omega
    by_cases e : H.length - 1 = p
    · have := some_lt P.box
      omega
    · have := some_lt (k _ _ e (List.getElem?_eq_getElem hi))
      omega
section
variable {p q : Nat} {ns : List Int}
/-- what a drawn route is -/
structure GenR (H : AH) (p q : Nat) (ns : List Int) (spot : Nat) (o : Option (V × AH)) (j : Nat) (s : S) (H' : AH) : Prop where
  eq : o = some (.ref j, H')
  keep : KeepB p H H'
  pool : Pool H' p q ns (spot + 5)
  at_ : At H' j s.rt
  short : s.tl.length ≤ 1
noncomputable abbrev loc21 (p j : Nat) (x2 x3 x4 : Option V) : Loc := [some (.ref p), some (.ref j), x2, x3, x4, none]
theorem path4 {x : Nat} (hx : x < 4) : ∃ (hd : Int) (tl : List Int), tl.length ≤ 1 ∧ ([.tup [.int 7, .int 8], .tup [.int 8], .tup [.int 9, .int 7], .tup [.int 8, .int 7]] : List V)[x]? = some (.tup ((hd :: tl).map .int)) := by
  rcases (by omega : x = 0 ∨ x = 1 ∨ x = 2 ∨ x = 3) with rfl | rfl | rfl | rfl
  · exact ⟨7, [8], Nat.le_refl _, rfl⟩
  · exact ⟨8, [], Nat.zero_le _, rfl⟩
  · exact ⟨9, [7], Nat.le_refl _, rfl⟩
  · exact ⟨8, [7], Nat.le_refl _, rfl⟩
theorem comm3 {x : Nat} (hx : x < 3) : ∃ a b : Bool, ([.tup [], .tup [.int 1], .tup [.int 1, .int 2]] : List V)[x]? = some (.tup ((comm2 a b).map .int)) := by
  rcases (by omega : x = 0 ∨ x = 1 ∨ x = 2) with rfl | rfl | rfl
  · exact ⟨false, false, rfl⟩
  · exact ⟨true, false, rfl⟩
  · exact ⟨true, true, rfl⟩
theorem route_val (n : Nat) {spot : Nat} {H : AH} (hs : spot + 10 ≤ big) (hP : Pool H p q ns spot) : ∃ j s H', GenR H p q ns spot (callN glo tab02 (n + 2) 21 [.ref p] H) j s H' := by
  obtain ⟨x1, H1, hx1, e1, k1, P1⟩ := ev_draw n (ρ := [some (.ref p), none, none, none, none, none]) rfl 4 (by decide) (by omega) hP
  obtain ⟨hd, tl, ht, hp1⟩ := path4 hx1
  let H2 : AH := H1 ++ [.dict [(kPath, pathV (hd :: tl)), (kNh, .int 5)]]
  have far : H.length ≤ H1.length := k1.len P1
  have hj := hP.lt far
  have s1 : ex glo (callN glo tab02 (n + 1)) (.asg (.one 1) (.dict (.cons (.c (.str 29401359423861601)) (.tup (.cons (.tup (.cons (.c (.int 2)) (.cons (.sub (.tup (.cons (.tup (.cons (.c (.int 7)) (.cons (.c (.int 8)) .nil))) (.cons (.tup (.cons (.c (.int 8)) .nil)) (.cons (.tup (.cons (.c (.int 9)) (.cons (.c (.int 7)) .nil))) (.cons (.tup (.cons (.c (.int 8)) (.cons (.c (.int 7)) .nil))) .nil))))) (.call 16 (.cons (.var 0) (.cons (.c (.int 4)) .nil)))) .nil))) .nil)) (.cons (.c (.str 8101809013848040814)) (.c (.int 5)) .nil))))
      [some (.ref p), none, none, none, none, none] H = some (.next, loc21 p H1.length none none none, H2) :=
    dx_asg (dv_dict (dvd_cons (kk := kPath) rfl (dv_tup (dvs1 (dv_tup (dvs2 rfl (dv_sub (y := .int x1) rfl e1 (sub_tup hp1)))))) rfl (dvd_cons (kk := kNh) rfl rfl rfl dvd_nil)) (show [kPath, kNh].Nodup by decide)) rfl
  have M2 : Mk H H2 p q ns (spot + 1) H1.length 2 (getK [(kPath, pathV (hd :: tl)), (kNh, .int 5)]) := ⟨k1.trans ((Keep.app H1 _).but p), P1.keep (Keep.app H1 _), ⟨_, at_len _ _, (show [kPath, kNh].Nodup by decide), fun _ => rfl, Nat.le_refl _⟩, far, hj.1, hj.2⟩
  obtain ⟨x2, H3, hx2, e3, M3⟩ := M2.draw (n := n) (ρ := loc21 p H1.length none none none) rfl 4 (by decide) (by omega)
  obtain ⟨x3, H4, hx3, e4, M4⟩ := M3.draw (n := n) (ρ := loc21 p H1.length none none none) rfl 2 (by decide) (by omega)
  have s2 : ex glo (callN glo tab02 (n + 1)) (.asg (.many [2, 3]) (.tup (.cons (.call 16 (.cons (.var 0) (.cons (.c (.int 4)) .nil))) (.cons (.call 16 (.cons (.var 0) (.cons (.c (.int 2)) .nil))) .nil)))) (loc21 p H1.length none none none) H2 = some (.next, loc21 p H1.length (some (.int x2)) (some (.int x3)) none, H4) :=
    dx_asg (v := .tup [.int x2, .int x3]) (dv_tup (dvs2 e3 e4)) rfl
  obtain ⟨H5, s3, M5⟩ := M4.test (F := callN glo tab02 (n + 1)) (ρ := loc21 p H1.length (some (.int x2)) (some (.int x3)) none) (by decide) (k := 6579565) (c := .cmp .Gt (.var 2) (.c (.int 0))) (e := .var 2) (t := decide ((0 : Int) < x2)) rfl (dv_cmp (op := .Gt) (x := .int x2) (y := .int 0) rfl rfl rfl) rfl
  obtain ⟨H6, s4, M6⟩ := M5.test (F := callN glo tab02 (n + 1)) (ρ := loc21 p H1.length (some (.int x2)) (some (.int x3)) none) (by decide) (k := 483552748599985286901612) (c := .cmp .Eq (.var 3) (.c (.int 1))) (e := .c (.int 7)) (t := ((x3 : Int) == 1)) rfl (dv_cmp (op := .Eq) (x := .int x3) (y := .int 1) rfl rfl rfl) rfl
  obtain ⟨x4, H7, hx4, e7, M7⟩ := M6.draw (n := n) (ρ := loc21 p H1.length (some (.int x2)) (some (.int x3)) none) rfl 3 (by decide) (by omega)
  obtain ⟨a, b, hab⟩ := comm3 hx4
  have s5 : ex glo (callN glo tab02 (n + 1)) (.asg (.one 4) (.sub (.tup (.cons (.tup .nil) (.cons (.tup (.cons (.c (.int 1)) .nil)) (.cons (.tup (.cons (.c (.int 1)) (.cons (.c (.int 2)) .nil))) .nil)))) (.call 16 (.cons (.var 0) (.cons (.c (.int 3)) .nil))))) (loc21 p H1.length (some (.int x2)) (some (.int x3)) none) H6 = some (.next, loc21 p H1.length (some (.int x2)) (some (.int x3)) (some (.tup ((comm2 a b).map .int))), H7) :=
    dx_asg (dv_sub (y := .int x4) rfl e7 (sub_tup hab)) rfl
  obtain ⟨H8, s6, M8⟩ := M7.test (F := callN glo tab02 (n + 1)) (ρ := loc21 p H1.length (some (.int x2)) (some (.int x3)) (some (.tup ((comm2 a b).map .int)))) (by decide) (k := 139505373566937160341090147) (c := .cmp .NotEq (.var 4) (.tup .nil)) (e := .var 4) (t := a || b) rfl (dv_cmp (op := .NotEq) (x := .tup ((comm2 a b).map .int)) (y := .tup []) rfl rfl (by cases a <;> cases b <;> rfl)) rfl
  obtain ⟨x5, H9, hx5, e9, M9⟩ := M8.draw (n := n) (ρ := loc21 p H1.length (some (.int x2)) (some (.int x3)) (some (.tup ((comm2 a b).map .int)))) rfl 2 (by decide) (by omega)
  obtain ⟨H10, s7, M10⟩ := M9.store (F := callN glo tab02 (n + 1)) (by decide) (k := 121398985585263) rfl e9
  obtain ⟨l, a1, a2, a3, _⟩ := M10.at_
  have e1 : exs glo (callN glo tab02 (n + 1)) p_21.body [some (.ref p), none, none, none, none, none] H = some (.ret (.ref H1.length), loc21 p H1.length (some (.int x2)) (some (.int x3)) (some (.tup ((comm2 a b).map .int))), H10) :=
    dxs s1 (dxs s2 (dxs s3 (dxs s4 (dxs s5 (dxs s6 (dxs s7 (dxs_ret rfl)))))))
  exact ⟨H1.length, S.mk x5 hd tl 5 (cond (decide ((0 : Int) < x2)) (some x2) none) (cond ((x3 : Int) == 1) (some 7) none) none a b, H10, d_call rfl rfl rfl e1, M10.keep, M10.pool, ⟨l, a1, a2, fun k => (a3 k).trans (rt_get ..)⟩, ht⟩
end
end Mine.Pl
/-! R9 -/
namespace Mine.Pl
noncomputable def FullAt (H : AH) (f : Nat) (own peer : Int) : Prop := ∃ l, H[f]? = some (.dict l) ∧ getK l (.s 139571412765187396326029167) = some (.int own) ∧ getK l (.s 32476684890760560) = some (.int peer)
theorem FullAt.facts {H : AH} {f : Nat} {own peer : Int} (h : FullAt H f own peer) : FactsAt H f own peer := by
  obtain ⟨l, h1, h2, h3⟩ := h
  exact ⟨l, h1, by rw [h2]; rfl, by rw [h3]; rfl⟩
theorem FullAt.keep {H H' : AH} {f : Nat} {own peer : Int} (h : FullAt H f own peer) (g : Keep H H') : FullAt H' f own peer := by
  obtain ⟨l, h1, h2⟩ := h
  exact ⟨l, g _ _ h1, h2⟩
theorem FullAt.own_ev {H : AH} {f i : Nat} {own peer : Int} {F : Calls} {ρ : Loc} (h : FullAt H f own peer) (hi : ρ[i]? = some (some (.ref f))) : ev glo F (.sub (.var i) (.c (.str 139571412765187396326029167))) ρ H = some (.int own, H) := by
  obtain ⟨l, h1, h2, _⟩ := h
  exact dv_sub (dv_var hi) rfl (sub_dict h1 h2)
theorem FullAt.peer_ev {H : AH} {f i : Nat} {own peer : Int} {F : Calls} {ρ : Loc} (h : FullAt H f own peer) (hi : ρ[i]? = some (some (.ref f))) : ev glo F (.sub (.var i) (.c (.str 32476684890760560))) ρ H = some (.int peer, H) := by
  obtain ⟨l, h1, _, h2⟩ := h
  exact dv_sub (dv_var hi) rfl (sub_dict h1 h2)
section
variable {f : Nat} {H : AH} {own peer : Int}
theorem settled_val (hf : FullAt H f own peer) (c : Cn) : ∀ m, c.dep < m → callN glo tab02 m 22 [c.enc, .ref f] H = some ((c.settle peer).enc, H) := by
  have go : ∀ (c : Cn) (n : Nat) (v : V), exs glo (callN glo tab02 n) p_22.body [some c.enc, some (.ref f), none] H = some (.ret v, [some c.enc, some (.ref f), none], H) → callN glo tab02 (n + 1) 22 [c.enc, .ref f] H = some (v, H) := fun c n v e => d_call rfl rfl rfl e
  have plain : ∀ (c : Cn), (∀ (F : Calls), exs glo F p_22.body [some c.enc, some (.ref f), none] H = some (.ret c.enc, [some c.enc, some (.ref f), none], H)) → c.settle peer = c → ∀ m, c.dep < m → callN glo tab02 m 22 [c.enc, .ref f] H = some ((c.settle peer).enc, H) := fun c h1 h2 m hm => by
    obtain ⟨m, rfl⟩ : ∃ k, m = k + 1 := ⟨m - 1, by omega⟩
    rw [h2]
    exact go c m _ (h1 _)
  induction c with
  | or a b iha ihb =>
    intro m hm
    have hd : max a.dep b.dep + 1 < m := hm
    obtain ⟨m, rfl⟩ : ∃ k, m = k + 1 := ⟨m - 1, by omega⟩
    exact go (.or a b) m _ (hit rfl (dv_tup (dvs3 rfl (dv_call (dvs2 rfl rfl) (iha m (by omega))) (dv_call (dvs2 rfl rfl) (ihb m (by omega))))))
  | not a iha =>
    intro m hm
    have hd : a.dep + 1 < m := hm
    obtain ⟨m, rfl⟩ : ∃ k, m = k + 1 := ⟨m - 1, by omega⟩
    exact go (.not a) m _ (sk rfl (hit rfl (dv_tup (dvs2 rfl (dv_call (dvs2 rfl rfl) (iha m (by omega)))))))
  | peer k =>
    intro m hm
    obtain ⟨m, rfl⟩ : ∃ k, m = k + 1 := ⟨m - 1, by omega⟩
    refine go (.peer k) m _ (sk rfl (sk rfl (hit (dv_and rfl rfl) ?_)))
    have hc : ev glo (callN glo tab02 m) (.cmp .Eq (.sub (.var 1) (.c (.str 32476684890760560))) (.sub (.var 0) (.c (.int 3)))) [some (Cn.peer k).enc, some (.ref f), none] H = some (.bool (peer == k), H) := dv_cmp (op := .Eq) (x := .int peer) (y := .int k) (hf.peer_ev rfl) rfl rfl
    show _ = some ((cond (peer == k) Cn.tru (.not .tru)).enc, H)
    cases h : peer == k with
    | true => rw [h] at hc; exact dv_ite hc rfl
    | false => rw [h] at hc; exact dv_ite' hc rfl
  | cmp w o k => exact plain (.cmp w o k) (fun F => sk rfl (sk rfl (sk (dv_and rfl (by cases w <;> rfl)) (dxs_ret rfl)))) rfl
  | tru => exact plain .tru (fun F => sk rfl (sk rfl (sk (dv_and' rfl) (dxs_ret rfl)))) rfl
  | com two => exact plain (.com two) (fun F => sk rfl (sk rfl (sk (dv_and' rfl) (dxs_ret rfl)))) rfl
  | has x => exact plain (.has x) (fun F => sk rfl (sk rfl (sk (dv_and' rfl) (dxs_ret rfl)))) rfl
  | first x => exact plain (.first x) (fun F => sk rfl (sk rfl (sk (dv_and' rfl) (dxs_ret rfl)))) rfl
  | pfx => exact plain .pfx (fun F => sk rfl (sk rfl (sk (dv_and' rfl) (dxs_ret rfl)))) rfl
/-! the tree -/
theorem encs_append (a b : List St) : encs (a ++ b) = encs a ++ encs b := by rw [encs_map, encs_map, encs_map, List.map_append]
theorem encs_len (a : List St) : (encs a).length = a.length := by rw [encs_map, List.length_map]
theorem word_ne (d : De) : ∃ w rest, d.dd.enc = .tup (.str w :: rest) ∧ (w == 26217) = false ∧ (w == 128026086171489) = false ∧ (w == 127970252055922) = false ∧ (w == 1954047342) = false := by
  cases d with
  | com two v => cases v <;> exact ⟨_, _, rfl, rfl, rfl, rfl, rfl⟩
  | _ => exact ⟨_, _, rfl, rfl, rfl, rfl, rfl⟩
noncomputable def De.isSelf : De → Bool
  | .self => true
  | _ => false
theorem self_eq (d : De) : cmpV .Eq d.dd.enc (.tup [.str 7628147, .str 8101808799099676014, .str 1718379891]) H = some d.isSelf := by
  cases d with
  | com two v => cases v <;> cases two <;> rfl
  | set f v => cases f <;> rfl
  | prep x two => cases two <;> rfl
  | _ => rfl
noncomputable abbrev loc23 (L B T : V) (f : Nat) (x4 x5 x6 : Option V) : Loc := [some L, some B, some T, some (.ref f), x4, x5, x6, none, none]
variable {bh lt : List St}
theorem tree_val (hf : FullAt H f own peer) (B : Nat) (h1 : wts bh ≤ B) (h2 : wts lt ≤ B) (h3 : 1 ≤ B) (n : Nat) : ∀ (l : List St), wts l ≤ n → wts l + B ≤ 400 →
    callN glo tab02 (n + 2) 23 [.tup (encs l), .tup (encs bh), .tup (encs lt), .ref f] H = some (.tup (encs (trees own peer bh lt l bh)), H) := by
  have go : ∀ (l : List St) (n : Nat) (r : List St) (ρ' : Loc), exs glo (callN glo tab02 (n + 1)) p_23.body (loc23 (.tup (encs l)) (.tup (encs bh)) (.tup (encs lt)) f none none none) H = some (.ret (.tup (encs r)), ρ', H) → callN glo tab02 (n + 2) 23 [.tup (encs l), .tup (encs bh), .tup (encs lt), .ref f] H = some (.tup (encs r), H) := fun l n r ρ' e => d_call rfl rfl rfl e
  have big3 : ∀ (l : List St), wts l + B ≤ 400 → (encs (trees own peer bh lt l bh)).length ≤ 400 := fun l h => by
    rw [encs_len]
    exact Nat.le_trans (len_wts _) (Nat.le_trans (trees_wt own peer bh lt l bh B h1 h2 h3 h1) h)
  have step : ∀ (n : Nat), (∀ l, wts l < n → wts l + B ≤ 400 → callN glo tab02 (n + 1) 23 [.tup (encs l), .tup (encs bh), .tup (encs lt), .ref f] H = some (.tup (encs (trees own peer bh lt l bh)), H)) →
      ∀ (l : List St), wts l ≤ n → wts l + B ≤ 400 → callN glo tab02 (n + 2) 23 [.tup (encs l), .tup (encs bh), .tup (encs lt), .ref f] H = some (.tup (encs (trees own peer bh lt l bh)), H) := fun n hN l hl hB => by
    cases l with
    | nil => exact go [] n bh _ (hit rfl rfl)
    | cons x r =>
      have hl : x.wt + wts r ≤ n := hl
      have hB : x.wt + wts r + B ≤ 400 := hB
      have first : ∀ {t : Option (Fl × Loc × AH)} {q : PSs}, exs glo (callN glo tab02 (n + 1)) q (loc23 (.tup (encs (x :: r))) (.tup (encs bh)) (.tup (encs lt)) f (some x.enc) (some (.tup (encs r))) none) H = t →
          exs glo (callN glo tab02 (n + 1)) (.cons (.ite (.cmp .Eq (.var 0) (.tup .nil)) (.cons (.ret (.var 1)) .nil) .nil) (.cons (.asg (.many [4, 5]) (.tup (.cons (.sub (.var 0) (.c (.int 0))) (.cons (.slice (.var 0) (.c (.int 1)) (.c .none)) .nil)))) q)) (loc23 (.tup (encs (x :: r))) (.tup (encs bh)) (.tup (encs lt)) f none none none) H = t := fun h =>
        sk (dv_cmp (op := .Eq) (t := false) (x := .tup (encs (x :: r))) (y := .tup []) rfl rfl rfl) (dxs (dx_asg (v := .tup [x.enc, .tup (encs r)]) (dv_tup (dvs2 (dv_sub (x := .tup (encs (x :: r))) (y := .int 0) rfl rfl rfl) (dv_slice (x := .tup (encs (x :: r))) (y := .int 1) (z := .none) rfl rfl rfl rfl))) rfl) h)
      cases x with
      | fin z =>
        cases z with
        | acc => exact go _ n lt _ (first (sk rfl (hit rfl rfl)))
        | rej => exact go _ n [.fin .rej] _ (first (sk rfl (sk rfl (hit rfl rfl))))
        | nxt => exact go _ n bh _ (first (sk rfl (sk rfl (sk rfl (hit rfl rfl)))))
      | ite c a b =>
        have hl : max c.dep (max (wts a) (wts b)) + 1 + wts r ≤ n := hl
        have hB : max c.dep (max (wts a) (wts b)) + 1 + wts r + B ≤ 400 := hB
        have b1 := Nat.le_trans (Nat.le_max_left (wts a) (wts b)) (Nat.le_max_right c.dep _)
        have b2 := Nat.le_trans (Nat.le_max_right (wts a) (wts b)) (Nat.le_max_right c.dep _)
        have b3 := Nat.le_max_left c.dep (max (wts a) (wts b))
        generalize max c.dep (max (wts a) (wts b)) = M at *
        have one : ∀ (g : List St) (ρ : Loc) (E : PE), wts g ≤ M → ρ[1]? = some (some (.tup (encs bh))) → ρ[2]? = some (some (.tup (encs lt))) → ρ[3]? = some (some (.ref f)) → ρ[5]? = some (some (.tup (encs r))) → ev glo (callN glo tab02 (n + 1)) E ρ H = some (.tup (encs g), H) →
            ev glo (callN glo tab02 (n + 1)) (.call 23 (.cons (.bin .Add E (.var 5)) (.cons (.var 1) (.cons (.var 2) (.cons (.var 3) .nil))))) ρ H = some (.tup (encs (trees own peer bh lt g (trees own peer bh lt r bh))), H) := fun g ρ E hg h1' h2' h3' h5' he => by
          have w := wts_append g r
          have l1 := len_wts g
          have l2 := len_wts r
          rw [← trees_append]
          refine dv_call (dvs4 (dv_bin he (dv_var h5') (bin_tup (line_of ?_))) (dv_var h1') (dv_var h2') (dv_var h3')) (encs_append g r ▸ hN (g ++ r) (by omega) (by omega))
          rw [encs_len, encs_len]
          omega
        have e6 := one a (loc23 (.tup (encs (.ite c a b :: r))) (.tup (encs bh)) (.tup (encs lt)) f (some (St.ite c a b).enc) (some (.tup (encs r))) none) (.sub (.var 4) (.c (.int 2))) b1 rfl rfl rfl rfl rfl
        have e7 := one b (loc23 (.tup (encs (.ite c a b :: r))) (.tup (encs bh)) (.tup (encs lt)) f (some (St.ite c a b).enc) (some (.tup (encs r))) (some (.tup (encs (trees own peer bh lt a (trees own peer bh lt r bh)))))) (.sub (.var 4) (.c (.int 3))) b2 rfl rfl rfl rfl rfl
        exact go _ n [.ite (c.settle peer) (trees own peer bh lt a (trees own peer bh lt r bh)) (trees own peer bh lt b (trees own peer bh lt r bh))] _ (first (dxs_ite_ret rfl (dxs (dx_asg e6 rfl) (dxs_ret (dv_tup (dvs1 (dv_tup (dvs4 rfl (dv_call (dvs2 rfl rfl) (settled_val hf c (n + 1) (by omega))) rfl e7))))))))
      | deed d =>
        have hl : 1 + wts r ≤ n := hl
        have hB : 1 + wts r + B ≤ 400 := hB
        obtain ⟨w, rest, hw, w1, w2, w3, w4⟩ := word_ne d
        have hsub : ∀ k : Nat, (w == k) = false → ev glo (callN glo tab02 (n + 1)) (.cmp .Eq (.sub (.var 4) (.c (.int 0))) (.c (.str k))) (loc23 (.tup (encs (.deed d :: r))) (.tup (encs bh)) (.tup (encs lt)) f (some (St.deed d).enc) (some (.tup (encs r))) none) H = some (.bool false, H) := fun k hk => by
          show ev glo (callN glo tab02 (n + 1)) (.cmp .Eq (.sub (.var 4) (.c (.int 0))) (.c (.str k))) (loc23 (.tup (encs (.deed d :: r))) (.tup (encs bh)) (.tup (encs lt)) f (some d.dd.enc) (some (.tup (encs r))) none) H = some (.bool false, H)
          rw [hw]
          exact dv_cmp (op := .Eq) (x := .str w) (y := .str k) (dv_sub (x := .tup (.str w :: rest)) (y := .int 0) rfl rfl rfl) rfl (congrArg some hk)
        have last : ∀ v : V, v = (St.deed (d.put own)).enc → exs glo (callN glo tab02 (n + 1)) (.cons (.ret (.bin .Add (.tup (.cons (.var 4) .nil)) (.call 23 (.cons (.var 5) (.cons (.var 1) (.cons (.var 2) (.cons (.var 3) .nil))))))) .nil) (loc23 (.tup (encs (.deed d :: r))) (.tup (encs bh)) (.tup (encs lt)) f (some v) (some (.tup (encs r))) none) H =
            some (.ret (.tup (encs (.deed (d.put own) :: trees own peer bh lt r bh))), loc23 (.tup (encs (.deed d :: r))) (.tup (encs bh)) (.tup (encs lt)) f (some v) (some (.tup (encs r))) none, H) := fun v hv => by
          subst hv
          exact dxs_ret (dv_bin (x := .tup [(St.deed (d.put own)).enc]) rfl (dv_call (dvs4 rfl rfl rfl rfl) (hN r (by omega) (by omega))) (bin_tup (line_of (by have := big3 r (by omega); simp only [List.length_cons, List.length_nil]; omega))))
        have hq : ev glo (callN glo tab02 (n + 1)) (.cmp .Eq (.var 4) (.tup (.cons (.c (.str 7628147)) (.cons (.c (.str 8101808799099676014)) (.cons (.c (.str 1718379891)) .nil))))) (loc23 (.tup (encs (.deed d :: r))) (.tup (encs bh)) (.tup (encs lt)) f (some (St.deed d).enc) (some (.tup (encs r))) none) H = some (.bool d.isSelf, H) :=
          dv_cmp (op := .Eq) (x := d.dd.enc) (y := .tup [.str 7628147, .str 8101808799099676014, .str 1718379891]) rfl rfl (self_eq d)
        refine go _ n (.deed (d.put own) :: trees own peer bh lt r bh) (loc23 (.tup (encs (.deed d :: r))) (.tup (encs bh)) (.tup (encs lt)) f (some (St.deed (d.put own)).enc) (some (.tup (encs r))) none) (first (sk (hsub _ w1) (sk (hsub _ w2) (sk (hsub _ w3) (sk (hsub _ w4) ?_)))))
        cases hd : d.isSelf with
        | true =>
          have : d = .self := by cases d <;> first | rfl | cases hd
          subst this
          exact dxs (dx_ite true hq (dxs (dx_asg (v := (St.deed (.set .nh own)).enc) (dv_tup (dvs3 rfl rfl (hf.own_ev rfl))) rfl) dxs_nil)) (last _ rfl)
        | false =>
          have : d.put own = d := by cases d <;> first | rfl | cases hd
          rw [hd] at hq
          rw [this] at last ⊢
          exact sk hq (last _ rfl)
  induction n with
  | zero => exact step 0 fun l h => absurd h (Nat.not_lt_zero _)
  | succ n ih => exact step (n + 1) fun l h => ih l (Nat.le_of_lt_succ h)
end
theorem forI_append (run : V → Loc → AH → Option (Fl × Loc × AH)) (a b : List V) : ∀ (ρ : Loc) (H : AH), forI run (a ++ b) ρ H = thn (forI run a ρ H) (forI run b) := by
  induction a with
  | nil => exact fun ρ H => rfl
  | cons v r ih =>
    intro ρ H
    show thn (run v ρ H) (forI run (r ++ b)) = thn (thn (run v ρ H) (forI run r)) (forI run b)
    rw [thn_assoc]
    exact congrArg (thn _) (funext fun ρ => funext fun H => ih ρ H)
section
variable {f : Nat} {H : AH} {own peer : Int} {lt : List St}
noncomputable abbrev body24 : PSs := .cons (.asg (.one 3) (.call 23 (.cons (.var 5) (.cons (.var 3) (.cons (.var 1) (.cons (.var 2) .nil)))))) .nil
noncomputable abbrev loc24 (A T : V) (f : Nat) (x3 x4 x5 : Option V) : Loc := [some A, some T, some (.ref f), x3, x4, x5, none]
theorem whole_val (hf : FullAt H f own peer) (n : Nat) (fb : Bool) (ts : List Term) (hw : ∀ t ∈ ts, wts t.2 ≤ 7) (hn : ts.length ≤ 2) (hl : wts lt ≤ 300) :
    callN glo tab02 (n + 10) 24 [polV ts fb, .tup (encs lt), .ref f] H = some (.tup (encs (whole own peer lt fb ts)), H) := by
  have loop : ∀ (ts : List Term), (∀ t ∈ ts, wts t.2 ≤ 7) → ts.length ≤ 2 → ∃ x4 x5, forI (frun glo (callN glo tab02 (n + 9)) (.many [4, 5]) body24) (ts.map termV).reverse (loc24 (polV ts fb) (.tup (encs lt)) f (some (.tup (encs (whole own peer lt fb [])))) none none) H =
      some (.next, loc24 (polV ts fb) (.tup (encs lt)) f (some (.tup (encs (whole own peer lt fb ts)))) x4 x5, H) := fun ts => by
    generalize polV ts fb = A
    induction ts with
    | nil => exact fun _ _ => ⟨none, none, rfl⟩
    | cons t ts ih =>
      intro hw hn
      have hn : ts.length + 1 ≤ 2 := hn
      obtain ⟨x4, x5, e1⟩ := ih (fun t ht => hw t (.tail _ ht)) (by omega)
      have ht := hw t (.head _)
      have wb := whole_wt own peer lt fb 7 ts fun t ht => hw t (.tail _ ht)
      have e2 := tree_val (bh := whole own peer lt fb ts) (lt := lt) hf (wts lt + 15) (by omega) (by omega) (by omega) (n + 7) t.2 (by omega) (by omega)
      rw [List.map_cons, List.reverse_cons, forI_append, e1]
      exact ⟨_, _, thn_e (ρ := loc24 A (.tup (encs lt)) f (some (.tup (encs (whole own peer lt fb (t :: ts))))) (some (.str t.1)) (some (.tup (encs t.2)))) (H := H) (dxs (dx_asg (dv_call (dvs4 rfl rfl rfl rfl) e2) rfl) dxs_nil)⟩
  obtain ⟨x4, x5, e2⟩ := loop ts hw hn
  have s1 : ex glo (callN glo tab02 (n + 9)) (.asg (.one 3) (.ite (.cmp .Eq (.sub (.var 0) (.c (.int 1))) (.tup (.cons (.c (.str 128026086171489)) .nil))) (.var 1) (.tup (.cons (.tup (.cons (.c (.str 127970252055922)) .nil)) .nil)))) (loc24 (polV ts fb) (.tup (encs lt)) f none none none) H = some (.next, loc24 (polV ts fb) (.tup (encs lt)) f (some (.tup (encs (whole own peer lt fb [])))) none none, H) := by
    cases fb with
    | true => exact dx_asg (dv_ite (dv_cmp rfl rfl rfl) rfl) rfl
    | false => exact dx_asg (dv_ite' (dv_cmp rfl rfl rfl) rfl) rfl
  have e1 : exs glo (callN glo tab02 (n + 9)) p_24.body (loc24 (polV ts fb) (.tup (encs lt)) f none none none) H = some (.ret (.tup (encs (whole own peer lt fb ts))), loc24 (polV ts fb) (.tup (encs lt)) f (some (.tup (encs (whole own peer lt fb ts)))) x4 x5, H) :=
    dxs s1 (dxs (dx_for_tup (H1 := H) rfl e2) (dxs_ret rfl))
  exact d_call rfl rfl rfl e1
end
end Mine.Pl
/-! R10 -/
namespace Mine.Pl
section
variable {G : GTab} {F : Calls} {ρ ρ' : Loc} {H H1 H2 H3 : AH}
theorem dx_asgm {ts : PTs} {e : PE} {vs : List V} (h : ev G F e ρ H = some (.tup vs, H1)) (ha : asgT G F ts vs ρ H1 = some (ρ', H2)) : ex G F (.asgm ts e) ρ H = some (.next, ρ', H2) :=
  show bnd (ev G F e ρ H) (fun v H1 => caT v (fun vs => bnd (asgT G F ts vs ρ H1) fun ρ' H2 => some (Fl.next, ρ', H2)) none) = _ from (bnd_e h).trans (show bnd (asgT G F ts vs ρ H1) (fun ρ' H2 => some (Fl.next, ρ', H2)) = _ from bnd_e ha)
theorem asgT_sub {a i : PE} {r : PTs} {x y v : V} {vs : List V} {q : Option (Loc × AH)} (ha : ev G F a ρ H = some (x, H)) (hi : ev G F i ρ H = some (y, H)) (hs : storeV x y v H = some H3) (hr : asgT G F r vs ρ H3 = q) : asgT G F (.sub a i r) (v :: vs) ρ H = q :=
  show bnd (ev G F a ρ H) (fun x H1 => bnd (ev G F i ρ H1) fun y H2 => obn (storeV x y v H2) fun H3 => asgT G F r vs ρ H3) = _ from (bnd_e ha).trans ((bnd_e hi).trans ((obn_e hs).trans hr))
theorem set_last (H : AH) (a b : MO) : (H ++ [a]).set H.length b = H ++ [b] := by
  rw [List.set_append_right _ _ (Nat.le_refl _), Nat.sub_self]; rfl
theorem store_last {l : List (Key × V)} {k : Nat} {v : V} (hl : l.length ≤ 100) : storeV (.ref H.length) (.str k) v (H ++ [.dict l]) = some (H ++ [.dict (setK l (.s k) v)]) :=
  (store_dict (at_len _ _) (line_of (by omega))).trans (by rw [set_last])
end
theorem count_any (x : Int) (l : List Int) : decide ((0 : Int) < ((l.filter (· == x)).length : Nat)) = l.any (· == x) := by
  induction l with
  | nil => rfl
  | cons y r ih =>
    rw [List.filter_cons, List.any_cons]
    cases h : y == x with
    | true => rw [if_pos rfl, List.length_cons]; exact decide_eq_true (by omega)
    | false => rw [if_neg (by decide)]; exact ih
theorem count_tup {H : AH} (l : List Int) (x : Int) : methV .count (.tup (l.map .int)) [.int x] H = some (.int ((l.filter (· == x)).length : Nat), H) := obn_e (f := fun ns : List Int => some (V.int ((ns.filter (· == x)).length : Nat), H)) (intsOf_ints l)
theorem at_sub {H : AH} {j i k : Nat} {s : S} {v : V} {F : Calls} {ρ : Loc} (hj : At H j s.rt) (hi : ρ[i]? = some (some (.ref j))) (h : s.rt.get (.s k) = some v) : ev glo F (.sub (.var i) (.c (.str k))) ρ H = some (v, H) := by
  obtain ⟨l, h1, h2⟩ := hj
  exact dv_sub (dv_var hi) rfl (sub_dict h1 (by rw [h2.2]; exact h))
theorem At.nums {H : AH} {j i : Nat} {s : S} {F : Calls} {ρ : Loc} (hj : At H j s.rt) (hi : ρ[i]? = some (some (.ref j))) : ev glo F (.sub (.sub (.sub (.var i) (.c (.str 29401359423861601))) (.c (.int 0))) (.c (.int 1))) ρ H = some (.tup ((s.hd :: s.tl).map .int), H) :=
  dv_sub (x := .tup [.int 2, .tup ((s.hd :: s.tl).map .int)]) (y := .int 1) (dv_sub (x := pathV (s.hd :: s.tl)) (y := .int 0) (at_sub (k := 29401359423861601) hj hi rfl) rfl rfl) rfl rfl
noncomputable abbrev loc25 (c P : V) (j f : Nat) (x4 x5 x6 x7 : Option V) : Loc := [some c, some P, some (.ref j), some (.ref f), x4, x5, x6, x7, none, none]
noncomputable def worths (e : Dr) (s : S) : List (Key × V) := [(.s 6579565, .int (s.med.getD 0)), (.s 483552748545009705512812, .int (s.lp.getD 0)), (.s 6775156, .int (s.tag.getD 0)), (.s 1926849177878679876449, .int (s.tl.length + 1 : Nat)), (.s 8101808799099676014, .int s.nh), (.s 32476470142395760, .int e.peer), (.s 121398985585263, .int s.org)]
noncomputable def signs (x k : Int) : List (Key × V) := [(.s 61, .bool (x == k)), (.s 15649, .bool (!(x == k))), (.s 60, .bool (decide (x < k))), (.s 62, .bool (decide (k < x))), (.s 15678, .bool (decide (k ≤ x)))]
noncomputable abbrev tail25 : PSs := .cons (.asg (.one 5) (.dict (.cons (.c (.str 6579565)) (.meth .get (.var 2) (.cons (.c (.str 6579565)) (.cons (.c (.int 0)) .nil))) (.cons (.c (.str 483552748545009705512812)) (.meth .get (.var 2) (.cons (.c (.str 483552748599985286901612)) (.cons (.c (.int 0)) .nil))) (.cons (.c (.str 6775156)) (.meth .get (.var 2) (.cons (.c (.str 6775156)) (.cons (.c (.int 0)) .nil))) .nil)))))
    (.cons (.asgm (.sub (.var 5) (.c (.str 1926849177878679876449)) (.sub (.var 5) (.c (.str 8101808799099676014)) .nil)) (.tup (.cons (.fn .len (.var 4)) (.cons (.sub (.var 2) (.c (.str 8101809013848040814))) .nil))))
    (.cons (.asgm (.sub (.var 5) (.c (.str 32476470142395760)) (.sub (.var 5) (.c (.str 121398985585263)) .nil)) (.tup (.cons (.sub (.var 3) (.c (.str 32476684890760560))) (.cons (.sub (.var 2) (.c (.str 121398985585263))) .nil))))
    (.cons (.asg (.many [6, 7]) (.tup (.cons (.sub (.var 5) (.sub (.var 0) (.c (.int 1)))) (.cons (.sub (.var 0) (.c (.int 3))) .nil))))
    (.cons (.ret (.sub (.dict (.cons (.c (.str 61)) (.cmp .Eq (.var 6) (.var 7)) (.cons (.c (.str 15649)) (.cmp .NotEq (.var 6) (.var 7)) (.cons (.c (.str 60)) (.cmp .Lt (.var 6) (.var 7)) (.cons (.c (.str 62)) (.cmp .Gt (.var 6) (.var 7)) (.cons (.c (.str 15678)) (.cmp .GtE (.var 6) (.var 7)) .nil)))))) (.sub (.var 0) (.c (.int 2)))))
    .nil))))
section
variable {j f : Nat} {s : S} {e : Dr}
theorem tail_val {F : Calls} {P : V} {H : AH} (hj : At H j s.rt) (hf : FullAt H f e.own e.peer) (w o : Nat) (k x : Int) (t : Bool) (hx : getK (worths e s) (.s w) = some (.int x)) (ho : getK (signs x k) (.s o) = some (.bool t)) :
    ∃ ρ' H', exs glo F tail25 (loc25 (.tup [.str 28554735471390563, .str w, .str o, .int k]) P j f (some (.tup ((s.hd :: s.tl).map .int))) none none none) H = some (.ret (.bool t), ρ', H') ∧ Keep H H' := by
  let loc (x5 x6 x7 : Option V) : Loc := loc25 (.tup [.str 28554735471390563, .str w, .str o, .int k]) P j f (some (.tup ((s.hd :: s.tl).map .int))) x5 x6 x7
  have s1 : ex glo F (.asg (.one 5) (.dict (.cons (.c (.str 6579565)) (.meth .get (.var 2) (.cons (.c (.str 6579565)) (.cons (.c (.int 0)) .nil))) (.cons (.c (.str 483552748545009705512812)) (.meth .get (.var 2) (.cons (.c (.str 483552748599985286901612)) (.cons (.c (.int 0)) .nil))) (.cons (.c (.str 6775156)) (.meth .get (.var 2) (.cons (.c (.str 6775156)) (.cons (.c (.int 0)) .nil))) .nil))))) (loc none none none) H =
      some (.next, loc (some (.ref H.length)) none none, H ++ [.dict ((worths e s).take 3)]) :=
    dx_asg (dv_dict (dvd_cons (kk := .s 6579565) rfl (ev_get (k := 6579565) hj rfl rfl (opt_int s.med)) rfl (dvd_cons (kk := .s 483552748545009705512812) rfl (ev_get (k := 483552748599985286901612) hj rfl rfl (opt_int s.lp)) rfl (dvd_cons (kk := .s 6775156) rfl (ev_get (k := 6775156) hj rfl rfl (opt_int s.tag)) rfl dvd_nil))) (show [Key.s 6579565, .s 483552748545009705512812, .s 6775156].Nodup by decide)) rfl
  have kp : ∀ l : List (Key × V), Keep H (H ++ [.dict l]) := fun l => Keep.app H _
  have s2 : ex glo F (.asgm (.sub (.var 5) (.c (.str 1926849177878679876449)) (.sub (.var 5) (.c (.str 8101808799099676014)) .nil)) (.tup (.cons (.fn .len (.var 4)) (.cons (.sub (.var 2) (.c (.str 8101809013848040814))) .nil)))) (loc (some (.ref H.length)) none none) (H ++ [.dict ((worths e s).take 3)]) =
      some (.next, loc (some (.ref H.length)) none none, H ++ [.dict ((worths e s).take 5)]) :=
    dx_asgm (vs := [.int (s.tl.length + 1 : Nat), .int s.nh]) (dv_tup (dvs2 (dv_fn (x := .tup ((s.hd :: s.tl).map .int)) rfl (congrArg (fun n : Nat => some (V.int n, H ++ [MO.dict ((worths e s).take 3)])) (List.length_map V.int))) (at_sub (k := 8101809013848040814) (hj.keep (kp _)) rfl rfl)))
      (asgT_sub (x := .ref H.length) (y := .str 1926849177878679876449) rfl rfl (store_last (show 3 ≤ 100 by decide)) (asgT_sub (x := .ref H.length) (y := .str 8101808799099676014) rfl rfl (store_last (show 4 ≤ 100 by decide)) rfl))
  have s3 : ex glo F (.asgm (.sub (.var 5) (.c (.str 32476470142395760)) (.sub (.var 5) (.c (.str 121398985585263)) .nil)) (.tup (.cons (.sub (.var 3) (.c (.str 32476684890760560))) (.cons (.sub (.var 2) (.c (.str 121398985585263))) .nil)))) (loc (some (.ref H.length)) none none) (H ++ [.dict ((worths e s).take 5)]) =
      some (.next, loc (some (.ref H.length)) none none, H ++ [.dict (worths e s)]) :=
    dx_asgm (vs := [.int e.peer, .int s.org]) (dv_tup (dvs2 ((hf.keep (kp _)).peer_ev rfl) (at_sub (k := 121398985585263) (hj.keep (kp _)) rfl rfl)))
      (asgT_sub (x := .ref H.length) (y := .str 32476470142395760) rfl rfl (store_last (show 5 ≤ 100 by decide)) (asgT_sub (x := .ref H.length) (y := .str 121398985585263) rfl rfl (store_last (show 6 ≤ 100 by decide)) rfl))
  have s4 : ex glo F (.asg (.many [6, 7]) (.tup (.cons (.sub (.var 5) (.sub (.var 0) (.c (.int 1)))) (.cons (.sub (.var 0) (.c (.int 3))) .nil)))) (loc (some (.ref H.length)) none none) (H ++ [.dict (worths e s)]) = some (.next, loc (some (.ref H.length)) (some (.int x)) (some (.int k)), H ++ [.dict (worths e s)]) :=
    dx_asg (v := .tup [.int x, .int k]) (dv_tup (dvs2 (dv_sub (x := .ref H.length) (y := .str w) rfl rfl (sub_dict (at_len _ _) hx)) rfl)) rfl
  have e5 : ev glo F (.sub (.dict (.cons (.c (.str 61)) (.cmp .Eq (.var 6) (.var 7)) (.cons (.c (.str 15649)) (.cmp .NotEq (.var 6) (.var 7)) (.cons (.c (.str 60)) (.cmp .Lt (.var 6) (.var 7)) (.cons (.c (.str 62)) (.cmp .Gt (.var 6) (.var 7)) (.cons (.c (.str 15678)) (.cmp .GtE (.var 6) (.var 7)) .nil)))))) (.sub (.var 0) (.c (.int 2)))) (loc (some (.ref H.length)) (some (.int x)) (some (.int k))) (H ++ [.dict (worths e s)]) = some (.bool t, H ++ [.dict (worths e s)] ++ [.dict (signs x k)]) :=
    dv_sub (y := .str o) (dv_dict (l := signs x k) (dvd_cons rfl (dv_cmp (op := .Eq) (x := .int x) (y := .int k) rfl rfl rfl) rfl (dvd_cons rfl (dv_cmp (op := .NotEq) (x := .int x) (y := .int k) rfl rfl rfl) rfl (dvd_cons rfl (dv_cmp (op := .Lt) (x := .int x) (y := .int k) rfl rfl rfl) rfl (dvd_cons rfl (dv_cmp (op := .Gt) (x := .int x) (y := .int k) rfl rfl rfl) rfl (dvd_cons rfl (dv_cmp (op := .GtE) (x := .int x) (y := .int k) rfl rfl rfl) rfl dvd_nil))))) (show [Key.s 61, .s 15649, .s 60, .s 62, .s 15678].Nodup by decide)) rfl (sub_dict (at_len _ _) ho)
  exact ⟨_, _, dxs s1 (dxs s2 (dxs s3 (dxs s4 (dxs_ret e5)))), (kp _).trans (Keep.app _ _)⟩
theorem holds_val (c : Cn) : ∀ m (H : AH), c.dep < m → c.raw = true → At H j s.rt → FullAt H f e.own e.peer → ∃ H', callN glo tab02 m 25 [c.enc, e.pf.enc, .ref j, .ref f] H = some (.bool (c.holds e s), H') ∧ Keep H H' := by
  have go : ∀ (c : Cn) (n : Nat) (H : AH) (t : Bool), At H j s.rt → (∀ r, p_25.body = .cons (.asg (.one 4) (.sub (.sub (.sub (.var 2) (.c (.str 29401359423861601))) (.c (.int 0))) (.c (.int 1)))) r → ∃ ρ' H', exs glo (callN glo tab02 n) r (loc25 c.enc e.pf.enc j f (some (.tup ((s.hd :: s.tl).map .int))) none none none) H = some (.ret (.bool t), ρ', H') ∧ Keep H H') →
      ∃ H', callN glo tab02 (n + 1) 25 [c.enc, e.pf.enc, .ref j, .ref f] H = some (.bool t, H') ∧ Keep H H' := fun c n H t hj h => by
    obtain ⟨ρ', H', h1, k1⟩ := h _ rfl
    have e1 : exs glo (callN glo tab02 n) p_25.body (loc25 c.enc e.pf.enc j f none none none none) H = some (.ret (.bool t), ρ', H') := dxs (dx_asg (hj.nums rfl) rfl) h1
    exact ⟨H', d_call rfl rfl rfl e1, k1⟩
  induction c with
  | or a b iha ihb =>
    intro m H hm hr hj hf
    have hd : max a.dep b.dep + 1 < m := hm
    have hr := Bool.and_eq_true_iff.mp (show (a.raw && b.raw) = true from hr)
    obtain ⟨m, rfl⟩ : ∃ k, m = k + 1 := ⟨m - 1, by omega⟩
    obtain ⟨H1, e1, k1⟩ := iha m H (by omega) hr.1 hj hf
    obtain ⟨H2, e2, k2⟩ := ihb m H1 (by omega) hr.2 (hj.keep k1) (hf.keep k1)
    refine go (.or a b) m H _ hj fun r hr => ?_
    cases hr
    show ∃ ρ' H', _ = some (Fl.ret (.bool (a.holds e s || b.holds e s)), ρ', H') ∧ _
    cases h : a.holds e s with
    | true => rw [h] at e1; exact ⟨_, H1, hit rfl (dv_or' (dv_call (dvs4 rfl rfl rfl rfl) e1)), k1⟩
    | false => rw [h] at e1; exact ⟨_, H2, hit rfl (dv_or (dv_call (dvs4 rfl rfl rfl rfl) e1) (dv_call (dvs4 rfl rfl rfl rfl) e2)), k1.trans k2⟩
  | not a iha =>
    intro m H hm hr hj hf
    have hd : a.dep + 1 < m := hm
    obtain ⟨m, rfl⟩ : ∃ k, m = k + 1 := ⟨m - 1, by omega⟩
    obtain ⟨H1, e1, k1⟩ := iha m H (by omega) hr hj hf
    refine go (.not a) m H _ hj fun r hr => ?_
    cases hr
    exact ⟨_, H1, sk rfl (hit rfl (dv_not (dv_call (dvs4 rfl rfl rfl rfl) e1))), k1⟩
  | tru => intro m H hm hr; cases hr
  | com two =>
    intro m H hm hr hj hf
    obtain ⟨m, rfl⟩ : ∃ k, m = k + 1 := ⟨m - 1, by omega⟩
    refine go (.com two) m H _ hj fun r hr => ?_
    cases hr
    exact ⟨_, H, sk rfl (sk rfl (hit rfl (dv_cmp (op := .In) (x := .int (cond two 2 1)) (y := .tup ((comm2 s.c1 s.c2).map .int)) rfl (ev_get hj rfl rfl (get_comm s.rt)) (in_comm two s)))), Keep.refl _⟩
  | has x =>
    intro m H hm hr hj hf
    obtain ⟨m, rfl⟩ : ∃ k, m = k + 1 := ⟨m - 1, by omega⟩
    refine go (.has x) m H _ hj fun r hr => ?_
    cases hr
    exact ⟨_, H, sk rfl (sk rfl (sk rfl (hit rfl (dv_cmp (op := .Gt) (x := .int (((s.hd :: s.tl).filter (· == x)).length : Nat)) (y := .int 0) (dv_meth (m := .count) (u := ()) (x := .tup ((s.hd :: s.tl).map .int)) rfl rfl (dvs1 rfl) (count_tup _ _)) rfl (congrArg some (count_any x (s.hd :: s.tl))))))), Keep.refl _⟩
  | first x =>
    intro m H hm hr hj hf
    obtain ⟨m, rfl⟩ : ∃ k, m = k + 1 := ⟨m - 1, by omega⟩
    refine go (.first x) m H _ hj fun r hr => ?_
    cases hr
    exact ⟨_, H, sk rfl (sk rfl (sk rfl (sk rfl (hit rfl (dv_cmp (op := .Eq) (x := .int s.hd) (y := .int x) rfl rfl rfl))))), Keep.refl _⟩
  | pfx =>
    intro m H hm hr hj hf
    obtain ⟨m, rfl⟩ : ∃ k, m = k + 1 := ⟨m - 1, by omega⟩
    refine go .pfx m H _ hj fun r hr => ?_
    cases hr
    refine ⟨_, H, sk rfl (sk rfl (sk rfl (sk rfl (sk rfl (hit rfl ?_))))), Keep.refl _⟩
    show _ = some (V.bool e.pf.isin, H)
    cases e.pf with
    | lo => exact dv_and (dv_cmp (op := .Eq) (x := .int 10) (y := .int 10) (dv_bin (op := .FloorDiv) (x := .int 167772160) (y := .int 16777216) rfl rfl rfl) rfl rfl) (dv_cmp (op := .GtE) (x := .int 8) (y := .int 16) rfl rfl rfl)
    | mid => exact dv_and (dv_cmp (op := .Eq) (x := .int 10) (y := .int 10) (dv_bin (op := .FloorDiv) (x := .int 167837696) (y := .int 16777216) rfl rfl rfl) rfl rfl) (dv_cmp (op := .GtE) (x := .int 16) (y := .int 16) rfl rfl rfl)
    | hi => exact dv_and' (dv_cmp (op := .Eq) (x := .int 11) (y := .int 10) (dv_bin (op := .FloorDiv) (x := .int 184549376) (y := .int 16777216) rfl rfl rfl) rfl rfl)
  | peer k =>
    intro m H hm hr hj hf
    obtain ⟨m, rfl⟩ : ∃ k, m = k + 1 := ⟨m - 1, by omega⟩
    refine go (.peer k) m H _ hj fun r hr => ?_
    cases hr
    obtain ⟨ρ', H', e1, k1⟩ := tail_val (e := e) (F := callN glo tab02 m) (P := e.pf.enc) hj hf 32476470142395760 61 k e.peer (e.peer == k) rfl rfl
    exact ⟨ρ', H', sk rfl (sk rfl (sk rfl (sk rfl (sk rfl (sk rfl e1))))), k1⟩
  | cmp w o k =>
    intro m H hm hr hj hf
    obtain ⟨m, rfl⟩ : ∃ k, m = k + 1 := ⟨m - 1, by omega⟩
    refine go (.cmp w o k) m H _ hj fun r hr => ?_
    cases hr
    obtain ⟨ρ', H', e1, k1⟩ := tail_val (e := e) (F := callN glo tab02 m) (P := e.pf.enc) hj hf w.word o.word k (w.val s) (o.at (w.val s) k) (by cases w <;> rfl) (by cases o <;> rfl)
    exact ⟨ρ', H', sk rfl (sk rfl (sk rfl (sk rfl (sk rfl (sk rfl e1))))), k1⟩
end
end Mine.Pl
/-! R11 -/
namespace Mine.Pl
section
variable {G : GTab} {F : Calls} {ρ ρ' : Loc} {H H1 H2 : AH} {v y : V} {c e it : PE} {t : Tgt} {fr : List (Nat × Nat)} {k j : Nat} {l ys : List V}
theorem lcomp_tup_e (h1 : ev G F it ρ H = some (.tup l, H1)) (hk : compI (lrun t (frameOf k fr ρ) (ev G F c) (ev G F e)) l H1 = some (ys, H2)) : ev G F (.lcomp k fr t .plain it c e) ρ H = some (.ref H2.length, H2 ++ [.list ys]) :=
  (bnd_e (f := fun x H1 => lsrc (calm c && calm e) (lrun t (frameOf k fr ρ) (ev G F c) (ev G F e)) .plain x H1) h1).trans (show finL (compI (lrun t (frameOf k fr ρ) (ev G F c) (ev G F e)) l H1) = _ by rw [hk]; rfl)
theorem lrun_t {b : Bool} (hp : putV t v ρ = some ρ') (hc : ev G F c ρ' H = some (.bool b, H)) (he : ev G F e ρ' H = some (y, H)) : lrun t ρ (ev G F c) (ev G F e) v H = some (cond b (some y) none, H) := by
  refine (obn_e (f := fun ρ' => bnd (ev G F c ρ' H) fun b H2 => brn b (bnd (ev G F e ρ' H2) fun y H3 => some (some y, H3)) (some (none, H2))) hp).trans ((bnd_e hc).trans ?_)
  cases b with
  | true => exact bnd_e (f := fun y H3 => some (some y, H3)) he
  | false => rfl
theorem compI_filt (run : V → AH → Option (Option V × AH)) (H : AH) (keep : Int → Bool) (ns : List Int) (h : ∀ x, run (.int x) H = some (cond (keep x) (some (.int x)) none, H)) : compI run (ns.map .int) H = some ((ns.filter keep).map .int, H) := by
  induction ns with
  | nil => rfl
  | cons x r ih =>
    refine (bnd_e (h x)).trans ((bnd_e ih).trans ?_)
    rw [List.filter_cons]
    cases keep x <;> rfl
theorem pairs_all (l : List (Key × V)) : pairsOf (l.map fun p => .tup [keyV p.1, p.2]) = some l := by
  induction l with
  | nil => rfl
  | cons p l ih => exact (obn_e (o := pairOf (.tup [keyV p.1, p.2])) (f := fun p => obn (pairsOf (l.map fun p => .tup [keyV p.1, p.2])) fun ps => some (p :: ps)) (obn_e (f := fun k => some (k, p.2)) (keyOf_keyV p.1))).trans (obn_e ih)
theorem dict_fn {l : List (Key × V)} (h : H[j]? = some (.list (l.map fun p => .tup [keyV p.1, p.2]))) (hn : (l.map (·.1)).Nodup) : fnV .dict (.ref j) H = some (.ref H.length, H ++ [.dict l]) := by
  have hf := fold_self l [] (by rw [List.nil_append]; exact hn)
  rw [List.nil_append] at hf
  exact (obn_e (f := fun l => obn (pairsOf l) fun ps => some (V.ref H.length, H ++ [MO.dict (ps.foldl (fun d p => setK d p.1 p.2) [])])) (lst_is h)).trans ((obn_e (pairs_all l)).trans (by rw [hf]))
/-- a copy -/
theorem copy_val {i : Nat} {l : List (Key × V)} (hi : ev G F (.var i) ρ H = some (.ref j, H)) (hj : H[j]? = some (.dict l)) (hn : (l.map (·.1)).Nodup) : ∃ H', ev G F (.fn .dict (.fn .items (.var i))) ρ H = some (.ref (H.length + 1), H') ∧ Keep H H' ∧ H'[H.length + 1]? = some (.dict l) := by
  have e1 : fnV .items (.ref j) H = some (.ref H.length, H ++ [.list (l.map fun p => .tup [keyV p.1, p.2])]) := obn_e (f := fun l : List (Key × V) => some (V.ref H.length, H ++ [MO.list (l.map fun p => .tup [keyV p.1, p.2])])) (dct_is hj)
  have e2 := dict_fn (at_len H (MO.list (l.map fun p => .tup [keyV p.1, p.2]))) hn
  refine ⟨_, (dv_fn (dv_fn hi e1) e2).trans (by rw [List.length_append]; rfl), (Keep.app H _).trans (Keep.app _ _), ?_⟩
  have := at_len (H ++ [MO.list (l.map fun p => .tup [keyV p.1, p.2])]) (MO.dict l)
  rw [List.length_append] at this
  exact this
theorem pop1_dict {l : List (Key × V)} {k : Nat} {v : V} (h : H[j]? = some (.dict l)) (g : getK l (.s k) = some v) : methV .pop1 (.ref j) [.str k] H = some (v, H.set j (.dict (delK l (.s k)))) :=
  (obn_e (f := fun l => obn (getK l (.s k)) fun v => some (v, H.set j (.dict (delK l (.s k))))) (dct_is h)).trans (obn_e g)
theorem eq_nil {a b : Nat} {l : List V} (ha : H[a]? = some (.list l)) (hb : H[b]? = some (.list [])) : cmpV .Eq (.ref a) (.ref b) H = some l.isEmpty := ne_nil ha hb
end
theorem get_commR (r : Rt) (c : List Int) (k : Key) : ({ r with comm := c } : Rt).get k = if k = kComm then (if c = [] then none else some (.tup (c.map .int))) else r.get k := by
  by_cases e : k = kComm
  · subst e; simp [Rt.get]
  · simp only [Rt.get, if_neg e] <;> rfl
section
variable {H : AH} {j f : Nat} {s : S} {own peer : Int}
noncomputable abbrev loc26 (o : V) (j f i : Nat) (x4 x5 x6 : Option V) : Loc := [some o, some (.ref j), some (.ref f), some (.ref i), x4, x5, x6, none, none, none]
noncomputable abbrev addE : PE := .lcomp 4 [(2, 5), (3, 0)] (.one 1) .plain (.tup (.cons (.c (.int 1)) (.cons (.c (.int 2)) .nil))) (.or (.cmp .In (.var 1) (.var 2)) (.cmp .Eq (.var 1) (.sub (.var 3) (.c (.int 1))))) (.var 1)
noncomputable abbrev dropE : PE := .lcomp 3 [(2, 0)] (.one 1) .plain (.var 5) (.and (.cmp .Eq (.sub (.var 2) (.c (.int 0))) (.c (.str 1886351972))) (.cmp .NotEq (.var 1) (.sub (.var 2) (.c (.int 1))))) (.var 1)
noncomputable abbrev rest26 : PSs := .cons (.asg (.one 5) (.meth .get (.var 1) (.cons (.c (.str 139505373566937160341090147)) (.cons (.tup .nil) .nil))))
    (.cons (.ite (.cmp .Eq (.sub (.var 0) (.c (.int 0))) (.c (.str 6579297))) (.cons (.asg (.one 6) addE) .nil) (.cons (.asg (.one 6) dropE) .nil))
    (.cons (.asub (.var 3) (.c (.str 139505373566937160341090147)) (.fn .tuple (.var 6)))
    (.cons (.ite (.cmp .Eq (.var 6) (.list .nil)) (.cons (.expr (.meth .pop1 (.var 3) (.cons (.c (.str 139505373566937160341090147)) .nil)))
    .nil) .nil)
    (.cons (.ret (.var 3))
    .nil))))
/-- the communities anew -/
theorem comm_new {F : Calls} {o : V} {i : Nat} {l : List (Key × V)} {ns : List Int} {H0 : AH} (h0 : Keep H0 H) (hi0 : H0.length ≤ i) (hj : At H j s.rt) (hi : H[i]? = some (.dict l)) (hl : DictOf l s.rt)
    (h6 : ex glo F (.ite (.cmp .Eq (.sub (.var 0) (.c (.int 0))) (.c (.str 6579297))) (.cons (.asg (.one 6) addE) .nil) (.cons (.asg (.one 6) dropE) .nil)) (loc26 o j f i none (some (.tup ((comm2 s.c1 s.c2).map .int))) none) H = some (.next, loc26 o j f i none (some (.tup ((comm2 s.c1 s.c2).map .int))) (some (.ref H.length)), H ++ [.list (ns.map .int)])) :
    ∃ ρ' H', exs glo F rest26 (loc26 o j f i none none none) H = some (.ret (.ref i), ρ', H') ∧ Keep H0 H' ∧ At H' i { s.rt with comm := ns } := by
  have k1 : Keep H (H ++ [.list (ns.map .int)]) := Keep.app _ _
  have hlen : l.length + 1 ≤ lineN := line_of (Nat.le_trans (Nat.succ_le_succ hl.seven) (by decide))
  have hi1 := k1 _ _ hi
  let l2 := setK l kComm (.tup (ns.map .int))
  let H2 : AH := (H ++ [MO.list (ns.map .int)]).set i (.dict l2)
  have k2 : Keep H0 H2 := Keep.set (h0.trans k1) hi0 _
  have hi2 : H2[i]? = some (.dict l2) := List.getElem?_set_self (some_lt hi1)
  have ne : i ≠ H.length := Nat.ne_of_lt (some_lt hi)
  have h6' : H2[H.length]? = some (.list (ns.map .int)) := by
    show ((H ++ [MO.list (ns.map .int)]).set i _)[H.length]? = _
    rw [List.getElem?_set_ne ne]
    exact at_len _ _
  let ρ1 : Loc := loc26 o j f i none (some (.tup ((comm2 s.c1 s.c2).map .int))) (some (.ref H.length))
  have s5 : ex glo F (.asg (.one 5) (.meth .get (.var 1) (.cons (.c (.str 139505373566937160341090147)) (.cons (.tup .nil) .nil)))) (loc26 o j f i none none none) H = some (.next, loc26 o j f i none (some (.tup ((comm2 s.c1 s.c2).map .int))) none, H) := dx_asg (ev_get hj rfl rfl (get_comm s.rt)) rfl
  have s7 : ex glo F (.asub (.var 3) (.c (.str 139505373566937160341090147)) (.fn .tuple (.var 6))) ρ1 (H ++ [.list (ns.map .int)]) = some (.next, ρ1, H2) := dx_asub (x := .ref i) (y := .str 139505373566937160341090147) (dv_fn (x := .ref H.length) rfl (tuple_fn (at_len _ _))) rfl rfl (store_dict hi1 hlen)
  have kp : Keep H2 (H2 ++ [.list []]) := Keep.app _ _
  have c8 : ev glo F (.cmp .Eq (.var 6) (.list .nil)) ρ1 H2 = some (.bool (ns.map V.int).isEmpty, H2 ++ [.list []]) := dv_cmp (op := .Eq) (x := .ref H.length) (y := .ref H2.length) rfl (dv_list dvs_nil) (eq_nil (kp _ _ h6') (at_len _ _))
  have g2 : ∀ k, getK l2 k = if k = kComm then some (.tup (ns.map .int)) else s.rt.get k := fun k => by rw [getK_setK, hl.2]
  cases ns with
  | nil =>
    refine ⟨ρ1, (H2 ++ [MO.list []]).set i (.dict (delK l2 kComm)), dxs s5 (dxs h6 (dxs s7 (dxs (dx_ite true c8 (dxs (dx_expr (dv_meth (m := .pop1) (u := ()) (x := .ref i) rfl (rec_dict (kp _ _ hi2)) (dvs1 rfl) (pop1_dict (v := .tup []) (kp _ _ hi2) (g2 _)))) dxs_nil)) (dxs_ret rfl)))),
      Keep.set (k2.trans kp) hi0 _, _, List.getElem?_set_self (some_lt (kp _ _ hi2)), nodup_filter (nodup_setK hl.1 _ _) _, fun k => ?_⟩
    rw [get_commR]
    refine (getK_filter (fun k => decide (k ≠ kComm)) k l2).trans ?_
    rw [g2]
    by_cases h : k = kComm
    · rw [if_neg (by simpa using h), if_pos h, if_pos rfl]
    · rw [if_pos (by simpa using h), if_neg h, if_neg h]
  | cons x r =>
    refine ⟨ρ1, H2 ++ [.list []], dxs s5 (dxs h6 (dxs s7 (dxs (dx_ite false c8 dxs_nil) (dxs_ret rfl)))), k2.trans kp, _, kp _ _ hi2, nodup_setK hl.1 _ _, fun k => ?_⟩
    rw [get_commR, g2, if_neg (show ¬ (x :: r = []) from fun q => nomatch q)]
theorem add_eq : ∀ a b two : Bool, [1, 2].filter (fun x : Int => (comm2 a b).any (· == x) || x == cond two 2 1) = comm2 (cond two a true) (cond two true b) := by decide
theorem drop_eq : ∀ a b two : Bool, (comm2 a b).filter (fun x : Int => !(x == cond two 2 1)) = comm2 (cond two a false) (cond two false b) := by decide
theorem filter_none (l : List Int) : l.filter (fun _ => false) = [] := List.filter_eq_nil_iff.mpr fun _ _ h => nomatch h
theorem turned_val (n : Nat) (d : De) (hp : s.tl.length ≤ 300) (hj : At H j s.rt) (hf : FullAt H f own peer) : ∃ H' i, callN glo tab02 (n + 1) 26 [d.dd.enc, .ref j, .ref f] H = some (.ref i, H') ∧ Keep H H' ∧ At H' i (d.step own s).rt := by
  obtain ⟨l, hjl, hl⟩ := hj
  obtain ⟨H1, ec, k1, hi⟩ := copy_val (G := glo) (F := callN glo tab02 n) (ρ := [some d.dd.enc, some (.ref j), some (.ref f), none, none, none, none, none, none, none]) (i := 1) rfl hjl hl.1
  have hj1 : At H1 j s.rt := ⟨l, k1 _ _ hjl, hl⟩
  have hf1 := hf.keep k1
  have far : H.length ≤ H.length + 1 := Nat.le_succ _
  have hlen : l.length + 1 ≤ lineN := line_of (Nat.le_trans (Nat.succ_le_succ hl.seven) (by decide))
  have fin : ∀ {s' : S} {ρ' : Loc} {H' : AH}, (∀ r, p_26.body = .cons (.asg (.one 3) (.fn .dict (.fn .items (.var 1)))) r → exs glo (callN glo tab02 n) r (loc26 d.dd.enc j f (H.length + 1) none none none) H1 = some (.ret (.ref (H.length + 1)), ρ', H')) → Keep H H' → At H' (H.length + 1) s'.rt →
      ∃ H' i, callN glo tab02 (n + 1) 26 [d.dd.enc, .ref j, .ref f] H = some (.ref i, H') ∧ Keep H H' ∧ At H' i s'.rt := fun {s' ρ' H'} h k a => by
    have e1 : exs glo (callN glo tab02 n) p_26.body [some d.dd.enc, some (.ref j), some (.ref f), none, none, none, none, none, none, none] H = some (.ret (.ref (H.length + 1)), ρ', H') := dxs (dx_asg ec rfl) (h _ rfl)
    exact ⟨H', H.length + 1, d_call rfl rfl rfl e1, k, a⟩
  have hset : ∀ (wd fk : Nat) (sv : V) (v : Int) (s' : S), d.dd.enc = .tup [.str 7628147, .str wd, sv] → (getK [(.s 483552748545009705512812, .str 483552748599985286901612), (.s 8101808799099676014, .str 8101809013848040814)] (.s wd)).getD (.str wd) = .str fk →
      (∀ (F : Calls) (x4 x5 x6 : Option V) (H2 : AH), FullAt H2 f own peer → ev glo F (.ite (.cmp .Eq (.sub (.var 0) (.c (.int 2))) (.c (.str 1718379891))) (.sub (.var 2) (.c (.str 139571412765187396326029167))) (.sub (.var 0) (.c (.int 2)))) (loc26 (.tup [.str 7628147, .str wd, sv]) j f (H.length + 1) x4 x5 x6) H2 = some (.int v, H2)) →
      (∀ k', s'.rt.get k' = if k' = .s fk then some (.int v) else s.rt.get k') → ∃ H' i, callN glo tab02 (n + 1) 26 [d.dd.enc, .ref j, .ref f] H = some (.ref i, H') ∧ Keep H H' ∧ At H' i s'.rt := fun wd fk sv v s' hd hg hv hr => by
    let nm : List (Key × V) := [(.s 483552748545009705512812, .str 483552748599985286901612), (.s 8101808799099676014, .str 8101809013848040814)]
    have kp : Keep H1 (H1 ++ [.dict nm]) := Keep.app _ _
    refine fin (s' := s') (ρ' := loc26 d.dd.enc j f (H.length + 1) (some (.str fk)) none none) (H' := (H1 ++ [MO.dict nm]).set (H.length + 1) (.dict (setK l (.s fk) (.int v)))) (fun r hb => ?_) (Keep.set (k1.trans kp) far _) ⟨_, List.getElem?_set_self (some_lt (kp _ _ hi)), nodup_setK hl.1 _ _, fun k => by rw [getK_setK, hl.2, hr]⟩
    cases hb
    rw [hd]
    have s4 : ex glo (callN glo tab02 n) (.asg (.one 4) (.meth .get (.dict (.cons (.c (.str 483552748545009705512812)) (.c (.str 483552748599985286901612)) (.cons (.c (.str 8101808799099676014)) (.c (.str 8101809013848040814)) .nil))) (.cons (.sub (.var 0) (.c (.int 1))) (.cons (.sub (.var 0) (.c (.int 1))) .nil)))) (loc26 (.tup [.str 7628147, .str wd, sv]) j f (H.length + 1) none none none) H1 =
        some (.next, loc26 (.tup [.str 7628147, .str wd, sv]) j f (H.length + 1) (some (.str fk)) none none, H1 ++ [.dict nm]) :=
      dx_asg (dv_meth (m := .get) (x := .ref H1.length) (dv_dict (l := nm) (dvd_cons rfl rfl rfl (dvd_cons rfl rfl rfl dvd_nil)) (show [Key.s 483552748545009705512812, .s 8101808799099676014].Nodup by decide)) (rec_dict (at_len _ _)) (dvs2 rfl rfl) (get_dict (at_len _ _) hg)) rfl
    exact dxs_ite_ret rfl (dxs s4 (dxs (dx_asub (x := .ref (H.length + 1)) (y := .str fk) (hv _ _ _ _ _ (hf1.keep kp)) rfl rfl (store_dict (kp _ _ hi) hlen)) (dxs_ret rfl)))
  have hcom : ∀ (ns : List Int) (w : Nat) (rest : List V), d.dd.enc = .tup (.str w :: rest) → (w == 7628147) = false → (w == 28268879627514480) = false →
      ex glo (callN glo tab02 n) (.ite (.cmp .Eq (.sub (.var 0) (.c (.int 0))) (.c (.str 6579297))) (.cons (.asg (.one 6) addE) .nil) (.cons (.asg (.one 6) dropE) .nil)) (loc26 (.tup (.str w :: rest)) j f (H.length + 1) none (some (.tup ((comm2 s.c1 s.c2).map .int))) none) H1 = some (.next, loc26 (.tup (.str w :: rest)) j f (H.length + 1) none (some (.tup ((comm2 s.c1 s.c2).map .int))) (some (.ref H1.length)), H1 ++ [.list (ns.map .int)]) →
      ∀ s' : S, s'.rt = { s.rt with comm := ns } → ∃ H' i, callN glo tab02 (n + 1) 26 [d.dd.enc, .ref j, .ref f] H = some (.ref i, H') ∧ Keep H H' ∧ At H' i s'.rt := fun ns w rest hd w1 w2 h6 s' hs' => by
    obtain ⟨ρ', H', e1, kk, aa⟩ := comm_new (F := callN glo tab02 n) (o := .tup (.str w :: rest)) k1 far hj1 hi hl h6
    refine fin (s' := s') (ρ' := ρ') (fun r hb => ?_) kk (hs' ▸ aa)
    cases hb
    rw [hd]
    exact sk (dv_cmp (op := .Eq) (x := .str w) (y := .str 7628147) rfl rfl (congrArg some w1)) (sk (dv_cmp (op := .Eq) (x := .str w) (y := .str 28268879627514480) rfl rfl (congrArg some w2)) e1)
  cases d with
  | set fd v =>
    have gp := get_put s.rt v fd
    cases fd <;> exact hset _ _ (.int v) v _ rfl rfl (fun F x4 x5 x6 H2 _ => dv_ite' rfl rfl) gp
  | self => exact hset _ _ (.str 1718379891) own _ rfl rfl (fun F x4 x5 x6 H2 hf2 => dv_ite rfl (hf2.own_ev rfl)) (get_put s.rt own .nh)
  | clear =>
    refine hcom [] 491260308579 [] rfl rfl rfl (dx_ite false rfl (dxs (dx_asg (lcomp_tup_e rfl ?_) rfl) dxs_nil)) _ rfl
    have := compI_filt (lrun (.one 1) [none, none, some (.tup [.str 491260308579])] (ev glo (callN glo tab02 n) (.and (.cmp .Eq (.sub (.var 2) (.c (.int 0))) (.c (.str 1886351972))) (.cmp .NotEq (.var 1) (.sub (.var 2) (.c (.int 1)))))) (ev glo (callN glo tab02 n) (.var 1))) H1 (fun _ => false) (comm2 s.c1 s.c2) fun x => lrun_t (b := false) rfl (dv_and' rfl) rfl
    rw [filter_none] at this
    exact this
  | com two v =>
    cases v with
    | true =>
      refine hcom (comm2 (cond two s.c1 true) (cond two true s.c2)) 6579297 [.int (cond two 2 1)] rfl rfl rfl (dx_ite true rfl (dxs (dx_asg (lcomp_tup_e (l := [1, 2].map .int) rfl ?_) rfl) dxs_nil)) _ (by cases two <;> rfl)
      rw [← add_eq s.c1 s.c2 two]
      exact compI_filt _ H1 _ [1, 2] fun x => lrun_t (ρ' := [none, some (.int x), some (.tup ((comm2 s.c1 s.c2).map .int)), some (.tup [.str 6579297, .int (cond two 2 1)])]) rfl (dv_orB (dv_cmp (op := .In) (x := .int x) (y := .tup ((comm2 s.c1 s.c2).map .int)) rfl rfl (inV_ints x _)) (dv_cmp (op := .Eq) (x := .int x) (y := .int (cond two 2 1)) rfl rfl rfl)) rfl
    | false =>
      refine hcom (comm2 (cond two s.c1 false) (cond two false s.c2)) 1886351972 [.int (cond two 2 1)] rfl rfl rfl (dx_ite false rfl (dxs (dx_asg (lcomp_tup_e rfl ?_) rfl) dxs_nil)) _ (by cases two <;> rfl)
      rw [← drop_eq s.c1 s.c2 two]
      exact compI_filt _ H1 _ (comm2 s.c1 s.c2) fun x => lrun_t (ρ' := [none, some (.int x), some (.tup [.str 1886351972, .int (cond two 2 1)])]) rfl (dv_and rfl (dv_cmp (op := .NotEq) (x := .int x) (y := .int (cond two 2 1)) rfl rfl rfl)) rfl
  | prep x two =>
    have hb : (s.hd :: s.tl).map V.int = ((s.hd :: s.tl).map V.int) ∧ ((s.hd :: s.tl).map V.int).length ≤ 301 := ⟨rfl, by rw [List.length_map]; exact Nat.succ_le_succ hp⟩
    have num : ev glo (callN glo tab02 n) (.bin .Add (.bin .Mult (.tup (.cons (.sub (.var 0) (.c (.int 1))) .nil)) (.sub (.var 0) (.c (.int 2)))) (.sub (.sub (.sub (.var 1) (.c (.str 29401359423861601))) (.c (.int 0))) (.c (.int 1)))) (loc26 (De.prep x two).dd.enc j f (H.length + 1) none none none) H1 = some (.tup ((((De.prep x two).step own s).hd :: ((De.prep x two).step own s).tl).map .int), H1) := by
      cases two with
      | false => exact dv_bin (op := .Add) (x := .tup [.int x]) (y := .tup ((s.hd :: s.tl).map .int)) (dv_bin (op := .Mult) (x := .tup [.int x]) (y := .int 1) rfl rfl rfl) (hj1.nums rfl) (bin_tup (line_of (Nat.le_trans (Nat.add_le_add_left hb.2 1) (by decide))))
      | true => exact dv_bin (op := .Add) (x := .tup [.int x, .int x]) (y := .tup ((s.hd :: s.tl).map .int)) (dv_bin (op := .Mult) (x := .tup [.int x]) (y := .int 2) rfl rfl rfl) (hj1.nums rfl) (bin_tup (line_of (Nat.le_trans (Nat.add_le_add_left hb.2 2) (by decide))))
    refine fin (s' := (De.prep x two).step own s) (ρ' := loc26 (De.prep x two).dd.enc j f (H.length + 1) none none none) (H' := H1.set (H.length + 1) (.dict (setK l kPath (pathV (((De.prep x two).step own s).hd :: ((De.prep x two).step own s).tl))))) (fun r hb => ?_) (Keep.set k1 far _) ⟨_, List.getElem?_set_self (some_lt hi), nodup_setK hl.1 _ _, fun k => ?_⟩
    · cases hb
      exact sk rfl (dxs_ite_ret rfl (dxs (dx_asub (x := .ref (H.length + 1)) (y := .str 29401359423861601) (dv_tup (dvs1 (dv_tup (dvs2 rfl num)))) rfl rfl (store_dict hi hlen)) (dxs_ret rfl)))
    · rw [getK_setK, hl.2]
      exact (get_path s.rt (some (((De.prep x two).step own s).hd :: ((De.prep x two).step own s).tl)) k).symm
end
end Mine.Pl
/-! R12 -/
namespace Mine.Pl
noncomputable abbrev loc27 (A P : V) (j f : Nat) (x4 x5 x6 x7 x8 : Option V) : Loc := [some A, some P, some (.ref j), some (.ref f), x4, x5, x6, x7, x8, none, none, none]
noncomputable abbrev testE : PE := .and (.cmp .NotEq (.var 7) (.list .nil)) (.cmp .Eq (.var 4) (.c (.str 0)))
noncomputable abbrev ifW : PE := .cmp .Eq (.sub (.var 8) (.c (.int 0))) (.c (.str 26217))
noncomputable abbrev endW : PE := .cmp .In (.sub (.var 8) (.c (.int 0))) (.tup (.cons (.c (.str 128026086171489)) (.cons (.c (.str 127970252055922)) (.cons (.c (.str 1954047342)) .nil))))
noncomputable abbrev leftW : PS := .asg (.one 7) (.bin .Add (.fn .list (.ite (.call 25 (.cons (.sub (.var 8) (.c (.int 1))) (.cons (.var 1) (.cons (.var 2) (.cons (.var 3) .nil))))) (.sub (.var 8) (.c (.int 2))) (.sub (.var 8) (.c (.int 3))))) (.var 7))
noncomputable abbrev bodyW : PSs := .cons (.asg (.one 8) (.meth .pop0 (.var 7) (.cons (.c (.int 0)) .nil)))
    (.cons (.ite ifW (.cons leftW .nil) (.cons (.ite endW (.cons (.asg (.one 4) (.sub (.var 8) (.c (.int 0)))) .nil) (.cons (.asg (.one 2) (.call 26 (.cons (.var 8) (.cons (.var 2) (.cons (.var 3) .nil))))) .nil)) .nil))
    .nil)
noncomputable def wordO (o : Option En) : Nat := caO o 0 En.word
theorem pop0_list {H : AH} {j : Nat} {v : V} {l : List V} (h : H[j]? = some (.list (v :: l))) : methV .pop0 (.ref j) [.int 0] H = some (v, H.set j (.list l)) := obn_e (f := fun l : List V => as1 [V.int 0] fun k => onInt k fun k => gua (decide (k = 0)) (caC l none fun v r => some (v, H.set j (.list r)))) (lst_is h)
theorem rec_pop0 {H : AH} {j : Nat} {l : List V} (h : H[j]? = some (.list l)) : recOk .pop0 (.ref j) H = some () := obn_e (f := fun _ => some ()) (lst_is h)
section
variable {f : Nat} {e : Dr} {A : V} {x5 x6 : Option V}
theorem test_val {F : Calls} {P : V} {j lf w : Nat} {l : List V} {x8 : Option V} {H : AH} (hl : H[lf]? = some (.list l)) : ev glo F testE (loc27 A P j f (some (.str w)) x5 x6 (some (.ref lf)) x8) H = some (.bool (!l.isEmpty && (w == 0)), H ++ [.list []]) := by
  have e1 : ev glo F (.cmp .NotEq (.var 7) (.list .nil)) (loc27 A P j f (some (.str w)) x5 x6 (some (.ref lf)) x8) H = some (.bool (!l.isEmpty), H ++ [.list []]) := dv_cmp (op := .NotEq) (x := .ref lf) (y := .ref H.length) rfl (dv_list dvs_nil) (ne_cmp (ne_nil ((Keep.app H _) _ _ hl) (at_len _ _)))
  cases h : !l.isEmpty with
  | false => rw [h] at e1; exact dv_and' e1
  | true => rw [h] at e1; exact dv_and e1 (dv_cmp (op := .Eq) (x := .str w) (y := .str 0) rfl rfl rfl)
/-- the loop is done -/
theorem while_end {F : Calls} {P : V} {j lf w n : Nat} {l : List V} {x8 : Option V} {H : AH} (hl : H[lf]? = some (.list l)) (h : (!l.isEmpty && (w == 0)) = false) :
    whileN (fun ρ H => ev glo F testE ρ H) (fun ρ H => exs glo F bodyW ρ H) (n + 1) (loc27 A P j f (some (.str w)) x5 x6 (some (.ref lf)) x8) H = some (.next, loc27 A P j f (some (.str w)) x5 x6 (some (.ref lf)) x8, H ++ [.list []]) := by
  have e1 := test_val (A := A) (P := P) (j := j) (f := f) (x5 := x5) (x6 := x6) (x8 := x8) (w := w) (F := F) hl
  rw [h] at e1
  exact bnd_e (f := fun v H1 => brn v (thn (exs glo F bodyW _ H1) (whileN (fun ρ H => ev glo F testE ρ H) (fun ρ H => exs glo F bodyW ρ H) n)) (some (Fl.next, _, H1))) e1
theorem while_go {F : Calls} {P : V} {j lf n : Nat} {v : V} {l : List V} {x8 : Option V} {H H' : AH} {ρ' : Loc} {r : Option (Fl × Loc × AH)} (hl : H[lf]? = some (.list (v :: l))) (hb : exs glo F bodyW (loc27 A P j f (some (.str 0)) x5 x6 (some (.ref lf)) x8) (H ++ [.list []]) = some (.next, ρ', H'))
    (h' : whileN (fun ρ H => ev glo F testE ρ H) (fun ρ H => exs glo F bodyW ρ H) n ρ' H' = r) : whileN (fun ρ H => ev glo F testE ρ H) (fun ρ H => exs glo F bodyW ρ H) (n + 1) (loc27 A P j f (some (.str 0)) x5 x6 (some (.ref lf)) x8) H = r :=
  (bnd_e (f := fun v H1 => brn v (thn (exs glo F bodyW _ H1) (whileN (fun ρ H => ev glo F testE ρ H) (fun ρ H => exs glo F bodyW ρ H) n)) (some (Fl.next, _, H1))) (test_val (w := 0) hl)).trans ((thn_e hb).trans h')
theorem word_in (d : De) : ∃ w rest, d.dd.enc = .tup (.str w :: rest) ∧ (w == 26217) = false ∧ inV (.str w) [.str 128026086171489, .str 127970252055922, .str 1954047342] = some false := by
  cases d with
  | com two v => cases v <;> exact ⟨_, _, rfl, rfl, rfl⟩
  | _ => exact ⟨_, _, rfl, rfl, rfl⟩
theorem while_val (m : Nat) (n : Nat) : ∀ (l : List St), wts l ≤ n → raws l = true → ∀ (k : Nat) (j lf : Nat) (s : S) (H0 H : AH) (x8 : Option V), n + 2 ≤ k → n ≤ m → s.tl.length + 2 * wts l ≤ 300 → Keep H0 H → H0.length ≤ lf → H[lf]? = some (.list (encs l)) → At H j s.rt → FullAt H f e.own e.peer →
    ∃ H' j' lf' y8, whileN (fun ρ H => ev glo (callN glo tab02 (m + 1)) testE ρ H) (fun ρ H => exs glo (callN glo tab02 (m + 1)) bodyW ρ H) k (loc27 A e.pf.enc j f (some (.str 0)) x5 x6 (some (.ref lf)) x8) H = some (.next, loc27 A e.pf.enc j' f (some (.str (wordO (runs e l s).1))) x5 x6 (some (.ref lf')) y8, H') ∧ Keep H0 H' ∧ At H' j' (runs e l s).2.rt := by
  induction n with
  | zero =>
    intro l hw _ k j lf s H0 H x8 hk _ _ k0 _ hl hj _
    obtain ⟨k, rfl⟩ : ∃ i, k = i + 1 := ⟨k - 1, by omega⟩
    have : l = [] := List.length_eq_zero_iff.mp (Nat.le_zero.mp (Nat.le_trans (len_wts l) hw))
    subst this
    exact ⟨_, j, lf, x8, while_end hl rfl, k0.trans (Keep.app _ _), hj.keep (Keep.app _ _)⟩
  | succ n ih =>
    intro l hw hr k j lf s H0 H x8 hk hm hp k0 far hl hj hf
    obtain ⟨k, rfl⟩ : ∃ i, k = i + 1 := ⟨k - 1, by omega⟩
    cases l with
    | nil => exact ⟨_, j, lf, x8, while_end hl rfl, k0.trans (Keep.app _ _), hj.keep (Keep.app _ _)⟩
    | cons x r =>
      have hw : x.wt + wts r ≤ n + 1 := hw
      have hp : s.tl.length + 2 * (x.wt + wts r) ≤ 300 := hp
      have hr := Bool.and_eq_true_iff.mp (show (x.raw && raws r) = true from hr)
      let H1 : AH := H ++ [MO.list []]
      have k1 : Keep H H1 := Keep.app _ _
      have hl1 : H1[lf]? = some (.list (x.enc :: encs r)) := k1 _ _ hl
      let H2 : AH := H1.set lf (.list (encs r))
      have k2 : Keep H0 H2 := Keep.set (k0.trans k1) far _
      have hl2 : H2[lf]? = some (.list (encs r)) := List.getElem?_set_self (some_lt hl1)
      have other : ∀ {i : Nat} {d : List (Key × V)}, H[i]? = some (.dict d) → H2[i]? = some (.dict d) := fun {i d} h => by
        have ne : lf ≠ i := fun q => by rw [q] at hl; rw [hl] at h; cases h
        show (H1.set lf _)[i]? = _
        rw [List.getElem?_set_ne ne]
        exact k1 _ _ h
      have hj2 : At H2 j s.rt := by
        obtain ⟨d, a, b⟩ := hj
        exact ⟨d, other a, b⟩
      have hf2 : FullAt H2 f e.own e.peer := by
        obtain ⟨d, a, b⟩ := hf
        exact ⟨d, other a, b⟩
      have s1 : ex glo (callN glo tab02 (m + 1)) (.asg (.one 8) (.meth .pop0 (.var 7) (.cons (.c (.int 0)) .nil))) (loc27 A e.pf.enc j f (some (.str 0)) x5 x6 (some (.ref lf)) x8) H1 = some (.next, loc27 A e.pf.enc j f (some (.str 0)) x5 x6 (some (.ref lf)) (some x.enc), H2) :=
        dx_asg (dv_meth (m := .pop0) (u := ()) (x := .ref lf) rfl (rec_pop0 hl1) (dvs1 rfl) (pop0_list hl1)) rfl
      cases x with
      | fin z =>
        obtain ⟨k, rfl⟩ : ∃ i, k = i + 1 := ⟨k - 1, by omega⟩
        have b1 : exs glo (callN glo tab02 (m + 1)) bodyW (loc27 A e.pf.enc j f (some (.str 0)) x5 x6 (some (.ref lf)) x8) H1 = some (.next, loc27 A e.pf.enc j f (some (.str z.word)) x5 x6 (some (.ref lf)) (some (St.fin z).enc), H2) :=
          dxs s1 (dxs (dx_ite false (by cases z <;> rfl) (dxs (dx_ite true (by cases z <;> rfl) (dxs (dx_asg (v := .str z.word) rfl rfl) dxs_nil)) dxs_nil)) dxs_nil)
        exact ⟨_, j, lf, some (St.fin z).enc, while_go hl b1 (while_end hl2 (by rw [show (z.word == 0) = false by cases z <;> rfl, Bool.and_false])), k2.trans (Keep.app _ _), hj2.keep (Keep.app _ _)⟩
      | deed d =>
        obtain ⟨H3, j3, e3, k3, a3⟩ := turned_val (s := s) m d (by omega) hj2 hf2
        obtain ⟨w, rest, hd, w1, w2⟩ := word_in d
        have hsub : ev glo (callN glo tab02 (m + 1)) (.sub (.var 8) (.c (.int 0))) (loc27 A e.pf.enc j f (some (.str 0)) x5 x6 (some (.ref lf)) (some (St.deed d).enc)) H2 = some (.str w, H2) := by
          show ev glo (callN glo tab02 (m + 1)) (.sub (.var 8) (.c (.int 0))) (loc27 A e.pf.enc j f (some (.str 0)) x5 x6 (some (.ref lf)) (some d.dd.enc)) H2 = _
          rw [hd]
          exact dv_sub (x := .tup (.str w :: rest)) (y := .int 0) rfl rfl rfl
        have b1 : exs glo (callN glo tab02 (m + 1)) bodyW (loc27 A e.pf.enc j f (some (.str 0)) x5 x6 (some (.ref lf)) x8) H1 = some (.next, loc27 A e.pf.enc j3 f (some (.str 0)) x5 x6 (some (.ref lf)) (some (St.deed d).enc), H3) :=
          dxs s1 (dxs (dx_ite false (dv_cmp (op := .Eq) (x := .str w) (y := .str 26217) hsub rfl (congrArg some w1)) (dxs (dx_ite false (dv_cmp (op := .In) (x := .str w) (y := .tup [.str 128026086171489, .str 127970252055922, .str 1954047342]) hsub rfl w2) (dxs (dx_asg (dv_call (dvs3 rfl rfl rfl) e3) rfl) dxs_nil)) dxs_nil)) dxs_nil)
        have hs := step_len e.own d s
        have hp : s.tl.length + 2 * (1 + wts r) ≤ 300 := hp
        have hw : 1 + wts r ≤ n + 1 := hw
        obtain ⟨H4, j4, lf4, y8, e4, k4, a4⟩ := ih r (by omega) hr.2 k j3 lf (d.step e.own s) H0 H3 (some (St.deed d).enc) (by omega) (by omega) (by omega) (k2.trans k3) far (k3 _ _ hl2) a3 (hf2.keep k3)
        exact ⟨H4, j4, lf4, y8, while_go hl b1 e4, k4, a4⟩
      | ite c a b =>
        have hw : max c.dep (max (wts a) (wts b)) + 1 + wts r ≤ n + 1 := hw
        have hp : s.tl.length + 2 * (max c.dep (max (wts a) (wts b)) + 1 + wts r) ≤ 300 := hp
        have b1 := Nat.le_trans (Nat.le_max_left (wts a) (wts b)) (Nat.le_max_right c.dep _)
        have b2 := Nat.le_trans (Nat.le_max_right (wts a) (wts b)) (Nat.le_max_right c.dep _)
        have b3 := Nat.le_max_left c.dep (max (wts a) (wts b))
        generalize max c.dep (max (wts a) (wts b)) = M at *
        have hx := Bool.and_eq_true_iff.mp (show (c.raw && (raws a && raws b)) = true from hr.1)
        have hab := Bool.and_eq_true_iff.mp hx.2
        obtain ⟨H3, e3, k3⟩ := holds_val (e := e) (s := s) (f := f) (j := j) c (m + 1) H2 (by omega) hx.1 hj2 hf2
        -- the branch
        have pick : ∃ g : List St, g = cond (c.holds e s) a b ∧ wts g ≤ M ∧ raws g = true ∧ ev glo (callN glo tab02 (m + 1)) (.ite (.call 25 (.cons (.sub (.var 8) (.c (.int 1))) (.cons (.var 1) (.cons (.var 2) (.cons (.var 3) .nil))))) (.sub (.var 8) (.c (.int 2))) (.sub (.var 8) (.c (.int 3)))) (loc27 A e.pf.enc j f (some (.str 0)) x5 x6 (some (.ref lf)) (some (St.ite c a b).enc)) H2 = some (.tup (encs g), H3) := by
          cases h : c.holds e s with
          | true => rw [h] at e3; exact ⟨a, rfl, b1, hab.1, dv_ite (dv_call (dvs4 rfl rfl rfl rfl) e3) rfl⟩
          | false => rw [h] at e3; exact ⟨b, rfl, b2, hab.2, dv_ite' (dv_call (dvs4 rfl rfl rfl rfl) e3) rfl⟩
        obtain ⟨g, hg, wg, rg, eg⟩ := pick
        have lg := len_wts g
        have lr := len_wts r
        have wa := wts_append g r
        let H4 : AH := H3 ++ [MO.list (encs g)]
        let H5 : AH := H4 ++ [MO.list (encs (g ++ r))]
        have k35 : Keep H3 H5 := (Keep.app H3 _).trans (Keep.app H4 _)
        have el : ex glo (callN glo tab02 (m + 1)) leftW (loc27 A e.pf.enc j f (some (.str 0)) x5 x6 (some (.ref lf)) (some (St.ite c a b).enc)) H2 = some (.next, loc27 A e.pf.enc j f (some (.str 0)) x5 x6 (some (.ref H4.length)) (some (St.ite c a b).enc), H5) := by
          refine dx_asg (dv_bin (op := .Add) (x := .ref H3.length) (y := .ref lf) (dv_fn eg list_fn) rfl ?_) rfl
          have := add_lists (H := H4) (at_len H3 (.list (encs g))) ((Keep.app H3 _) _ _ (k3 _ _ hl2)) (line_of (by rw [encs_len, encs_len]; omega))
          rw [← encs_append] at this
          exact this
        have bb : exs glo (callN glo tab02 (m + 1)) bodyW (loc27 A e.pf.enc j f (some (.str 0)) x5 x6 (some (.ref lf)) x8) H1 = some (.next, loc27 A e.pf.enc j f (some (.str 0)) x5 x6 (some (.ref H4.length)) (some (St.ite c a b).enc), H5) :=
          dxs s1 (dxs (dx_ite true rfl (dxs el dxs_nil)) dxs_nil)
        have far5 : H0.length ≤ H4.length := by
          have := some_lt ((Keep.app H3 [MO.list (encs g)]) _ _ (k3 _ _ hl2))
          exact Nat.le_trans far (Nat.le_of_lt this)
        obtain ⟨H6, j6, lf6, y8, e6, k6, a6⟩ := ih (g ++ r) (by omega) (by rw [raws_append, rg, hr.2]; rfl) k j H4.length s H0 H5 (some (St.ite c a b).enc) (by omega) (by omega) (by omega) (k2.trans (k3.trans k35)) far5 (at_len _ _) (hj2.keep (k3.trans k35)) (hf2.keep (k3.trans k35))
        have hrun : runs e (.ite c a b :: r) s = runs e (g ++ r) s := by
          rw [runs_append, hg]
          show sq (cond (c.holds e s) (runs e a s) (runs e b s)) (runs e r) = sq (runs e (cond (c.holds e s) a b) s) (runs e r)
          cases c.holds e s <;> rfl
        rw [hrun]
        exact ⟨H6, j6, lf6, y8, while_go hl bb e6, k6, a6⟩
end
/-! the terms -/
noncomputable abbrev last27 : PSs := .cons (.ite (.or (.cmp .Eq (.var 4) (.c (.str 128026086171489))) (.cmp .Eq (.var 4) (.c (.str 127970252055922)))) (.cons (.ret (.ite (.cmp .Eq (.var 4) (.c (.str 128026086171489))) (.var 2) (.c .none)))
    .nil) .nil)
    .nil
noncomputable abbrev body27 : PSs := .cons (.asg (.many [7, 4]) (.tup (.cons (.fn .list (.var 6)) (.cons (.c (.str 0)) .nil))))
    (.cons (.while_ testE bodyW) last27)
noncomputable abbrev ret27 : PSs := .cons (.ret (.ite (.cmp .Eq (.sub (.var 0) (.c (.int 1))) (.tup (.cons (.c (.str 128026086171489)) .nil))) (.var 2) (.c .none))) .nil
section
variable {n f : Nat} {e : Dr}
theorem list27 (ts0 : List Term) (fb : Bool) (ts : List Term) : (∀ t ∈ ts, wts t.2 ≤ 7 ∧ raws t.2 = true) → ∀ (j : Nat) (s : S) (H : AH) (x4 x5 x6 x7 x8 : Option V), At H j s.rt → FullAt H f e.own e.peer → s.tl.length + 2 * (7 * ts.length) ≤ 240 →
    ∃ H' v ρ', thn (forI (frun glo (callN glo tab02 (n + 9)) (.many [5, 6]) body27) (ts.map termV) (loc27 (polV ts0 fb) e.pf.enc j f x4 x5 x6 x7 x8) H) (fun ρ H => exs glo (callN glo tab02 (n + 9)) ret27 ρ H) = some (.ret v, ρ', H') ∧ Keep H H' ∧ ResAt H' v (pol e ts fb s) := by
  generalize hA : polV ts0 fb = A
  induction ts with
  | nil =>
    intro _ j s H x4 x5 x6 x7 x8 hj _ _
    subst hA
    cases fb with
    | true => exact ⟨H, .ref j, _, show exs glo (callN glo tab02 (n + 9)) ret27 (loc27 (polV ts0 true) e.pf.enc j f x4 x5 x6 x7 x8) H = _ from dxs_ret (dv_ite (dv_cmp rfl rfl rfl) rfl), Keep.refl _, j, rfl, hj⟩
    | false => exact ⟨H, .none, _, show exs glo (callN glo tab02 (n + 9)) ret27 (loc27 (polV ts0 false) e.pf.enc j f x4 x5 x6 x7 x8) H = _ from dxs_ret (dv_ite' (dv_cmp rfl rfl rfl) rfl), Keep.refl _, rfl⟩
  | cons t ts ih =>
    intro hd j s H x4 x5 x6 x7 x8 hj hf hl
    have e1 : 7 * (t :: ts).length = 7 * ts.length + 7 := Nat.mul_succ _ _
    rw [e1] at hl
    have ht := hd t (.head _)
    let H1 : AH := H ++ [MO.list (encs t.2)]
    have k1 : Keep H H1 := Keep.app _ _
    have lt2 := len_wts t.2
    obtain ⟨H2, j2, lf2, y8, e2, k2, a2⟩ := while_val (A := A) (e := e) (f := f) (x5 := some (.str t.1)) (x6 := some (.tup (encs t.2))) (n + 8) 7 t.2 ht.1 ht.2 100000 j H.length s H H1 x8 (by decide) (by omega) (by omega) k1 (Nat.le_refl _) (at_len _ _) (hj.keep k1) (hf.keep k1)
    have l1 := runs_len e t.2 s
    have first : ∀ {K : Loc → AH → Option (Fl × Loc × AH)} {r : Option (Fl × Loc × AH)}, thn (exs glo (callN glo tab02 (n + 9)) last27 (loc27 A e.pf.enc j2 f (some (.str (wordO (runs e t.2 s).1))) (some (.str t.1)) (some (.tup (encs t.2))) (some (.ref lf2)) y8) H2) (fun ρ H => thn (forI (frun glo (callN glo tab02 (n + 9)) (.many [5, 6]) body27) (ts.map termV) ρ H) K) = r →
        thn (forI (frun glo (callN glo tab02 (n + 9)) (.many [5, 6]) body27) ((t :: ts).map termV) (loc27 A e.pf.enc j f x4 x5 x6 x7 x8) H) K = r := fun h => by
      refine Eq.trans ?_ h
      refine (thn_assoc _ _ _).trans (congrArg (fun o => thn o _) ?_)
      show exs glo (callN glo tab02 (n + 9)) body27 (loc27 A e.pf.enc j f x4 (some (.str t.1)) (some (.tup (encs t.2))) x7 x8) H = _
      exact dxs (s := .asg (.many [7, 4]) (.tup (.cons (.fn .list (.var 6)) (.cons (.c (.str 0)) .nil)))) (dx_asg (v := .tup [.ref H.length, .str 0]) (dv_tup (dvs2 (dv_fn (x := .tup (encs t.2)) rfl list_fn) rfl)) rfl) (dxs (s := .while_ testE bodyW) e2 rfl)
    show ∃ H' v ρ', _ = some (Fl.ret v, ρ', H') ∧ Keep H H' ∧ ResAt H' v (caO (runs e t.2 s).1 (pol e ts fb (runs e t.2 s).2) fun z => z.pick (some (runs e t.2 s).2) (pol e ts fb (runs e t.2 s).2) none)
    cases hx : runs e t.2 s with
    | mk o s' =>
      rw [hx] at a2 e2 first l1
      have l1 : s'.tl.length ≤ s.tl.length + 2 * wts t.2 := l1
      have eqw : ∀ (w c : Nat), ev glo (callN glo tab02 (n + 9)) (.cmp .Eq (.var 4) (.c (.str c))) (loc27 A e.pf.enc j2 f (some (.str w)) (some (.str t.1)) (some (.tup (encs t.2))) (some (.ref lf2)) y8) H2 = some (.bool (w == c), H2) := fun w c => dv_cmp (op := .Eq) (x := .str w) (y := .str c) rfl rfl rfl
      have next : ∀ {w : Nat}, (w == 128026086171489) = false → (w == 127970252055922) = false → exs glo (callN glo tab02 (n + 9)) last27 (loc27 A e.pf.enc j2 f (some (.str w)) (some (.str t.1)) (some (.tup (encs t.2))) (some (.ref lf2)) y8) H2 = some (.next, loc27 A e.pf.enc j2 f (some (.str w)) (some (.str t.1)) (some (.tup (encs t.2))) (some (.ref lf2)) y8, H2) :=
        fun {w} h1 h2 => sk (dv_or (h1 ▸ eqw w 128026086171489) (h2 ▸ eqw w 127970252055922)) dxs_nil
      have go : ∀ {w : Nat}, (w == 128026086171489) = false → (w == 127970252055922) = false → w = wordO o → ∃ H' v ρ', thn (forI (frun glo (callN glo tab02 (n + 9)) (.many [5, 6]) body27) ((t :: ts).map termV) (loc27 A e.pf.enc j f x4 x5 x6 x7 x8) H) (fun ρ H => exs glo (callN glo tab02 (n + 9)) ret27 ρ H) = some (.ret v, ρ', H') ∧ Keep H H' ∧ ResAt H' v (pol e ts fb s') := fun h1 h2 h3 => by
        subst h3
        obtain ⟨H3, v, ρ3, e3, k3, a3⟩ := ih (fun t ht => hd t (.tail _ ht)) j2 s' H2 (some (.str (wordO o))) (some (.str t.1)) (some (.tup (encs t.2))) (some (.ref lf2)) y8 a2 (hf.keep k2) (by omega)
        exact ⟨H3, v, ρ3, first ((thn_e (next h1 h2)).trans e3), k2.trans k3, a3⟩
      cases o with
      | none => exact go rfl rfl rfl
      | some z =>
        cases z with
        | nxt => exact go rfl rfl rfl
        | acc => exact ⟨H2, .ref j2, _, first (thn_r (hit (dv_or' (eqw 128026086171489 128026086171489)) (dv_ite (eqw 128026086171489 128026086171489) rfl))), k2, j2, rfl, a2⟩
        | rej => exact ⟨H2, .none, _, first (thn_r (hit (dv_or (eqw 127970252055922 128026086171489) (eqw 127970252055922 127970252055922)) (dv_ite' (eqw 127970252055922 128026086171489) rfl))), k2, rfl⟩
theorem own_val (fb : Bool) (ts : List Term) (hd : ∀ t ∈ ts, wts t.2 ≤ 7 ∧ raws t.2 = true) (j : Nat) (s : S) (H : AH) (hj : At H j s.rt) (hf : FullAt H f e.own e.peer) (hl : s.tl.length + 2 * (7 * ts.length) ≤ 240) :
    ∃ H' v, callN glo tab02 (n + 10) 27 [polV ts fb, e.pf.enc, .ref j, .ref f] H = some (v, H') ∧ Keep H H' ∧ ResAt H' v (pol e ts fb s) := by
  obtain ⟨H', v, ρ', e1, k, a⟩ := list27 (n := n) (e := e) (f := f) ts fb ts hd j s H (some (.str 0)) none none none none hj hf hl
  have e2 : exs glo (callN glo tab02 (n + 9)) p_27.body (loc27 (polV ts fb) e.pf.enc j f none none none none none) H = some (.ret v, ρ', H') :=
    dxs (dx_asg rfl rfl) (show exs glo (callN glo tab02 (n + 9)) (.cons (.for_ (.many [5, 6]) .plain (.sub (.var 0) (.c (.int 0))) body27) ret27) (loc27 (polV ts fb) e.pf.enc j f (some (.str 0)) none none none none) H = _ from (dxs_for rfl).trans e1)
  exact ⟨H', v, d_call rfl rfl rfl e2, k, a⟩
end
end Mine.Pl
/-! R13 -/
namespace Mine.Pl
theorem FullAt.draw {H H' : AH} {f p q spot : Nat} {ns : List Int} {own peer : Int} (h : FullAt H f own peer) (P : Pool H p q ns spot) (k : KeepB p H H') : FullAt H' f own peer := by
  obtain ⟨l, h1, h2⟩ := h
  exact ⟨l, k _ _ (fun e => by rw [e, P.box] at h1; cases h1) h1, h2⟩
theorem ResAt.keep {H H' : AH} {v : V} {o : Option S} (h : ResAt H v o) (k : Keep H H') : ResAt H' v o := by
  cases o with
  | none => exact h
  | some s =>
    obtain ⟨i, e, a⟩ := h
    exact ⟨i, e, a.keep k⟩
theorem eqT_res {H : AH} {v w : V} {o : Option S} (h : ResAt H v o) (g : ResAt H w o) : eqT H v w = some true := by
  cases o with
  | none =>
    have h : v = .none := h
    have g : w = .none := g
    subst h g
    rfl
  | some s =>
    obtain ⟨i, rfl, l, h1, h2⟩ := h
    obtain ⟨j, rfl, m, g1, g2⟩ := g
    show (match lst H i with | some l => obn (lst H j) fun m => eqL (eqV H 64) l m | none => obn (dct H i) fun l => obn (dct H j) fun m => eqD (eqV H 64) l m) = _
    unfold lst
    rw [h1]
    refine (obn_e (dct_is h1)).trans ((obn_e (dct_is g1)).trans ((eq_dict H h2 g2).trans ?_))
    rw [decide_eq_true rfl]
noncomputable abbrev F28 : Calls := callN glo tab02 37
noncomputable abbrev loc28 (A1 A2 P : V) (g5 g6 : Nat) (A7 : V) (x8 x9 x10 x11 x12 x13 x14 : Option V) : Loc := [some (.ref 0), some (.ref 3), some A1, some A2, some P, some (.ref g5), some (.ref g6), some A7, x8, x9, x10, x11, x12, x13, x14, none, none, none, none, none, none, none, none, none]
noncomputable abbrev retF : PSs := .cons (.ret (.c (.bool false))) .nil
noncomputable abbrev last28 : PSs := .cons (.ite (.cmp .NotEq (.call 15 (.cons (.var 7) (.cons (.var 4) (.cons (.var 9) (.cons (.dict .nil) .nil))))) (.var 12)) retF .nil) .nil
noncomputable abbrev ownE : PS := .ite (.cmp .IsNot (.var 12) (.c .none)) (.cons (.asg (.one 12) (.call 27 (.cons (.var 3) (.cons (.var 4) (.cons (.var 12) (.cons (.var 6) .nil)))))) .nil) .nil
noncomputable abbrev midE : PS := .ite (.cmp .IsNot (.var 11) (.c .none)) (.cons (.asg (.one 13) (.fn .dict (.fn .items (.var 11))))
    (.cons (.asg (.one 14) (.call 15 (.cons (.var 3) (.cons (.var 4) (.cons (.var 11) (.cons (.var 6) .nil))))))
    (.cons (.ite (.or (.cmp .NotEq (.var 14) (.var 12)) (.cmp .NotEq (.var 11) (.var 13))) retF .nil)
    .nil))) .nil
noncomputable abbrev body28 : PSs := .cons (.asg (.one 9) (.call 21 (.cons (.var 1) .nil)))
    (.cons (.asg (.many [10, 11]) (.tup (.cons (.fn .dict (.fn .items (.var 9))) (.cons (.call 15 (.cons (.var 2) (.cons (.var 4) (.cons (.var 9) (.cons (.var 5) .nil))))) .nil))))
    (.cons (.asg (.one 12) (.call 27 (.cons (.var 2) (.cons (.var 4) (.cons (.var 9) (.cons (.var 5) .nil))))))
    (.cons (.ite (.or (.cmp .NotEq (.var 11) (.var 12)) (.cmp .NotEq (.var 9) (.var 10))) retF .nil)
    (.cons ownE (.cons midE last28)))))
/-- a policy that may be drawn -/
structure Fit (t : List Term) : Prop where
  len : t.length ≤ 2
  wt : ∀ x ∈ t, wts x.2 ≤ 7 ∧ raws x.2 = true
section
variable {t1 t2 : List Term} {f1 f2 : Bool} {e1 e2 : Dr} {g5 g6 : Nat} {A7 : V} {x8 x9 x10 x11 x12 x13 x14 : Option V} {s : S} {H : AH}
theorem run_val {e : Dr} {f j : Nat} {t : List Term} (fb : Bool) (hw : ∀ x ∈ t, wts x.2 ≤ 31) (hl : t.length ≤ 2) (hj : At H j s.rt) (hf : FactsAt H f e.own e.peer) (hs : s.tl.length ≤ 100) :
    ∃ H' v, F28 15 [polV t fb, e.pf.enc, .ref j, .ref f] H = some (v, H') ∧ Keep H H' ∧ ResAt H' v (pol e t fb s) := rp_val (n := 31) fb t hw j s H hj hf (by omega)
theorem Fit.le {t : List Term} (h : Fit t) : ∀ x ∈ t, wts x.2 ≤ 31 := fun x hx => Nat.le_trans (h.wt x hx).1 (by decide)
theorem mine_val {e : Dr} {f j : Nat} {t : List Term} (fb : Bool) (ht : Fit t) (hj : At H j s.rt) (hf : FullAt H f e.own e.peer) (hs : s.tl.length ≤ 100) :
    ∃ H' v, F28 27 [polV t fb, e.pf.enc, .ref j, .ref f] H = some (v, H') ∧ Keep H H' ∧ ResAt H' v (pol e t fb s) := own_val (n := 27) fb t ht.wt j s H hj hf (by have := ht.len; omega)
theorem pol_short {e : Dr} {t : List Term} {fb : Bool} (ht : Fit t) {s s' : S} (h : pol e t fb s = some s') (hs : s.tl.length ≤ 10) : s'.tl.length ≤ 100 := by
  have := pol_len e fb 7 t (fun x hx => (ht.wt x hx).1) s s' h
  have := ht.len
  omega
/-- the one policy of a single term -/
noncomputable abbrev one7 (e1 e2 : Dr) (t1 t2 : List Term) (f1 f2 : Bool) : List Term := [(6647407, whole e1.own e1.peer (whole e2.own e2.peer [.fin .acc] f2 t2) f1 t1)]
theorem one_wt (ht1 : Fit t1) (ht2 : Fit t2) : ∀ x ∈ one7 e1 e2 t1 t2 f1 f2, wts x.2 ≤ 31 := fun x hx => by
  rw [List.mem_singleton.mp hx]
  have a := whole_wt e2.own e2.peer [.fin .acc] f2 7 t2 fun x hx => (ht2.wt x hx).1
  have b := whole_wt e1.own e1.peer (whole e2.own e2.peer [.fin .acc] f2 t2) f1 7 t1 fun x hx => (ht1.wt x hx).1
  have l1 := ht1.len
  have l2 := ht2.len
  have w : wts [St.fin .acc] = 1 := rfl
  show wts (whole e1.own e1.peer (whole e2.own e2.peer [.fin .acc] f2 t2) f1 t1) ≤ 31
  omega
end
/-- what a turn leans on -/
structure Turn (F : Calls) (A1 A2 P A7 : V) (g5 g6 : Nat) (o1 o2 : S → Option S) (own1 peer1 own2 peer2 : Int) (ms : List Int) : Prop where
  route : ∀ {spot : Nat} {H : AH}, spot + 10 ≤ big → Pool H 3 2 ms spot → ∃ j s H', GenR H 3 2 ms spot (F 21 [.ref 3] H) j s H'
  run1 : ∀ {H : AH} {j : Nat} {s : S}, At H j s.rt → FullAt H g5 own1 peer1 → s.tl.length ≤ 100 → ∃ H' v, F 15 [A1, P, .ref j, .ref g5] H = some (v, H') ∧ Keep H H' ∧ ResAt H' v (o1 s)
  mine1 : ∀ {H : AH} {j : Nat} {s : S}, At H j s.rt → FullAt H g5 own1 peer1 → s.tl.length ≤ 100 → ∃ H' v, F 27 [A1, P, .ref j, .ref g5] H = some (v, H') ∧ Keep H H' ∧ ResAt H' v (o1 s)
  run2 : ∀ {H : AH} {j : Nat} {s : S}, At H j s.rt → FullAt H g6 own2 peer2 → s.tl.length ≤ 100 → ∃ H' v, F 15 [A2, P, .ref j, .ref g6] H = some (v, H') ∧ Keep H H' ∧ ResAt H' v (o2 s)
  mine2 : ∀ {H : AH} {j : Nat} {s : S}, At H j s.rt → FullAt H g6 own2 peer2 → s.tl.length ≤ 100 → ∃ H' v, F 27 [A2, P, .ref j, .ref g6] H = some (v, H') ∧ Keep H H' ∧ ResAt H' v (o2 s)
  one : ∀ {H : AH} {j k : Nat} {s : S}, At H j s.rt → H[k]? = some (.dict []) → s.tl.length ≤ 100 → ∃ H' v, F 15 [A7, P, .ref j, .ref k] H = some (v, H') ∧ Keep H H' ∧ ResAt H' v ((o1 s).bind o2)
  short : ∀ {s s' : S}, o1 s = some s' → s.tl.length ≤ 10 → s'.tl.length ≤ 100
section
variable {F : Calls} {A1 A2 P A7 : V} {g5 g6 : Nat} {o1 o2 : S → Option S} {own1 peer1 own2 peer2 : Int} {ms : List Int} {x8 x9 x10 x11 x12 x13 x14 : Option V} {s : S} {H : AH}
theorem last_val {j : Nat} {w : V} (T : Turn F A1 A2 P A7 g5 g6 o1 o2 own1 peer1 own2 peer2 ms) (hs : s.tl.length ≤ 100) (hj : At H j s.rt) (hw : ResAt H w ((o1 s).bind o2)) :
    ∃ H', exs glo F last28 (loc28 A1 A2 P g5 g6 A7 x8 (some (.ref j)) x10 x11 (some w) x13 x14) H = some (.next, loc28 A1 A2 P g5 g6 A7 x8 (some (.ref j)) x10 x11 (some w) x13 x14, H') ∧ Keep H H' := by
  have k1 : Keep H (H ++ [.dict []]) := Keep.app _ _
  obtain ⟨H2, v, c2, k2, a2⟩ := T.one (k := H.length) (hj.keep k1) (at_len _ _) hs
  have ec : ev glo F (.call 15 (.cons (.var 7) (.cons (.var 4) (.cons (.var 9) (.cons (.dict .nil) .nil))))) (loc28 A1 A2 P g5 g6 A7 x8 (some (.ref j)) x10 x11 (some w) x13 x14) H = some (v, H2) :=
    dv_call (vs := [A7, P, .ref j, .ref H.length]) (H1 := H ++ [.dict []]) (dvs4 rfl rfl rfl (dv_dict dvd_nil List.nodup_nil)) c2
  have et : cmpV .NotEq v w H2 = some false := ne_cmp (eqT_res a2 (hw.keep (k1.trans k2)))
  exact ⟨H2, sk (dv_cmp (op := .NotEq) (x := v) (y := w) ec rfl et) dxs_nil, k1.trans k2⟩
theorem ne_false {v w : V} {o : Option S} (h : ResAt H v o) (g : ResAt H w o) : cmpV .NotEq v w H = some false := ne_cmp (eqT_res h g)
/-- a second policy behind the first -/
theorem mid_val {j c i i' : Nat} {s1 : S} (T : Turn F A1 A2 P A7 g5 g6 o1 o2 own1 peer1 own2 peer2 ms) (h6 : FullAt H g6 own2 peer2) (hi : At H i s1.rt) (hi' : At H i' s1.rt) (hs : s1.tl.length ≤ 100) :
    ∃ H' w y13 y14, Keep H H' ∧ ResAt H' w (o2 s1) ∧ (∀ {t : Option (Fl × Loc × AH)}, exs glo F last28 (loc28 A1 A2 P g5 g6 A7 x8 (some (.ref j)) (some (.ref c)) (some (.ref i)) (some w) y13 y14) H' = t → exs glo F (.cons ownE (.cons midE last28)) (loc28 A1 A2 P g5 g6 A7 x8 (some (.ref j)) (some (.ref c)) (some (.ref i)) (some (.ref i')) x13 x14) H = t) := by
  obtain ⟨H5, w5, c5, k5, a5⟩ := T.mine2 hi' h6 hs
  obtain ⟨l6, hl6, hd6⟩ := hi.keep k5
  obtain ⟨H6, c6, k6, i6⟩ := copy_val (G := glo) (F := F) (ρ := loc28 A1 A2 P g5 g6 A7 x8 (some (.ref j)) (some (.ref c)) (some (.ref i)) (some w5) x13 x14) (i := 11) rfl hl6 hd6.1
  have ai6 : At H6 i s1.rt := ⟨l6, k6 _ _ hl6, hd6⟩
  obtain ⟨H7, v7, c7, k7, a7⟩ := T.run2 ai6 ((h6.keep k5).keep k6) hs
  have e5 : ex glo F ownE (loc28 A1 A2 P g5 g6 A7 x8 (some (.ref j)) (some (.ref c)) (some (.ref i)) (some (.ref i')) x13 x14) H = some (.next, loc28 A1 A2 P g5 g6 A7 x8 (some (.ref j)) (some (.ref c)) (some (.ref i)) (some w5) x13 x14, H5) := dx_ite true rfl (dxs (dx_asg (dv_call (dvs4 rfl rfl rfl rfl) c5) rfl) dxs_nil)
  have e8 : ev glo F (.or (.cmp .NotEq (.var 14) (.var 12)) (.cmp .NotEq (.var 11) (.var 13))) (loc28 A1 A2 P g5 g6 A7 x8 (some (.ref j)) (some (.ref c)) (some (.ref i)) (some w5) (some (.ref (H5.length + 1))) (some v7)) H7 = some (.bool false, H7) :=
    dv_or (dv_cmp (op := .NotEq) (x := v7) (y := w5) rfl rfl (ne_false a7 (a5.keep (k6.trans k7)))) (dv_cmp (op := .NotEq) (x := .ref i) (y := .ref (H5.length + 1)) rfl rfl (ne_false (o := some s1) ⟨i, rfl, ai6.keep k7⟩ ⟨_, rfl, l6, k7 _ _ i6, hd6⟩))
  have e7 : ex glo F midE (loc28 A1 A2 P g5 g6 A7 x8 (some (.ref j)) (some (.ref c)) (some (.ref i)) (some w5) x13 x14) H5 = some (.next, loc28 A1 A2 P g5 g6 A7 x8 (some (.ref j)) (some (.ref c)) (some (.ref i)) (some w5) (some (.ref (H5.length + 1))) (some v7), H7) :=
    dx_ite true rfl (dxs (dx_asg c6 rfl) (dxs (dx_asg (dv_call (dvs4 rfl rfl rfl rfl) c7) rfl) (sk e8 dxs_nil)))
  exact ⟨H7, w5, _, _, k5.trans (k6.trans k7), a5.keep (k6.trans k7), fun h => dxs e5 (dxs e7 h)⟩
theorem turn28 {spot : Nat} (T : Turn F A1 A2 P A7 g5 g6 o1 o2 own1 peer1 own2 peer2 ms) (a : Int) (hs : spot + 10 ≤ big) (hP : Pool H 3 2 ms spot) (h5 : FullAt H g5 own1 peer1) (h6 : FullAt H g6 own2 peer2) :
    ∃ H' y9 y10 y11 y12 y13 y14, frun glo F (.one 8) body28 (.int a) (loc28 A1 A2 P g5 g6 A7 x8 x9 x10 x11 x12 x13 x14) H = some (.next, loc28 A1 A2 P g5 g6 A7 (some (.int a)) y9 y10 y11 y12 y13 y14, H') ∧ Pool H' 3 2 ms (spot + 5) ∧ FullAt H' g5 own1 peer1 ∧ FullAt H' g6 own2 peer2 := by
  obtain ⟨j, s, H1, gr⟩ := T.route hs hP
  have F5 := h5.draw hP gr.keep
  have F6 := h6.draw hP gr.keep
  have q1 : ex glo F (.asg (.one 9) (.call 21 (.cons (.var 1) .nil))) (loc28 A1 A2 P g5 g6 A7 (some (.int a)) x9 x10 x11 x12 x13 x14) H = some (.next, loc28 A1 A2 P g5 g6 A7 (some (.int a)) (some (.ref j)) x10 x11 x12 x13 x14, H1) := dx_asg (dv_call (dvs1 rfl) gr.eq) rfl
  obtain ⟨l, hl, hd⟩ := gr.at_
  have hj1 : At H1 j s.rt := ⟨l, hl, hd⟩
  obtain ⟨H2, c2, k2, i2⟩ := copy_val (G := glo) (F := F) (ρ := loc28 A1 A2 P g5 g6 A7 (some (.int a)) (some (.ref j)) x10 x11 x12 x13 x14) (i := 9) rfl hl hd.1
  have hs1 : s.tl.length ≤ 100 := Nat.le_trans gr.short (by decide)
  obtain ⟨H3, v, c3, k3, a3⟩ := T.run1 (hj1.keep k2) (F5.keep k2) hs1
  have q2 : ex glo F (.asg (.many [10, 11]) (.tup (.cons (.fn .dict (.fn .items (.var 9))) (.cons (.call 15 (.cons (.var 2) (.cons (.var 4) (.cons (.var 9) (.cons (.var 5) .nil))))) .nil)))) (loc28 A1 A2 P g5 g6 A7 (some (.int a)) (some (.ref j)) x10 x11 x12 x13 x14) H1 = some (.next, loc28 A1 A2 P g5 g6 A7 (some (.int a)) (some (.ref j)) (some (.ref (H1.length + 1))) (some v) x12 x13 x14, H3) :=
    dx_asg (v := .tup [.ref (H1.length + 1), v]) (dv_tup (dvs2 c2 (dv_call (dvs4 rfl rfl rfl rfl) c3))) rfl
  have k13 := k2.trans k3
  obtain ⟨H4, w, c4, k4, a4⟩ := T.mine1 (hj1.keep k13) (F5.keep k13) hs1
  have k14 := k13.trans k4
  have q3 : ex glo F (.asg (.one 12) (.call 27 (.cons (.var 2) (.cons (.var 4) (.cons (.var 9) (.cons (.var 5) .nil)))))) (loc28 A1 A2 P g5 g6 A7 (some (.int a)) (some (.ref j)) (some (.ref (H1.length + 1))) (some v) x12 x13 x14) H3 = some (.next, loc28 A1 A2 P g5 g6 A7 (some (.int a)) (some (.ref j)) (some (.ref (H1.length + 1))) (some v) (some w) x13 x14, H4) := dx_asg (dv_call (dvs4 rfl rfl rfl rfl) c4) rfl
  have q4 : ev glo F (.or (.cmp .NotEq (.var 11) (.var 12)) (.cmp .NotEq (.var 9) (.var 10))) (loc28 A1 A2 P g5 g6 A7 (some (.int a)) (some (.ref j)) (some (.ref (H1.length + 1))) (some v) (some w) x13 x14) H4 = some (.bool false, H4) :=
    dv_or (dv_cmp (op := .NotEq) (x := v) (y := w) rfl rfl (ne_false (a3.keep k4) a4)) (dv_cmp (op := .NotEq) (x := .ref j) (y := .ref (H1.length + 1)) rfl rfl (ne_false (o := some s) ⟨j, rfl, hj1.keep k14⟩ ⟨_, rfl, l, (k3.trans k4) _ _ i2, hd⟩))
  have fin : ∀ {H' : AH} {w' : V} {y13 y14 : Option V}, Keep H4 H' → ResAt H' w' ((o1 s).bind o2) → (∀ {t : Option (Fl × Loc × AH)}, exs glo F last28 (loc28 A1 A2 P g5 g6 A7 (some (.int a)) (some (.ref j)) (some (.ref (H1.length + 1))) (some v) (some w') y13 y14) H' = t → exs glo F (.cons ownE (.cons midE last28)) (loc28 A1 A2 P g5 g6 A7 (some (.int a)) (some (.ref j)) (some (.ref (H1.length + 1))) (some v) (some w) x13 x14) H4 = t) →
      ∃ H' y9 y10 y11 y12 y13 y14, frun glo F (.one 8) body28 (.int a) (loc28 A1 A2 P g5 g6 A7 x8 x9 x10 x11 x12 x13 x14) H = some (.next, loc28 A1 A2 P g5 g6 A7 (some (.int a)) y9 y10 y11 y12 y13 y14, H') ∧ Pool H' 3 2 ms (spot + 5) ∧ FullAt H' g5 own1 peer1 ∧ FullAt H' g6 own2 peer2 := fun {H' w' y13 y14} k r h => by
    obtain ⟨H5, c5, k5⟩ := last_val (x8 := some (.int a)) (x10 := some (.ref (H1.length + 1))) (x11 := some v) (x13 := y13) (x14 := y14) (j := j) (w := w') T hs1 (hj1.keep (k14.trans k)) r
    have kk := (k14.trans k).trans k5
    have eb : exs glo F body28 (loc28 A1 A2 P g5 g6 A7 (some (.int a)) x9 x10 x11 x12 x13 x14) H = some (.next, loc28 A1 A2 P g5 g6 A7 (some (.int a)) (some (.ref j)) (some (.ref (H1.length + 1))) (some v) (some w') y13 y14, H5) := dxs q1 (dxs q2 (dxs q3 (sk q4 (h c5))))
    exact ⟨H5, some (.ref j), some (.ref (H1.length + 1)), some v, some w', y13, y14, eb, gr.pool.keep kk, F5.keep kk, F6.keep kk⟩
  cases ho : o1 s with
  | none =>
    rw [ho] at a3 a4
    have hv : v = .none := a3
    have hw : w = .none := a4
    subst hv hw
    exact fin (w' := .none) (y13 := x13) (y14 := x14) (Keep.refl _) (by rw [ho]; rfl) fun h => dxs (dx_ite false rfl dxs_nil) (dxs (dx_ite false rfl dxs_nil) h)
  | some s1 =>
    rw [ho] at a3 a4
    obtain ⟨i, rfl, ai⟩ := a3
    obtain ⟨i', rfl, ai'⟩ := a4
    obtain ⟨H5, w5, y13, y14, k5, a5, e5⟩ := mid_val (x8 := some (.int a)) (x13 := x13) (x14 := x14) (j := j) (c := H1.length + 1) T (F6.keep k14) (ai.keep k4) ai' (T.short ho (Nat.le_trans gr.short (by decide)))
    exact fin (w' := w5) k5 (by rw [ho]; exact a5) e5
end
section
variable {t1 t2 : List Term} {f1 f2 : Bool} {e1 e2 : Dr} {g5 g6 : Nat}
theorem turn_of (ms : List Int) (ht1 : Fit t1) (ht2 : Fit t2) (hpf : e2.pf = e1.pf) : Turn F28 (polV t1 f1) (polV t2 f2) e1.pf.enc (polV (one7 e1 e2 t1 t2 f1 f2) false) g5 g6 (pol e1 t1 f1) (pol e2 t2 f2) e1.own e1.peer e2.own e2.peer ms where
  route := fun hs hP => route_val 35 hs hP
  run1 := fun hj hf hs => run_val (e := e1) f1 ht1.le ht1.len hj hf.facts hs
  mine1 := fun hj hf hs => mine_val (e := e1) f1 ht1 hj hf hs
  run2 := fun hj hf hs => hpf ▸ run_val (e := e2) f2 ht2.le ht2.len hj hf.facts hs
  mine2 := fun hj hf hs => hpf ▸ mine_val (e := e2) f2 ht2 hj hf hs
  one := fun {H j k s} hj hk hs => by
    rw [← both_ok e1 e2 ⟨e1.pf, 0, 0⟩ rfl hpf f1 f2 t1 t2 6647407 s]
    exact run_val (e := ⟨e1.pf, 0, 0⟩) (f := k) false (one_wt ht1 ht2) (by decide : 1 ≤ 2) hj ⟨[], hk, rfl, rfl⟩ hs
  short := fun ho hs => pol_short ht1 ho hs
end
end Mine.Pl
/-! R14 -/
namespace Mine.Pl
noncomputable abbrev st1 : PS := (.asg (.one 1) (.list (.cons (.fn .list (.slice (.var 0) (.c .none) (.c (.int 60)))) (.cons (.c (.int 0)) .nil))))
noncomputable abbrev st2 : PS := (.asg (.many [2, 3]) (.tup (.cons (.call 20 (.cons (.var 1) .nil)) (.cons (.call 20 (.cons (.var 1) .nil)) .nil))))
noncomputable abbrev st3 : PS := (.asg (.one 4) (.sub (.tup (.cons (.tup (.cons (.bin .Mult (.c (.int 10)) (.bin .Pow (.c (.int 2)) (.c (.int 24)))) (.cons (.c (.int 8)) .nil))) (.cons (.tup (.cons (.bin .Add (.bin .Mult (.c (.int 10)) (.bin .Pow (.c (.int 2)) (.c (.int 24)))) (.bin .Pow (.c (.int 2)) (.c (.int 16)))) (.cons (.c (.int 16)) .nil))) (.cons (.tup (.cons (.bin .Mult (.c (.int 11)) (.bin .Pow (.c (.int 2)) (.c (.int 24)))) (.cons (.c (.int 16)) .nil))) .nil)))) (.call 16 (.cons (.var 1) (.cons (.c (.int 3)) .nil)))))
noncomputable abbrev st4 : PS := (.asg (.many [5, 6]) (.tup (.cons (.dict (.cons (.c (.str 139571412765187396326029167)) (.c (.int 9)) (.cons (.c (.str 32476684890760560)) (.bin .Add (.c (.int 3)) (.call 16 (.cons (.var 1) (.cons (.c (.int 2)) .nil)))) .nil))) (.cons (.dict (.cons (.c (.str 139571412765187396326029167)) (.c (.int 8)) (.cons (.c (.str 32476684890760560)) (.bin .Add (.c (.int 3)) (.call 16 (.cons (.var 1) (.cons (.c (.int 2)) .nil)))) .nil))) .nil))))
noncomputable abbrev st5 : PS := (.asg (.one 7) (.tup (.cons (.tup (.cons (.tup (.cons (.c (.str 6647407)) (.cons (.call 24 (.cons (.var 2) (.cons (.call 24 (.cons (.var 3) (.cons (.tup (.cons (.tup (.cons (.c (.str 128026086171489)) .nil)) .nil)) (.cons (.var 6) .nil)))) (.cons (.var 5) .nil)))) .nil))) .nil)) (.cons (.tup (.cons (.c (.str 127970252055922)) .nil)) .nil))))
noncomputable abbrev st6 : PS := .for_ (.one 8) .range (.c (.int 3)) body28
noncomputable abbrev loc0 (x1 x2 x3 x4 x5 x6 x7 : Option V) : Loc := [some (.ref 0), x1, x2, x3, x4, x5, x6, x7, none, none, none, none, none, none, none, none, none, none, none, none, none, none, none, none]
theorem loop28 {F : Calls} {A1 A2 P A7 : V} {g5 g6 : Nat} {o1 o2 : S → Option S} {own1 peer1 own2 peer2 : Int} {ms : List Int} {H : AH} {spot : Nat} (T : Turn F A1 A2 P A7 g5 g6 o1 o2 own1 peer1 own2 peer2 ms) (hs : spot + 100 ≤ big) (hP : Pool H 3 2 ms spot) (h5 : FullAt H g5 own1 peer1) (h6 : FullAt H g6 own2 peer2) :
    ∃ ρ' H', ex glo F st6 (loc28 A1 A2 P g5 g6 A7 none none none none none none none) H = some (.next, ρ', H') := by
  obtain ⟨H1, a1, a2, a3, a4, a5, a6, e1, P1, f1, f1'⟩ := turn28 (x8 := none) (x9 := none) (x10 := none) (x11 := none) (x12 := none) (x13 := none) (x14 := none) T 0 (by omega) hP h5 h6
  obtain ⟨H2, b1, b2, b3, b4, b5, b6, e2, P2, f2, f2'⟩ := turn28 (x8 := some (.int 0)) (x9 := a1) (x10 := a2) (x11 := a3) (x12 := a4) (x13 := a5) (x14 := a6) T 1 (by omega) P1 f1 f1'
  obtain ⟨H3, c1, c2, c3, c4, c5, c6, e3, P3, f3, f3'⟩ := turn28 (x8 := some (.int 1)) (x9 := b1) (x10 := b2) (x11 := b3) (x12 := b4) (x13 := b5) (x14 := b6) T 2 (by omega) P2 f2 f2'
  exact ⟨_, H3, dx_for_range (n := 3) rfl (by decide) ((thn_e e1).trans ((thn_e e2).trans ((thn_e e3).trans rfl)))⟩
/-- what the body leans on -/
structure Tools (F : Calls) (ms : List Int) : Prop where
  draw : ∀ {spot : Nat} {H : AH} (m : Nat), 0 < m → spot ≤ big → Pool H 3 2 ms spot → ∃ (x : Nat) (H' : AH), x < m ∧ F 16 [.ref 3, .int m] H = some (.int x, H') ∧ KeepB 3 H H' ∧ Pool H' 3 2 ms (spot + 1)
  gen : ∀ {spot : Nat} {H : AH}, spot + 300 ≤ big → Pool H 3 2 ms spot → ∃ ts fb H' spot', GenP H 3 2 ms spot (F 20 [.ref 3] H) ts fb H' spot'
  tree : ∀ {f : Nat} {H : AH} {own peer : Int} {lt : List St} {fb : Bool} {ts : List Term}, FullAt H f own peer → Fit ts → wts lt ≤ 300 → F 24 [polV ts fb, .tup (encs lt), .ref f] H = some (.tup (encs (whole own peer lt fb ts)), H)
  turn : ∀ {t1 t2 : List Term} {f1 f2 : Bool} {e1 e2 : Dr} {g5 g6 : Nat}, Fit t1 → Fit t2 → e2.pf = e1.pf → Turn F (polV t1 f1) (polV t2 f2) e1.pf.enc (polV (one7 e1 e2 t1 t2 f1 f2) false) g5 g6 (pol e1 t1 f1) (pol e2 t2 f2) e1.own e1.peer e2.own e2.peer ms
theorem tools (ms : List Int) : Tools F28 ms where
  draw := fun m hm hs hP => draw_val 36 m hm hs hP
  gen := fun hs hP => pol_val 30 hs hP
  tree := fun hf ht hl => whole_val hf 27 _ _ (fun x hx => (ht.wt x hx).1) ht.len hl
  turn := fun h1 h2 h => turn_of ms h1 h2 h
section
variable {F : Calls} {ms : List Int}
theorem box_draw (K : Tools F ms) {spot : Nat} {H : AH} {ρ : Loc} (h1 : ρ[1]? = some (some (.ref 3))) (n0 : Nat) (hn : 0 < n0) (hs : spot ≤ big) (hP : Pool H 3 2 ms spot) :
    ∃ (x : Nat) (H' : AH), x < n0 ∧ ev glo F (.call 16 (.cons (.var 1) (.cons (.c (.int n0)) .nil))) ρ H = some (.int x, H') ∧ KeepB 3 H H' ∧ Pool H' 3 2 ms (spot + 1) := by
  obtain ⟨x, H', hx, e, k, P'⟩ := K.draw n0 hn hs hP
  exact ⟨x, H', hx, dv_call (dvs2 (dv_var h1) rfl) e, k, P'⟩
/-- the facts of one door -/
theorem door_val (K : Tools F ms) {spot : Nat} {H : AH} {ρ : Loc} (h1 : ρ[1]? = some (some (.ref 3))) (own : Int) (hs : spot ≤ big) (hP : Pool H 3 2 ms spot) :
    ∃ (g : Nat) (peer : Int) (H' : AH), ev glo F (.dict (.cons (.c (.str 139571412765187396326029167)) (.c (.int own)) (.cons (.c (.str 32476684890760560)) (.bin .Add (.c (.int 3)) (.call 16 (.cons (.var 1) (.cons (.c (.int 2)) .nil)))) .nil))) ρ H = some (.ref g, H') ∧ KeepB 3 H H' ∧ Pool H' 3 2 ms (spot + 1) ∧ FullAt H' g own peer := by
  obtain ⟨x, H1, hx, e1, k1, P1⟩ := box_draw K h1 2 (by decide) hs hP
  have k2 : Keep H1 (H1 ++ [.dict [(.s 139571412765187396326029167, .int own), (.s 32476684890760560, .int (3 + (x : Int)))]]) := Keep.app _ _
  exact ⟨H1.length, 3 + (x : Int), _, dv_dict (dvd_cons (kk := .s 139571412765187396326029167) rfl rfl rfl (dvd_cons (kk := .s 32476684890760560) rfl (dv_bin (op := .Add) (x := .int 3) (y := .int x) rfl e1 rfl) rfl dvd_nil)) (show [Key.s 139571412765187396326029167, .s 32476684890760560].Nodup by decide), k1.trans (k2.but 3), P1.keep k2, _, at_len _ _, rfl, rfl⟩
theorem start_val (ns : List Int) : ex glo F28 st1 (loc0 none none none none none none none) [.fz (ns.map .int)] = some (.next, loc0 (some (.ref 3)) none none none none none none, [.fz (ns.map .int), .list ((ns.take 60).map .int), .list ((ns.take 60).map .int), .list [.ref 2, .int 0]]) := by
  have hs : ev glo F28 (.slice (.var 0) (.c .none) (.c (.int 60))) (loc0 none none none none none none none) [.fz (ns.map .int)] = some (.ref 1, [.fz (ns.map .int), .list ((ns.take 60).map .int)]) := by
    rw [List.map_take]
    rfl
  have hl : ev glo F28 (.fn .list (.slice (.var 0) (.c .none) (.c (.int 60)))) (loc0 none none none none none none none) [.fz (ns.map .int)] = some (.ref 2, [.fz (ns.map .int), .list ((ns.take 60).map .int), .list ((ns.take 60).map .int)]) := dv_fn hs rfl
  have hb : ev glo F28 (.list (.cons (.fn .list (.slice (.var 0) (.c .none) (.c (.int 60)))) (.cons (.c (.int 0)) .nil))) (loc0 none none none none none none none) [.fz (ns.map .int)] = some (.ref 3, [.fz (ns.map .int), .list ((ns.take 60).map .int), .list ((ns.take 60).map .int), .list [.ref 2, .int 0]]) := dv_list (H1 := [.fz (ns.map .int), .list ((ns.take 60).map .int), .list ((ns.take 60).map .int)]) (vs := [.ref 2, .int 0]) (dvs2 hl rfl)
  exact dx_asg hb rfl
theorem pf_of {x : Nat} (hx : x < 3) : ∃ p : Pf, ([Pf.lo.enc, Pf.mid.enc, Pf.hi.enc] : List V)[x]? = some p.enc := by
  rcases (by omega : x = 0 ∨ x = 1 ∨ x = 2) with rfl | rfl | rfl
  · exact ⟨.lo, rfl⟩
  · exact ⟨.mid, rfl⟩
  · exact ⟨.hi, rfl⟩
/-- from the two trees on -/
theorem rest28 {A1 A2 P U W : V} {g5 g6 : Nat} {o1 o2 : S → Option S} {own1 peer1 own2 peer2 : Int} {H : AH} {spot : Nat} (T : Turn F A1 A2 P (.tup [.tup [.tup [.str 6647407, W]], .tup [.str 127970252055922]]) g5 g6 o1 o2 own1 peer1 own2 peer2 ms) (hs : spot + 100 ≤ big) (hP : Pool H 3 2 ms spot) (h5 : FullAt H g5 own1 peer1) (h6 : FullAt H g6 own2 peer2)
    (c6 : F 24 [A2, .tup [.tup [.str 128026086171489]], .ref g6] H = some (U, H)) (c7 : F 24 [A1, U, .ref g5] H = some (W, H)) :
    ∃ ρ' H', exs glo F (.cons st5 (.cons st6 (.cons (.ret (.c (.bool true))) .nil))) (loc0 (some (.ref 3)) (some A1) (some A2) (some P) (some (.ref g5)) (some (.ref g6)) none) H = some (.ret (.bool true), ρ', H') := by
  have q5 : ex glo F st5 (loc0 (some (.ref 3)) (some A1) (some A2) (some P) (some (.ref g5)) (some (.ref g6)) none) H = some (.next, loc0 (some (.ref 3)) (some A1) (some A2) (some P) (some (.ref g5)) (some (.ref g6)) (some (.tup [.tup [.tup [.str 6647407, W]], .tup [.str 127970252055922]])), H) :=
    dx_asg (dv_tup (dvs2 (dv_tup (dvs1 (dv_tup (dvs2 rfl (dv_call (dvs3 rfl (dv_call (dvs3 rfl rfl rfl) c6) rfl) c7))))) rfl)) rfl
  obtain ⟨ρ', H6, q6⟩ := loop28 T hs hP h5 h6
  exact ⟨ρ', H6, dxs q5 (dxs q6 (dxs_ret rfl))⟩
/-- from the two policies on -/
theorem mid28 {A1 A2 : V} {H : AH} {spot : Nat} (K : Tools F ms) (hs : spot + 200 ≤ big) (hP : Pool H 3 2 ms spot)
    (hT : ∀ (p : Pf) (g5 g6 : Nat) (p5 p6 : Int) (Hx : AH), FullAt Hx g5 9 p5 → FullAt Hx g6 8 p6 → ∃ U W o1 o2, Turn F A1 A2 p.enc (.tup [.tup [.tup [.str 6647407, W]], .tup [.str 127970252055922]]) g5 g6 o1 o2 9 p5 8 p6 ms ∧ F 24 [A2, .tup [.tup [.str 128026086171489]], .ref g6] Hx = some (U, Hx) ∧ F 24 [A1, U, .ref g5] Hx = some (W, Hx)) :
    ∃ ρ' H', exs glo F (.cons st3 (.cons st4 (.cons st5 (.cons st6 (.cons (.ret (.c (.bool true))) .nil))))) (loc0 (some (.ref 3)) (some A1) (some A2) none none none none) H = some (.ret (.bool true), ρ', H') := by
  obtain ⟨x, H3, hx, e3, k3, P3⟩ := box_draw K (ρ := loc0 (some (.ref 3)) (some A1) (some A2) none none none none) rfl 3 (by decide) (by omega) hP
  obtain ⟨p, hp⟩ := pf_of hx
  have q3 : ex glo F st3 (loc0 (some (.ref 3)) (some A1) (some A2) none none none none) H = some (.next, loc0 (some (.ref 3)) (some A1) (some A2) (some p.enc) none none none, H3) := dx_asg (dv_sub (x := .tup [Pf.lo.enc, Pf.mid.enc, Pf.hi.enc]) (y := .int x) rfl e3 (sub_tup hp)) rfl
  obtain ⟨g5, p5, H4, e4, k4, P4, h5⟩ := door_val K (ρ := loc0 (some (.ref 3)) (some A1) (some A2) (some p.enc) none none none) rfl 9 (by omega) P3
  obtain ⟨g6, p6, H5, e5, k5, P5, h6⟩ := door_val K (ρ := loc0 (some (.ref 3)) (some A1) (some A2) (some p.enc) none none none) rfl 8 (by omega) P4
  have h5' := h5.draw P4 k5
  have q4 : ex glo F st4 (loc0 (some (.ref 3)) (some A1) (some A2) (some p.enc) none none none) H3 = some (.next, loc0 (some (.ref 3)) (some A1) (some A2) (some p.enc) (some (.ref g5)) (some (.ref g6)) none, H5) := dx_asg (v := .tup [.ref g5, .ref g6]) (dv_tup (dvs2 e4 e5)) rfl
  obtain ⟨U, W, o1, o2, T, c6, c7⟩ := hT p g5 g6 p5 p6 H5 h5' h6
  obtain ⟨ρ', H6, q5⟩ := rest28 T (by omega) P5 h5' h6 c6 c7
  exact ⟨ρ', H6, dxs q3 (dxs q4 q5)⟩
theorem body_val (K : Tools F ms) {H : AH} (hP : Pool H 3 2 ms 0) : ∃ ρ' H', exs glo F (.cons st2 (.cons st3 (.cons st4 (.cons st5 (.cons st6 (.cons (.ret (.c (.bool true))) .nil)))))) (loc0 (some (.ref 3)) none none none none none none) H = some (.ret (.bool true), ρ', H') := by
  obtain ⟨t1, f1, H1, s1, g1⟩ := K.gen (by decide) hP
  have l1 := g1.le
  obtain ⟨t2, f2, H2, s2, g2⟩ := K.gen (by show s1 + 300 ≤ 1000000; omega) g1.pool
  have l2 := g2.le
  have ht1 : Fit t1 := ⟨g1.len, g1.wt⟩
  have ht2 : Fit t2 := ⟨g2.len, g2.wt⟩
  obtain ⟨ρ', H6, q⟩ := mid28 (A1 := polV t1 f1) (A2 := polV t2 f2) K (by show s2 + 200 ≤ 1000000; omega) g2.pool fun p g5 g6 p5 p6 Hx h5 h6 => by
    have w := whole_wt 8 p6 [.fin .acc] f2 7 t2 fun x hx => (ht2.wt x hx).1
    have l2 := ht2.len
    have w1 : wts [St.fin .acc] = 1 := rfl
    exact ⟨_, _, _, _, K.turn (e1 := ⟨p, 9, p5⟩) (e2 := ⟨p, 8, p6⟩) ht1 ht2 rfl, K.tree (lt := [.fin .acc]) h6 ht2 (by omega), K.tree h5 ht1 (by omega)⟩
  have q2 : ex glo F st2 (loc0 (some (.ref 3)) none none none none none none) H = some (.next, loc0 (some (.ref 3)) (some (polV t1 f1)) (some (polV t2 f2)) none none none none, H2) := dx_asg (v := .tup [polV t1 f1, polV t2 f2]) (dv_tup (dvs2 (dv_call (dvs1 rfl) g1.eq) (dv_call (dvs1 rfl) g2.eq))) rfl
  exact ⟨ρ', H6, dxs q2 q⟩
end
theorem law_val (ns : List Int) : ∃ H', callN glo tab02 38 28 [.ref 0] [.fz (ns.map .int)] = some (.bool true, H') := by
  obtain ⟨ρ', H', e⟩ := body_val (tools (ns.take 60)) (H := [.fz (ns.map .int), .list ((ns.take 60).map .int), .list ((ns.take 60).map .int), .list [.ref 2, .int 0]]) ⟨rfl, rfl, by decide⟩
  have e1 : exs glo F28 p_28.body (loc0 none none none none none none none) [.fz (ns.map .int)] = some (.ret (.bool true), ρ', H') := dxs (start_val ns) e
  exact ⟨H', d_call rfl rfl rfl e1⟩
end Mine.Pl
/-! Snd1 -/
namespace Mine
open PySem PySem.Calls PyProof.Rows

/-! keys as one kind -/
theorem encL_decL : ∀ f n, n ≤ f → encL (decL f n) = n := by
  intro f
  induction f with
  | zero => intro n h; have : n = 0 := by omega
            subst this; rfl
  | succ f ih =>
    intro n h
    unfold decL
    by_cases h0 : n = 0
    · subst h0; rfl
    · rw [if_neg h0]
      show n % 256 + 256 * encL (decL f (n / 256)) = n
      rw [ih (n / 256) (by omega)]
      omega
theorem dec_inj {a b : Nat} (h : dec a = dec b) : a = b := by
  have e : (decL a a).toArray = (decL b b).toArray := congrArg Str.cps h
  have e2 : decL a a = decL b b := by simpa using e
  rw [← encL_decL a a (Nat.le_refl _), ← encL_decL b b (Nat.le_refl _), e2]
theorem dec_eq (a b : Nat) : (dec a = dec b) ↔ a = b := ⟨dec_inj, fun e => e ▸ rfl⟩

noncomputable def keyIs : Key → Value → Bool
  | .s n, .str x _ => x == dec n
  | .i n, .int i _ => i == n
  | _, _ => false
theorem keyIs_s {n : Nat} {v : Value} (h : keyIs (.s n) v = true) : ∃ t, v = .str (dec n) t := by
  cases v <;> simp [keyIs] at h
  rename_i x t
  exact ⟨t, by rw [h]⟩
theorem keyIs_i {n : Int} {v : Value} (h : keyIs (.i n) v = true) : ∃ t, v = .int n t := by
  cases v <;> simp [keyIs] at h
  rename_i x t
  exact ⟨t, by rw [h]⟩
noncomputable def keyHash (w : World) : Key → Int
  | .s n => hashStr w (dec n)
  | .i n => hashInt n

section
variable {prog : Program} {w : World} {A : Around} {E : Value → Shared → Prop} {s : Shared}
theorem eqBool_si {x : Str} {t : Tok} {n : Int} {u : Tok} {Q : Bool → Shared → Prop} (h : Q false s) : wpAny (model prog w) A (eqBool (.str x t) (.int n u)) Q E s :=
  (SeqAt.EqAt.str_int (A := A) (s := s) x t n u) prog w E Q h
theorem eqBool_is {x : Str} {t : Tok} {n : Int} {u : Tok} {Q : Bool → Shared → Prop} (h : Q false s) : wpAny (model prog w) A (eqBool (.int n u) (.str x t)) Q E s :=
  (SeqAt.EqAt.int_str (A := A) (s := s) n u x t) prog w E Q h
end

noncomputable def kn (prog : Program) (w : World) : KeyKind prog w Key where
  is := keyIs
  hash := keyHash w
  inj := fun v a b ha hb => by
    cases a <;> cases b
    · obtain ⟨t, rfl⟩ := keyIs_s ha
      obtain ⟨u, h⟩ := keyIs_s hb
      injection h with h
      rw [dec_inj h]
    · obtain ⟨t, rfl⟩ := keyIs_s ha
      obtain ⟨u, h⟩ := keyIs_i hb
      cases h
    · obtain ⟨t, rfl⟩ := keyIs_i ha
      obtain ⟨u, h⟩ := keyIs_s hb
      cases h
    · obtain ⟨t, rfl⟩ := keyIs_i ha
      obtain ⟨u, h⟩ := keyIs_i hb
      injection h with h
      rw [h]
  byValue := fun k v h => by
    cases k
    · obtain ⟨t, rfl⟩ := keyIs_s h; rfl
    · obtain ⟨t, rfl⟩ := keyIs_i h; rfl
  pyHash := fun {A E s k v Q} hv h => by
    cases k
    · obtain ⟨t, rfl⟩ := keyIs_s hv; exact wpAny_pyHash_str h
    · obtain ⟨t, rfl⟩ := keyIs_i hv; exact wpAny_pyHash_int h
  eqBool := fun {A E s a b u v Q} hu hv h => by
    rcases a with n | n <;> rcases b with n' | n'
    · obtain ⟨t, rfl⟩ := keyIs_s hu
      obtain ⟨t', rfl⟩ := keyIs_s hv
      refine wpAny_eqBool_str ?_
      have e : decide (dec (n : Nat) = dec n') = decide (Key.s n = Key.s n') := by simp [dec_eq]
      rw [e]; exact h
    · obtain ⟨t, rfl⟩ := keyIs_s hu
      obtain ⟨t', rfl⟩ := keyIs_i hv
      exact eqBool_si (by simpa using h)
    · obtain ⟨t, rfl⟩ := keyIs_i hu
      obtain ⟨t', rfl⟩ := keyIs_s hv
      exact eqBool_is (by simpa using h)
    · obtain ⟨t, rfl⟩ := keyIs_i hu
      obtain ⟨t', rfl⟩ := keyIs_i hv
      refine wpAny_eqBool_int ?_
      have e : (n == n') = decide (Key.i n = Key.i n') := by
        by_cases q : n = n' <;> simp [q]
      first | exact e ▸ h | (rw [e]; exact h) | (have e2 : decide (n = n') = decide (Key.i n = Key.i n') := by simp
                                                 rw [e2]; exact h)
  «strs» := fun k x t v h => by
    cases k
    · obtain ⟨u, hu⟩ := keyIs_s h
      injection hu with hx
      subst hx
      cases v <;> rfl
    · obtain ⟨u, hu⟩ := keyIs_i h; cases hu

/-! what a value is in the heap -/
abbrev tupObj (vs : Array Value) (n : Nat) : Obj := { cls := .type "tuple", data := .seq vs n }
abbrev lstObj (vs : Array Value) (n : Nat) : Obj := { cls := .type "list", data := .seq vs n }
mutual
inductive Rel (h : Heap) (μ : List Addr) : V → Value → Prop
  | none : Rel h μ .none .none
  | bool (b : Bool) : Rel h μ (.bool b) (.bool b)
  | int (i : Int) (t : Tok) : Rel h μ (.int i) (.int i t)
  | str (n : Nat) (t : Tok) : Rel h μ (.str n) (.str (dec n) t)
  | tup {l : List V} {a : Addr} {vs : List Value} {n : Nat} : h.get? a = some (tupObj vs.toArray n) → Rels h μ l vs → l.length ≤ lineN → Rel h μ (.tup l) (.ref a)
  | ref {j : Nat} {a : Addr} : μ[j]? = some a → Rel h μ (.ref j) (.ref a)
inductive Rels (h : Heap) (μ : List Addr) : List V → List Value → Prop
  | nil : Rels h μ [] []
  | cons {v : V} {x : Value} {l : List V} {xs : List Value} : Rel h μ v x → Rels h μ l xs → Rels h μ (v :: l) (x :: xs)
end
section
variable {h : Heap} {μ : List Addr}
theorem Rels.ind {M : List V → List Value → Prop} (nil : M [] []) (cons : ∀ {v x l xs}, Rel h μ v x → Rels h μ l xs → M l xs → M (v :: l) (x :: xs)) {l : List V} {xs : List Value} (r : Rels h μ l xs) : M l xs :=
  Rels.rec (motive_1 := fun _ _ _ => True) (motive_2 := fun l xs _ => M l xs) trivial (fun _ => trivial) (fun _ _ => trivial) (fun _ _ => trivial) (fun _ _ _ _ => trivial) (fun _ => trivial) nil (fun a r _ ih => cons a r ih) r
theorem Rels.nil_inv {xs : List Value} {P : List Value → Prop} (r : Rels h μ [] xs) (k : P []) : P xs := by
  cases r; exact k
theorem Rels.cons_inv {v : V} {l : List V} {xs : List Value} {P : List Value → Prop} (r : Rels h μ (v :: l) xs) (k : ∀ x xs, Rel h μ v x → Rels h μ l xs → P (x :: xs)) : P xs := by
  cases r with | cons a b => exact k _ _ a b
theorem Rels.length {l : List V} {xs : List Value} (r : Rels h μ l xs) : xs.length = l.length :=
  r.ind (M := fun l xs => xs.length = l.length) rfl fun _ _ ih => congrArg (· + 1) ih
theorem Rels.get {l : List V} {xs : List Value} (r : Rels h μ l xs) : ∀ {i : Nat} {v : V}, l[i]? = some v → ∃ x, xs[i]? = some x ∧ Rel h μ v x :=
  r.ind (M := fun l xs => ∀ {i : Nat} {v : V}, l[i]? = some v → ∃ x, xs[i]? = some x ∧ Rel h μ v x) (fun e => by cases e) fun {v x l xs} a _ ih i u e => by
    cases i with
    | zero => exact ⟨x, rfl, Option.some.inj e ▸ a⟩
    | succ i => exact ih (i := i) e
theorem Rels.append {l m : List V} {xs ys : List Value} (r : Rels h μ l xs) (q : Rels h μ m ys) : Rels h μ (l ++ m) (xs ++ ys) :=
  r.ind (M := fun l xs => Rels h μ (l ++ m) (xs ++ ys)) q fun a _ ih => .cons a ih
theorem Rels.take {l : List V} {xs : List Value} (n : Nat) (r : Rels h μ l xs) : Rels h μ (l.take n) (xs.take n) :=
  r.ind (M := fun l xs => ∀ n : Nat, Rels h μ (l.take n) (xs.take n)) (fun n => by simpa using Rels.nil) (fun {v x l xs} a _ ih n => by
    cases n with
    | zero => exact .nil
    | succ n => exact .cons a (ih n)) n
theorem Rels.drop {l : List V} {xs : List Value} (n : Nat) (r : Rels h μ l xs) : Rels h μ (l.drop n) (xs.drop n) :=
  r.ind (M := fun l xs => ∀ n : Nat, Rels h μ (l.drop n) (xs.drop n)) (fun n => by simpa using Rels.nil) (fun {v x l xs} a r ih n => by
    cases n with
    | zero => exact .cons a r
    | succ n => exact ih n) n
theorem Rels.set {v : V} {x : Value} (q : Rel h μ v x) {l : List V} {xs : List Value} (i : Nat) (r : Rels h μ l xs) : Rels h μ (l.set i v) (xs.set i x) :=
  r.ind (M := fun l xs => ∀ i : Nat, Rels h μ (l.set i v) (xs.set i x)) (fun _ => .nil) (fun a r ih i => by
    cases i with
    | zero => exact .cons q r
    | succ i => exact .cons a (ih i)) i
theorem Rels.replicate {l : List V} {xs : List Value} (q : Rels h μ l xs) (n : Nat) : Rels h μ (List.replicate n l).flatten (List.replicate n xs).flatten := by
  induction n with
  | zero => exact .nil
  | succ n ih =>
    rw [List.replicate_succ, List.replicate_succ, List.flatten_cons, List.flatten_cons]
    exact q.append ih
end

inductive RelD (h : Heap) (μ : List Addr) : List (Key × V) → List (Key × Value) → Prop
  | nil : RelD h μ [] []
  | cons {k : Key} {v : V} {x : Value} {l : List (Key × V)} {xs : List (Key × Value)} : Rel h μ v x → RelD h μ l xs → RelD h μ ((k, v) :: l) ((k, x) :: xs)

inductive ObjR (prog : Program) (w : World) (h : Heap) (μ : List Addr) (a : Addr) : MO → Prop
  | list {l : List V} {vs : List Value} {n : Nat} : h.get? a = some (lstObj vs.toArray n) → Rels h μ l vs → l.length ≤ lineN → ObjR prog w h μ a (.list l)
  | dict {l : List (Key × V)} {kvs : List (Key × Value)} : h.DictOf (kn prog w) a kvs → RelD h μ l kvs → l.length ≤ lineN → ObjR prog w h μ a (.dict l)
  | fz {l : List V} {vs : List Value} : h.IsList a vs.toArray → Rels h μ l vs → l.length ≤ lineN → ObjR prog w h μ a (.fz l)
noncomputable def isFz : MO → Bool
  | .fz _ => true
  | _ => false

/-! from one heap to a later one -/
structure Ext (h h' : Heap) (μ μ' F : List Addr) : Prop where
  pre : ∃ ν, μ' = μ ++ ν ∧ ∀ a ∈ ν, h.get? a = none
  live : ∀ a o, h.get? a = some o → ∃ o', h'.get? a = some o'
  keep : ∀ a o, h.get? a = some o → a ∉ μ → a ∉ F → h'.get? a = some o
theorem Ext.refl (h : Heap) (μ F : List Addr) : Ext h h μ μ F := ⟨⟨[], by simp, by simp⟩, fun a o e => ⟨o, e⟩, fun _ _ e _ _ => e⟩
theorem Ext.trans {h h₁ h₂ : Heap} {μ μ₁ μ₂ F : List Addr} (x : Ext h h₁ μ μ₁ F) (y : Ext h₁ h₂ μ₁ μ₂ F) : Ext h h₂ μ μ₂ F := by
  obtain ⟨ν, rfl, hν⟩ := x.pre
  obtain ⟨ν', rfl, hν'⟩ := y.pre
  refine ⟨⟨ν ++ ν', by simp, fun a ha => ?_⟩, fun a o e => ?_, fun a o e h1 h2 => ?_⟩
  · rcases List.mem_append.mp ha with ha | ha
    · exact hν a ha
    · cases q : h.get? a with
      | none => rfl
      | some o =>
        obtain ⟨o', e'⟩ := x.live a o q
        rw [hν' a ha] at e'
        cases e'
  · obtain ⟨o', e'⟩ := x.live a o e
    exact y.live a o' e'
  · refine y.keep a o (x.keep a o e h1 h2) (fun hm => ?_) h2
    rcases List.mem_append.mp hm with hm | hm
    · exact h1 hm
    · rw [hν a hm] at e; cases e
theorem Ext.weaken {h h' : Heap} {μ μ' F F' : List Addr} (x : Ext h h' μ μ' F) (s : ∀ a ∈ F, a ∈ F') : Ext h h' μ μ' F' :=
  ⟨x.pre, x.live, fun a o e h1 h2 => x.keep a o e h1 fun q => h2 (s a q)⟩
/-- a callee's frame is new -/
theorem Ext.drop {h h' : Heap} {μ μ' F : List Addr} (x : Ext h h' μ μ' F) (s : ∀ a ∈ F, h.get? a = none) : Ext h h' μ μ' [] :=
  ⟨x.pre, x.live, fun a o e h1 _ => x.keep a o e h1 fun q => by rw [s a q] at e; cases e⟩
abbrev Keep (h h' : Heap) : Prop := ∀ b o, h.get? b = some o → h'.get? b = some o
theorem Ext.of_keep {h h' : Heap} (k : Keep h h') (μ F : List Addr) : Ext h h' μ μ F := ⟨⟨[], by simp, by simp⟩, fun a o e => ⟨o, k a o e⟩, fun a o e _ _ => k a o e⟩
theorem Keep.push (h : Heap) (o : Obj) : Keep h (h.push o) := fun _ _ e => Heap.get?_push_of_some _ e
theorem get?_size (h : Heap) : h.get? h.objs.size = none := Heap.get?_none_of_le (Nat.le_refl _)
theorem Ext.push (h : Heap) (o : Obj) (μ F : List Addr) : Ext h (h.push o) μ (μ ++ [h.objs.size]) F :=
  ⟨⟨[h.objs.size], rfl, by simp [get?_size]⟩, fun a o' e => ⟨o', Keep.push h o a o' e⟩, fun a o' e _ _ => Keep.push h o a o' e⟩

/-- no tuple lies at these places -/
noncomputable def NoTup (h : Heap) (l : List Addr) : Prop := ∀ a ∈ l, ∀ vs n, h.get? a ≠ some (tupObj vs n)
theorem Ext.get {h h' : Heap} {μ μ' F : List Addr} (x : Ext h h' μ μ' F) {j : Nat} {a : Addr} (e : μ[j]? = some a) : μ'[j]? = some a := by
  obtain ⟨ν, rfl, _⟩ := x.pre
  rw [List.getElem?_append_left (by
    rcases Nat.lt_or_ge j μ.length with h | h
    · exact h
    · rw [List.getElem?_eq_none h] at e; cases e)]
  exact e
section
variable {h h' : Heap} {μ μ' : List Addr}
theorem Rel.map (ft : ∀ a vs n, h.get? a = some (tupObj vs n) → h'.get? a = some (tupObj vs n)) (fr : ∀ (j : Nat) (a : Addr), μ[j]? = some a → μ'[j]? = some a) {v : V} {y : Value} (r : Rel h μ v y) : Rel h' μ' v y :=
  Rel.rec (motive_1 := fun v y _ => Rel h' μ' v y) (motive_2 := fun l xs _ => Rels h' μ' l xs) .none .bool .int .str (fun e _ hl ih => .tup (ft _ _ _ e) ih hl) (fun e => .ref (fr _ _ e)) .nil (fun _ _ a r => .cons a r) r
theorem Rels.all (f : ∀ {v : V} {y : Value}, Rel h μ v y → Rel h' μ' v y) {l : List V} {vs : List Value} (r : Rels h μ l vs) : Rels h' μ' l vs :=
  r.ind (M := fun l xs => Rels h' μ' l xs) .nil fun a _ ih => .cons (f a) ih
theorem RelD.all (f : ∀ {v : V} {y : Value}, Rel h μ v y → Rel h' μ' v y) {l : List (Key × V)} {kvs : List (Key × Value)} (d : RelD h μ l kvs) : RelD h' μ' l kvs := by
  induction d with
  | nil => exact .nil
  | cons a _ ih => exact .cons (f a) ih
theorem Rel.ext {F : List Addr} (x : Ext h h' μ μ' F) (n1 : NoTup h μ) (n2 : NoTup h F) {v : V} {y : Value} (r : Rel h μ v y) : Rel h' μ' v y :=
  r.map (fun _ _ _ e => x.keep _ _ e (fun q => n1 _ q _ _ e) (fun q => n2 _ q _ _ e)) (fun _ _ e => x.get e)
theorem Rels.ext {F : List Addr} (x : Ext h h' μ μ' F) (n1 : NoTup h μ) (n2 : NoTup h F) {l : List V} {ys : List Value} (r : Rels h μ l ys) : Rels h' μ' l ys := r.all fun a => a.ext x n1 n2
theorem RelD.ext {F : List Addr} (x : Ext h h' μ μ' F) (n1 : NoTup h μ) (n2 : NoTup h F) {l : List (Key × V)} {ys : List (Key × Value)} (r : RelD h μ l ys) : RelD h' μ' l ys := r.all fun a => a.ext x n1 n2
/-- what an object is, somewhere else -/
theorem ObjR.map {prog : Program} {w : World} {a : Addr} {m : MO} (g : ∀ o, h.get? a = some o → h'.get? a = some o) (f : ∀ {v : V} {y : Value}, Rel h μ v y → Rel h' μ' v y) (o : ObjR prog w h μ a m) : ObjR prog w h' μ' a m := by
  cases o with
  | list e r hl => exact .list (g _ e) (r.all f) hl
  | fz e r hl => exact .fz (e.at g) (r.all f) hl
  | dict e r hl => exact .dict (e.at g) (r.all f) hl
end

/-! the state -/
/-- something lies above the table of modules: what is new lies higher still -/
noncomputable def Big (base : Heap) : Prop := ∃ (a : Addr) (o : Obj), sysModules < a ∧ base.get? a = some o
structure Inv (prog : Program) (w : World) (base : Heap) (os : OsState) (s : Shared) (H : AH) (μ : List Addr) : Prop where
  len : μ.length = H.length
  nd : μ.Nodup
  obj : ∀ (j : Nat) (a : Addr) (m : MO), μ[j]? = some a → H[j]? = some m → ObjR prog w s.heap μ a m
  old : Keep base s.heap
  fresh : ∀ (j : Nat) (a : Addr) (m : MO), μ[j]? = some a → H[j]? = some m → isFz m = false → base.get? a = none ∧ a ≠ sysModules
  gens : s.gens = #[]
  os : s.os = os
  big : Big base

section
variable {prog : Program} {w : World} {base : Heap} {os : OsState} {s s' : Shared} {H : AH} {μ : List Addr}
theorem Inv.ne_size (I : Inv prog w base os s H μ) {p : Addr} (h : s.heap.objs.size ≤ p) : p ≠ sysModules := by
  obtain ⟨a, o, h1, h2⟩ := I.big
  intro e
  rw [e] at h
  exact absurd (Nat.lt_trans h1 (Heap.lt_size (I.old a o h2))) (Nat.not_lt.mpr h)
theorem ObjR.noTup {h : Heap} {a : Addr} {m : MO} (o : ObjR prog w h μ a m) (vs : Array Value) (n : Nat) : h.get? a ≠ some (tupObj vs n) := by
  cases o with
  | list e _ => rw [e]; intro q; injection q with q; injection q with q; exact absurd q (by decide)
  | fz e _ =>
    obtain ⟨o, ho, hc, _⟩ := e
    rw [ho]; intro q; injection q with q; rw [q] at hc; exact absurd hc (by show Value.type "tuple" ≠ Value.type "list"; decide)
  | dict e _ =>
    obtain ⟨o, es, ep, ho, hx, hd, _⟩ := e
    rw [ho]; intro q; injection q with q; rw [q] at hd; cases hd
theorem Inv.at (I : Inv prog w base os s H μ) {a : Addr} (ha : a ∈ μ) : ∃ (j : Nat) (m : MO), μ[j]? = some a ∧ H[j]? = some m ∧ ObjR prog w s.heap μ a m := by
  obtain ⟨j, hj⟩ := List.mem_iff_getElem?.mp ha
  have hlt : j < H.length := by
    rw [← I.len]
    rcases Nat.lt_or_ge j μ.length with h | h
    · exact h
    · rw [List.getElem?_eq_none h] at hj; cases hj
  exact ⟨j, H[j], hj, List.getElem?_eq_getElem hlt, I.obj j a _ hj (List.getElem?_eq_getElem hlt)⟩
theorem Inv.noTup (I : Inv prog w base os s H μ) : NoTup s.heap μ := fun a ha vs n => by
  obtain ⟨j, m, _, _, o⟩ := I.at ha
  exact o.noTup vs n
theorem Inv.live (I : Inv prog w base os s H μ) {a : Addr} (ha : a ∈ μ) : ∃ o, s.heap.get? a = some o := by
  obtain ⟨j, m, _, _, o⟩ := I.at ha
  cases o with
  | list e _ => exact ⟨_, e⟩
  | fz e _ => obtain ⟨o, ho, _⟩ := e; exact ⟨o, ho⟩
  | dict e _ => obtain ⟨o, _, _, ho, _⟩ := e; exact ⟨o, ho⟩
theorem Inv.lt (I : Inv prog w base os s H μ) {j : Nat} {a : Addr} (e : μ[j]? = some a) : ∃ m, H[j]? = some m := by
  obtain ⟨j', m, h1, h2, _⟩ := I.at (List.mem_of_getElem? e)
  have hlt : j < H.length := by
    rw [← I.len]
    rcases Nat.lt_or_ge j μ.length with h | h
    · exact h
    · rw [List.getElem?_eq_none h] at e; cases e
  exact ⟨_, List.getElem?_eq_getElem hlt⟩
theorem ObjR.keep {h h' : Heap} {a : Addr} {m : MO} (k : Keep h h') (n1 : NoTup h μ) (o : ObjR prog w h μ a m) : ObjR prog w h' μ a m :=
  o.map (k a) fun r => r.map (fun _ _ _ e => k _ _ e) fun _ _ e => e
/-- nothing was written -/
theorem Inv.keep (I : Inv prog w base os s H μ) (k : Keep s.heap s'.heap) (hg : s'.gens = s.gens := by rfl) (ho : s'.os = s.os := by rfl) : Inv prog w base os s' H μ :=
  ⟨I.len, I.nd, fun j a m h1 h2 => (I.obj j a m h1 h2).keep k I.noTup, fun b o e => k _ _ (I.old b o e), I.fresh, hg.trans I.gens, ho.trans I.os, I.big⟩
/-- places outside are written (a frame's) -/
theorem Inv.ext (I : Inv prog w base os s H μ) {F : List Addr} (x : Ext s.heap s'.heap μ μ F) (same : ∀ a ∈ μ, s'.heap.get? a = s.heap.get? a) (n2 : NoTup s.heap F) (fr : ∀ a ∈ F, base.get? a = none)
    (hg : s'.gens = s.gens := by rfl) (ho : s'.os = s.os := by rfl) : Inv prog w base os s' H μ := by
  refine ⟨I.len, I.nd, fun j a m h1 h2 => ?_, fun b o e => ?_, I.fresh, hg.trans I.gens, ho.trans I.os, I.big⟩
  · exact (I.obj j a m h1 h2).map (fun o q => (same a (List.mem_of_getElem? h1)).trans q) fun r => r.ext x I.noTup n2
  · by_cases q : b ∈ μ
    · exact (same b q).trans (I.old b o e)
    · exact x.keep b o (I.old b o e) q (fun q => by rw [fr b q] at e; cases e)
theorem lt_of_some {α : Type} {l : List α} {i : Nat} {v : α} (e : l[i]? = some v) : i < l.length := (List.getElem?_eq_some_iff.mp e).1
/-- an object more -/
theorem at_app {α : Type} {l : List α} {m x : α} {j : Nat} {P : Prop} (e : (l ++ [m])[j]? = some x) (k1 : l[j]? = some x → P) (k2 : j = l.length → m = x → P) : P := by
  rcases Nat.lt_or_ge j l.length with h | h
  · exact k1 (by rw [List.getElem?_append_left h] at e; exact e)
  · have hl := lt_of_some e
    rw [List.length_append] at hl
    have hj : j = l.length := Nat.le_antisymm (Nat.le_of_lt_succ hl) h
    subst hj
    exact k2 rfl (by simpa using e)
theorem Inv.add (I : Inv prog w base os s H μ) {p : Addr} {m : MO} (hb : base.get? p = none ∧ p ≠ sysModules) (hμ : p ∉ μ) (nt : ∀ vs k, s.heap.get? p ≠ some (tupObj vs k)) (sb : ∀ b o, b ≠ p → s.heap.get? b = some o → s'.heap.get? b = some o)
    (hm : ObjR prog w s'.heap (μ ++ [p]) p m) (hg : s'.gens = s.gens := by rfl) (ho : s'.os = s.os := by rfl) : Inv prog w base os s' (H ++ [m]) (μ ++ [p]) := by
  have ap : ∀ {j a}, μ[j]? = some a → (μ ++ [p])[j]? = some a := fun e => (List.getElem?_append_left (lt_of_some e)).trans e
  refine ⟨by rw [List.length_append, List.length_append, I.len]; rfl, List.nodup_append.mpr ⟨I.nd, List.nodup_cons.mpr ⟨List.not_mem_nil, List.nodup_nil⟩, fun a ha b hb' e => hμ (List.mem_singleton.mp hb' ▸ e ▸ ha)⟩, fun j a m' h1 h2 => ?_, fun b o e => sb b o (fun q => by rw [q, hb.1] at e; cases e) (I.old b o e), fun j a m' h1 h2 hf => ?_, hg.trans I.gens, ho.trans I.os, I.big⟩
  · refine at_app h1 (fun h1 => at_app h2 (fun h2 => ?_) fun q _ => ?_) fun q1 q2 => at_app h2 (fun h2 => ?_) fun _ q4 => q4 ▸ q2 ▸ hm
    · exact (I.obj j a m' h1 h2).map (fun o q => sb a o (fun e => hμ (e ▸ List.mem_of_getElem? h1)) q) fun r => r.map (fun b vs k e => sb b _ (fun q => nt vs k (q ▸ e)) e) fun _ _ e => ap e
    · exact absurd (lt_of_some h1) (by rw [q, I.len]; exact Nat.lt_irrefl _)
    · exact absurd (lt_of_some h2) (by rw [q1, I.len]; exact Nat.lt_irrefl _)
  · refine at_app h1 (fun h1 => at_app h2 (fun h2 => I.fresh j a m' h1 h2 hf) fun q _ => ?_) fun _ q => q ▸ hb
    exact absurd (lt_of_some h1) (by rw [q, I.len]; exact Nat.lt_irrefl _)
theorem Inv.newP (I : Inv prog w base os s H μ) {p : Addr} (hp : s.heap.get? p = none) (q : s.heap.objs.size ≤ p) : (base.get? p = none ∧ p ≠ sysModules) ∧ p ∉ μ ∧ ∀ vs k, s.heap.get? p ≠ some (tupObj vs k) := by
  refine ⟨⟨?_, I.ne_size q⟩, fun h => ?_, fun vs k e => by rw [hp] at e; cases e⟩
  · cases q : base.get? p with
    | none => rfl
    | some o => have := I.old _ _ q; rw [hp] at this; cases this
  · obtain ⟨o, e⟩ := I.live h
    rw [hp] at e; cases e
/-- a new object somewhere -/
theorem Inv.new (I : Inv prog w base os s H μ) {p : Addr} {m : MO} (k : Keep s.heap s'.heap) (hp : s.heap.objs.size ≤ p) (hm : ObjR prog w s'.heap (μ ++ [p]) p m)
    (hg : s'.gens = s.gens := by rfl) (ho : s'.os = s.os := by rfl) : Inv prog w base os s' (H ++ [m]) (μ ++ [p]) :=
  have q := I.newP (Heap.get?_none_of_le hp) hp
  I.add q.1 q.2.1 q.2.2 (fun b o _ e => k b o e) hm hg ho
theorem Inv.push (I : Inv prog w base os s H μ) {o : Obj} {m : MO} (hm : ObjR prog w (s.heap.push o) (μ ++ [s.heap.objs.size]) s.heap.objs.size m) (hs : s'.heap = s.heap.push o)
    (hg : s'.gens = s.gens := by rfl) (ho : s'.os = s.os := by rfl) : Inv prog w base os s' (H ++ [m]) (μ ++ [s.heap.objs.size]) :=
  I.new (fun b o' e => by rw [hs]; exact Keep.push _ _ b o' e) (Nat.le_refl _) (by rw [hs]; exact hm) hg ho
theorem idx_uniq {α : Type} {μ : List α} (nd : μ.Nodup) {i j : Nat} {a : α} (e : μ[i]? = some a) (e' : μ[j]? = some a) : i = j := by
  obtain ⟨l1, e1⟩ := List.getElem?_eq_some_iff.mp e
  obtain ⟨l2, e2⟩ := List.getElem?_eq_some_iff.mp e'
  have pw := List.pairwise_iff_getElem.mp nd
  rcases Nat.lt_trichotomy i j with h | h | h
  · exact absurd (e1.trans e2.symm) (pw i j l1 l2 h)
  · exact h
  · exact absurd (e2.trans e1.symm) (pw j i l2 l1 h)
/-- an object is written -/
theorem Inv.write (I : Inv prog w base os s H μ) {j : Nat} {a : Addr} {m m₀ : MO} (hj : μ[j]? = some a) (h₀ : H[j]? = some m₀) (hf : isFz m₀ = false) (sb : Heap.SameBut a s.heap s'.heap) (lv : ∃ o, s'.heap.get? a = some o)
    (hm : (∀ {v : V} {y : Value}, Rel s.heap μ v y → Rel s'.heap μ v y) → ObjR prog w s'.heap μ a m)
    (hg : s'.gens = s.gens := by rfl) (ho : s'.os = s.os := by rfl) : Inv prog w base os s' (H.set j m) μ ∧ Ext s.heap s'.heap μ μ [] := by
  have ha := List.mem_of_getElem? hj
  have x : Ext s.heap s'.heap μ μ [] := by
    refine ⟨⟨[], by simp, by simp⟩, fun b o e => ?_, fun b o e h1 _ => ?_⟩
    · by_cases h : b = a
      · subst h; exact lv
      · exact ⟨o, (sb.2 b h).trans e⟩
    · exact (sb.2 b (fun h => h1 (h ▸ ha))).trans e
  have n2 : NoTup s.heap [] := fun _ q => nomatch q
  refine ⟨⟨by simp [I.len], I.nd, fun i b m' h1 h2 => ?_, fun b o e => ?_, fun i b m' h1 h2 q => ?_, hg.trans I.gens, ho.trans I.os, I.big⟩, x⟩
  · by_cases hij : i = j
    · subst hij
      rw [hj] at h1
      rw [List.getElem?_set_self (lt_of_some h₀)] at h2
      rw [← Option.some.inj h1, ← Option.some.inj h2]
      exact hm fun r => r.ext x I.noTup n2
    · rw [List.getElem?_set_ne (Ne.symm hij)] at h2
      exact (I.obj i b m' h1 h2).map (fun o q => (sb.2 b fun e => hij (idx_uniq I.nd (e ▸ h1) hj)).trans q) fun r => r.ext x I.noTup n2
  · exact (sb.2 b (fun h => by rw [h, (I.fresh j a _ hj h₀ hf).1] at e; cases e)).trans (I.old b o e)
  · by_cases hij : i = j
    · subst hij
      rw [hj] at h1; cases h1
      exact I.fresh i a _ hj h₀ hf
    · rw [List.getElem?_set_ne (Ne.symm hij)] at h2
      exact I.fresh i b m' h1 h2 q
end

/-! a frame -/
structure FrameOk (base h : Heap) (μ : List Addr) (env : Env) (ρ : Loc) : Prop where
  kind : env.scope.kind = .function
  glob : env.globals = mainGlobals
  bi : env.builtins = builtinsNs
  len : ρ.length = env.scope.names.length
  nd : (env.scope.names.map (·.1)).Nodup
  ns : ∃ m, h.Ns env.locals m ∧ ∀ (i : Nat) (x : Str) (v : V), env.scope.names[i]? = some (x, .local) → ρ[i]? = some (some v) → ∃ y, m x = some y ∧ Rel h μ v y
  cell : ∀ (i : Nat) (x : Str) (k : NameKind), env.scope.names[i]? = some (x, k) → k = .cell ∨ k = .free → ∃ c ov, env.cells.lookup x = some c ∧ h.IsCell c ov ∧ ∀ v, ρ[i]? = some (some v) → ∃ y, ov = some y ∧ Rel h μ v y
  apart : env.cells.Pairwise fun x y => x.2 ≠ y.2
  away : ∀ n c, (n, c) ∈ env.cells → c ≠ env.locals ∧ c ∉ μ ∧ base.get? c = none ∧ ∃ ov, h.IsCell c ov
  out : env.locals ∉ μ ∧ base.get? env.locals = none
noncomputable def own (env : Env) : List Addr := env.locals :: env.cells.map (·.2)
section
variable {base h h' : Heap} {μ μ' : List Addr} {env : Env} {ρ : Loc}
theorem FrameOk.noTup (f : FrameOk base h μ env ρ) : NoTup h (own env) := by
  intro a ha vs n
  rcases List.mem_cons.mp ha with rfl | ha
  · obtain ⟨m, ⟨o, es, ep, ho, hd, _⟩, _⟩ := f.ns
    rw [ho]; intro q; injection q with q; rw [q] at hd; cases hd
  · obtain ⟨⟨x, c⟩, hm, rfl⟩ := List.mem_map.mp ha
    obtain ⟨_, _, _, ov, o, ho, hd⟩ := f.away x c hm
    rw [ho]; intro q; injection q with q; rw [q] at hd; cases hd
theorem FrameOk.fresh (f : FrameOk base h μ env ρ) : ∀ a ∈ own env, base.get? a = none := by
  intro a ha
  rcases List.mem_cons.mp ha with rfl | ha
  · exact f.out.2
  · obtain ⟨⟨x, c⟩, hm, rfl⟩ := List.mem_map.mp ha
    exact (f.away x c hm).2.2.1
theorem FrameOk.apartμ (f : FrameOk base h μ env ρ) : ∀ a ∈ own env, a ∉ μ := by
  intro a ha
  rcases List.mem_cons.mp ha with rfl | ha
  · exact f.out.1
  · obtain ⟨⟨x, c⟩, hm, rfl⟩ := List.mem_map.mp ha
    exact (f.away x c hm).2.1
/-- an expression has run -/
theorem FrameOk.ext (f : FrameOk base h μ env ρ) (x : Ext h h' μ μ' []) (n1 : NoTup h μ) : FrameOk base h' μ' env ρ := by
  have n2 : NoTup h [] := fun _ q => nomatch q
  have notin : ∀ a o, h.get? a = some o → a ∉ μ → a ∉ μ' := fun a o e hm hm' => by
    obtain ⟨ν, rfl, hν⟩ := x.pre
    rcases List.mem_append.mp hm' with q | q
    · exact hm q
    · rw [hν a q] at e; cases e
  refine ⟨f.kind, f.glob, f.bi, f.len, f.nd, ?_, fun i y k h1 h2 => ?_, f.apart, fun n c hm => ?_, ?_⟩
  · obtain ⟨m, hn, hv⟩ := f.ns
    refine ⟨m, hn.at' fun o e => x.keep _ _ e f.out.1 (by simp), fun i y v h1 h2 => ?_⟩
    obtain ⟨z, h3, h4⟩ := hv i y v h1 h2
    exact ⟨z, h3, h4.ext x n1 n2⟩
  · obtain ⟨c, ov, h3, ⟨o, ho, hd⟩, h5⟩ := f.cell i y k h1 h2
    have a1 := f.away y c (mem_of_lookup h3)
    refine ⟨c, ov, h3, ⟨o, x.keep _ _ ho a1.2.1 (by simp), hd⟩, fun v hv => ?_⟩
    obtain ⟨z, h6, h7⟩ := h5 v hv
    exact ⟨z, h6, h7.ext x n1 n2⟩
  · obtain ⟨a1, a2, a3, ov, o, ho, hd⟩ := f.away n c hm
    exact ⟨a1, notin _ _ ho a2, a3, ov, o, x.keep _ _ ho a2 (by simp), hd⟩
  · obtain ⟨m, ⟨o, es, ep, ho, _⟩, _⟩ := f.ns
    exact ⟨notin _ _ ho f.out.1, f.out.2⟩
end
end Mine
/-! TM0 -/
namespace Mine
open PySem PySem.Calls PyProof.Rows PySem.SeqAt PySem.W
theorem tm_noFill : fillsNumberSlot (.type "tuple") "mul" = pure false :=
  PySem.fillsNumberSlot_seq (id := "tuple.__mul__") (r := some (.builtin "tuple.__rmul__")) PySem.F.slot_tuple_mul.lookup (by decide +kernel) PySem.F.slot_tuple_rmul.lookup (by decide +kernel)
theorem tm_repeat : seqRepeat? (.type "tuple") = pure (some (.builtin "tuple.__mul__")) := by
  unfold seqRepeat?
  rw [PySem.seqSlot_of (T := "tuple") (name := "__mul__") (id := "tuple.__mul__") PySem.F.slot_tuple_mul.lookup (by decide +kernel), PySem.seqSlot_of (T := "tuple") (name := "__rmul__") (id := "tuple.__rmul__") PySem.F.slot_tuple_rmul.lookup (by decide +kernel)]
  rfl
theorem tm_rmul (a : Int) (t : Tok) (l : Addr) (items : Array Value) (n : Nat) :
    Meets (Builtin.«int.__rmul__» ⟨[.int a t, .ref l], []⟩) (fun _ R s => s.heap.get? l = some (tupObj items n) ∧ R (.ok (.ret Value.notImplemented)) s) :=
  .of_wp fun prog w A R s h => by obtain ⟨hp, g, d, tk, os⟩ := s; obtain ⟨hl, h⟩ := h; wp_walk; exact ⟨_, rfl, h⟩
theorem tm_size (a : Array Value) : ∀ (k : Nat) (acc : Array Value), (List.foldl (fun x1 x2 => x1 ++ x2) acc (List.replicate k a)).size = acc.size + k * a.size := by
  intro k
  induction k with
  | zero => intro acc; simp
  | succ k ih =>
    intro acc
    rw [List.replicate_succ, List.foldl_cons, ih, Array.size_append, Nat.add_mul]
    omega
/-- more than once -/
theorem tm_many (l : Addr) (items : Array Value) (n : Nat) (x : Int) (u : Tok) (h2 : 2 ≤ x) (h3 : x ≤ 1000) (h0 : items.isEmpty = false) (hsz : items.size * x.toNat ≤ 2 ^ 20) :
    Meets (Builtin.«tuple.__mul__» ⟨[.ref l, .int x u], []⟩) (fun _ R s => s.heap.get? l = some (tupObj items n) ∧ R (.ok (.ret (Value.ref s.heap.objs.size))) { s with heap := s.heap.push (tupObj (List.foldl (fun x1 x2 => x1 ++ x2) #[] (List.replicate x.toNat items)) 0) }) :=
  .of_wp fun prog w A R s h => by
    obtain ⟨hp, g, d, tk, os⟩ := s; obtain ⟨hl, h⟩ := h
    have c1 : ¬ (x < -(2 ^ 63) ∨ x ≥ 2 ^ 63) := by omega
    wp_walk
    rw [if_neg (by simp; omega)]
    wp_walk
    rw [if_neg (by simp [h0]; omega)]
    rw [if_neg (by simp [h0]; omega)]
    have e1 : ((items.size : Nat) : Int) * x = ((items.size * x.toNat : Nat) : Int) := by
      have : (x.toNat : Int) = x := by omega
      rw [Int.natCast_mul, this]
    rw [e1]
    rw [if_neg (by omega)]
    have hs : sizeLine = 16777216 := by decide
    rw [if_neg (by unfold Builtin.Tuple.tupleTooMany; rw [hs]; simp only [decide_eq_true_eq]; omega)]
    have e2 := tm_size items x.toNat #[]
    wp_walk
    rw [if_neg (by rw [e2, hs]; simp only [List.size_toArray, List.length_nil]; rw [Nat.mul_comm] at hsz; omega)]
    wp_walk
    exact ⟨_, rfl, h⟩
/-- not at all -/
theorem tm_zero (l : Addr) (items : Array Value) (n : Nat) (u : Tok) (h0 : items.isEmpty = false) :
    Meets (Builtin.«tuple.__mul__» ⟨[.ref l, .int 0 u], []⟩) (fun _ R s => s.heap.get? l = some (tupObj items n) ∧ R (.ok (.ret (Value.ref s.heap.objs.size))) { s with heap := s.heap.push (tupObj #[] 0) }) :=
  .of_wp fun prog w A R s h => by
    obtain ⟨hp, g, d, tk, os⟩ := s; obtain ⟨hl, h⟩ := h
    wp_walk
    exact ⟨_, rfl, h⟩
/-- once: itself -/
theorem tm_once (l : Addr) (items : Array Value) (n : Nat) (x : Int) (u : Tok) (h0 : items.isEmpty = true ∨ x = 1) (h1 : 0 ≤ x) (h3 : x ≤ 1000) :
    Meets (Builtin.«tuple.__mul__» ⟨[.ref l, .int x u], []⟩) (fun _ R s => s.heap.get? l = some (tupObj items n) ∧ R (.ok (.ret (Value.ref l))) s) :=
  .of_wp fun prog w A R s h => by
    obtain ⟨hp, g, d, tk, os⟩ := s; obtain ⟨hl, h⟩ := h
    wp_walk
    rw [if_neg (by simp; omega)]
    wp_walk
    rw [if_pos (by simpa using h0)]
    wp_walk
    exact ⟨_, rfl, h⟩
end Mine
/-! Snd2 -/
namespace Mine
open PySem PySem.Calls PyProof.Rows

/-! what an expression leaves behind -/
noncomputable def Post (prog : Program) (w : World) (base : Heap) (os : OsState) (h : Heap) (μ : List Addr) (H' : AH) (v : V) (sm : Bool) : Value → Shared → Prop := fun x s' =>
  ∃ μ', Inv prog w base os s' H' μ' ∧ Ext h s'.heap μ μ' [] ∧ Rel s'.heap μ' v x ∧ (sm = true → Keep h s'.heap)
section
variable {prog : Program} {w : World} {base : Heap} {os : OsState} {A : Around} {E : Value → Shared → Prop} {s s' : Shared} {H H' : AH} {μ : List Addr} {v : V} {x : Value} {sm : Bool}

/-- nothing but the count of marks has moved -/
theorem Post.same (I : Inv prog w base os s H μ) (r : Rel s.heap μ v x) (hs : s'.heap = s.heap) (hg : s'.gens = s.gens := by rfl) (ho : s'.os = s.os := by rfl) : Post prog w base os s.heap μ H v sm x s' := by
  have k : Keep s.heap s'.heap := fun b o e => by rw [hs]; exact e
  exact ⟨μ, I.keep k hg ho, Ext.of_keep k μ [], by rw [hs]; exact r, fun _ => k⟩
/-- a new tuple -/
theorem Post.tuple (I : Inv prog w base os s H μ) {l : List V} {vs : List Value} (r : Rels s.heap μ l vs) (hl : l.length ≤ lineN) (hs : s'.heap = s.heap.push { cls := .type "tuple", data := .seq vs.toArray })
    (hg : s'.gens = s.gens := by rfl) (ho : s'.os = s.os := by rfl) : Post prog w base os s.heap μ H (.tup l) sm (.ref s.heap.objs.size) s' := by
  have k : Keep s.heap s'.heap := fun b o e => by rw [hs]; exact Keep.push _ _ b o e
  refine ⟨μ, I.keep k hg ho, Ext.of_keep k μ [], .tup (n := 0) (by rw [hs]; exact Heap.get?_push_size _ rfl) (r.ext (Ext.of_keep k μ []) I.noTup fun _ q => nomatch q) hl, fun _ => k⟩
/-- a new list -/
theorem Post.list (I : Inv prog w base os s H μ) {l : List V} {vs : List Value} (r : Rels s.heap μ l vs) (hl : l.length ≤ lineN) (hs : s'.heap = s.heap.push { cls := .type "list", data := .seq vs.toArray })
    (hg : s'.gens = s.gens := by rfl) (ho : s'.os = s.os := by rfl) : Post prog w base os s.heap μ (H ++ [.list l]) (.ref H.length) sm (.ref s.heap.objs.size) s' := by
  have k : Keep s.heap s'.heap := fun b o e => by rw [hs]; exact Keep.push _ _ b o e
  have x := Ext.push s.heap { cls := .type "list", data := .seq vs.toArray } μ []
  have r' := r.ext x I.noTup fun _ q => nomatch q
  refine ⟨μ ++ [s.heap.objs.size], I.push (.list (n := 0) (Heap.get?_push_size _ rfl) r' hl) hs hg ho, by rw [hs]; exact x, .ref ?_, fun _ => k⟩
  rw [List.getElem?_append_right (by rw [I.len]; exact Nat.le_refl _), I.len]
  simp
theorem Post.mono {h : Heap} {sm' : Bool} (p : Post prog w base os h μ H v sm x s') (q : sm' = true → sm = true) : Post prog w base os h μ H v sm' x s' := by
  obtain ⟨μ', a, b, c, d⟩ := p
  exact ⟨μ', a, b, c, fun e => d (q e)⟩
theorem Post.trans {h : Heap} {μ₁ : List Addr} {sm₁ : Bool} (e : Ext h s.heap μ μ₁ []) (k : sm₁ = true → Keep h s.heap) (p : Post prog w base os s.heap μ₁ H v sm x s') (q : sm = true → sm₁ = true) :
    Post prog w base os h μ H v sm x s' := by
  obtain ⟨μ', a, b, c, d⟩ := p
  exact ⟨μ', a, e.trans b, c, fun z b o e' => d z _ _ (k (q z) b o e')⟩

theorem Rel.inj_int {h : Heap} {i : Int} (r : Rel h μ (.int i) x) : ∃ t, x = .int i t := by cases r; exact ⟨_, rfl⟩
theorem Rel.inj_str {h : Heap} {n : Nat} (r : Rel h μ (.str n) x) : ∃ t, x = .str (dec n) t := by cases r; exact ⟨_, rfl⟩
theorem Rel.inj_bool {h : Heap} {b : Bool} (r : Rel h μ (.bool b) x) : x = .bool b := by cases r; rfl
theorem Rel.inj_tup {h : Heap} {l : List V} (r : Rel h μ (.tup l) x) : ∃ a vs n, x = .ref a ∧ h.get? a = some (tupObj (List.toArray vs) n) ∧ Rels h μ l vs ∧ l.length ≤ lineN := by
  cases r with | tup a b c => exact ⟨_, _, _, rfl, a, b, c⟩
theorem Rel.inj_ref {h : Heap} {j : Nat} (r : Rel h μ (.ref j) x) : ∃ a, x = .ref a ∧ μ[j]? = some a := by
  cases r with | ref e => exact ⟨_, rfl, e⟩
theorem Inv.list (I : Inv prog w base os s H μ) {j : Nat} {a : Addr} {l : List V} (e : μ[j]? = some a) (e' : H[j]? = some (.list l)) :
    ∃ vs n, s.heap.get? a = some (lstObj (List.toArray vs) n) ∧ Rels s.heap μ l vs ∧ l.length ≤ lineN := by
  cases I.obj j a _ e e' with | list a b c => exact ⟨_, _, a, b, c⟩
theorem Inv.fz (I : Inv prog w base os s H μ) {j : Nat} {a : Addr} {l : List V} (e : μ[j]? = some a) (e' : H[j]? = some (.fz l)) :
    ∃ vs, s.heap.IsList a (List.toArray vs) ∧ Rels s.heap μ l vs ∧ l.length ≤ lineN := by
  cases I.obj j a _ e e' with | fz a b c => exact ⟨_, a, b, c⟩
theorem Inv.dict (I : Inv prog w base os s H μ) {j : Nat} {a : Addr} {l : List (Key × V)} (e : μ[j]? = some a) (e' : H[j]? = some (.dict l)) :
    ∃ kvs, s.heap.DictOf (kn prog w) a kvs ∧ RelD s.heap μ l kvs ∧ l.length ≤ lineN := by
  cases I.obj j a _ e e' with | dict a b c => exact ⟨_, a, b, c⟩

theorem fin {M : Model} {c : Sem Value} {h : Heap} {v0 : V} {H0 : AH} (e : some (v0, H0) = some (v, H')) (k : wpAny M A c (Post prog w base os h μ H0 v0 sm) E s) : wpAny M A c (Post prog w base os h μ H' v sm) E s := by
  cases e; exact k
/-! a value of a known kind, and its place in the model -/
theorem on_int {γ : Type} {h : Heap} {a : V} {f : Int → Option γ} {r : γ} {P : V → Value → Prop} (e : onInt a f = some r) (ra : Rel h μ a x) (k : ∀ i t, f i = some r → P (.int i) (.int i t)) : P a x :=
  onInt_elim (P := fun a => Rel h μ a x → P a x) e (fun i e r => by cases r; exact k i _ e) ra
theorem on_str {γ : Type} {h : Heap} {a : V} {f : Nat → Option γ} {r : γ} {P : V → Value → Prop} (e : onStr a f = some r) (ra : Rel h μ a x) (k : ∀ i t, f i = some r → P (.str i) (.str (dec i) t)) : P a x :=
  onStr_elim (P := fun a => Rel h μ a x → P a x) e (fun i e r => by cases r; exact k i _ e) ra
theorem ca_int {γ : Type} {h : Heap} {a : V} {f : Int → Option γ} {g : Option γ} {r : γ} {P : V → Value → Prop} (e : caI a f g = some r) (ra : Rel h μ a x) (k : ∀ i t, f i = some r → P (.int i) (.int i t)) (k' : g = some r → P a x) : P a x :=
  caI_elim (P := fun a => Rel h μ a x → (g = some r → P a x) → P a x) e (fun i e r _ => by cases r; exact k i _ e) (fun e _ k' => k' e) ra k'
theorem ca_str {γ : Type} {h : Heap} {a : V} {f : Nat → Option γ} {g : Option γ} {r : γ} {P : V → Value → Prop} (e : caS a f g = some r) (ra : Rel h μ a x) (k : ∀ i t, f i = some r → P (.str i) (.str (dec i) t)) (k' : g = some r → P a x) : P a x :=
  caS_elim (P := fun a => Rel h μ a x → (g = some r → P a x) → P a x) e (fun i e r _ => by cases r; exact k i _ e) (fun e _ k' => k' e) ra k'
theorem ca_tup {γ : Type} {h : Heap} {a : V} {f : List V → Option γ} {g : Option γ} {r : γ} {P : V → Value → Prop} (e : caT a f g = some r) (ra : Rel h μ a x) (k : ∀ l p vs n, h.get? p = some (tupObj (List.toArray vs) n) → Rels h μ l vs → l.length ≤ lineN → f l = some r → P (.tup l) (.ref p)) (k' : g = some r → P a x) : P a x :=
  caT_elim (P := fun a => Rel h μ a x → (g = some r → P a x) → P a x) e (fun i e r _ => by cases r with | tup a b c => exact k i _ _ _ a b c e) (fun e _ k' => k' e) ra k'
theorem on_ref {γ : Type} {h : Heap} {a : V} {f : Nat → Option γ} {r : γ} {P : V → Value → Prop} (e : onRef a f = some r) (ra : Rel h μ a x) (k : ∀ j p, μ[j]? = some p → f j = some r → P (.ref j) (.ref p)) : P a x :=
  onRef_elim (P := fun a => Rel h μ a x → P a x) e (fun i e r => by cases r with | ref a => exact k i _ a e) ra
theorem on_lst {γ : Type} {a : V} {f : Nat → List V → Option γ} {r : γ} {P : V → Value → Prop} (I : Inv prog w base os s H μ) (e : onL H a f = some r) (ra : Rel s.heap μ a x)
    (k : ∀ j l p vs n, μ[j]? = some p → H[j]? = some (.list l) → s.heap.get? p = some (lstObj (List.toArray vs) n) → Rels s.heap μ l vs → l.length ≤ lineN → f j l = some r → P (.ref j) (.ref p)) : P a x :=
  on_ref e ra fun j p hp e => obn_elim e fun l hl e => by
    have hl := lst_eq hl
    obtain ⟨vs, n, h1, h2, h3⟩ := I.list hp hl
    exact k j l p vs n hp hl h1 h2 h3 e
theorem on_dct {γ : Type} {a : V} {f : Nat → List (Key × V) → Option γ} {r : γ} {P : V → Value → Prop} (I : Inv prog w base os s H μ) (e : onD H a f = some r) (ra : Rel s.heap μ a x)
    (k : ∀ j l p kvs, μ[j]? = some p → H[j]? = some (.dict l) → s.heap.DictOf (kn prog w) p kvs → RelD s.heap μ l kvs → l.length ≤ lineN → f j l = some r → P (.ref j) (.ref p)) : P a x :=
  on_ref e ra fun j p hp e => obn_elim e fun l hl e => by
    have hl := dct_eq hl
    obtain ⟨kvs, h1, h2, h3⟩ := I.dict hp hl
    exact k j l p kvs hp hl h1 h2 h3 e
theorem ca_lst {γ : Type} {a : V} {f : Nat → List V → Option γ} {g : Option γ} {r : γ} {P : V → Value → Prop} (I : Inv prog w base os s H μ) (e : caL H a f g = some r) (ra : Rel s.heap μ a x)
    (k : ∀ j l p vs n, μ[j]? = some p → H[j]? = some (.list l) → s.heap.get? p = some (lstObj (List.toArray vs) n) → Rels s.heap μ l vs → l.length ≤ lineN → f j l = some r → P (.ref j) (.ref p)) (k' : g = some r → P a x) : P a x :=
  caL_elim (P := fun a => Rel s.heap μ a x → (g = some r → P a x) → P a x) e (fun j l hl e ra _ => by
    cases ra with
    | ref hp =>
      obtain ⟨vs, n, h1, h2, h3⟩ := I.list hp hl
      exact k j l _ vs n hp hl h1 h2 h3 e) (fun e _ k' => k' e) ra k'
theorem small_bits {a : Int} (h : small a = true) : Builtin.Int.intBits a ≤ 64 := by
  have h' : a.natAbs < 2 ^ 60 := of_decide_eq_true h
  exact intBits_le_64 (by omega) (by omega)
theorem dec_cat (a b : Nat) : dec (cat a b) = dec a ++ dec b := by
  show (⟨(decL (cat a b) (cat a b)).toArray⟩ : PySem.Str) = ⟨(decL a a).toArray ++ (decL b b).toArray⟩
  rw [decL_cat, List.append_toArray]
theorem foldl_app {α : Type} (L : List (List α)) : ∀ acc : Array α, (L.map List.toArray).foldl (fun x y => x ++ y) acc = acc ++ L.flatten.toArray := by
  induction L with
  | nil => intro acc; simp
  | cons l L ih =>
    intro acc
    rw [List.map_cons, List.foldl_cons, ih]
    simp

theorem line_le {n : Nat} (h : n ≤ lineN) : n ≤ sizeLine :=
  Nat.le_trans h (by decide)
theorem add_tup (I : Inv prog w base os s H μ) {l m : List V} {t u : Addr} {vs ws : List Value} {n n' : Nat} (ht : s.heap.get? t = some (tupObj vs.toArray n)) (rl : Rels s.heap μ l vs) (ra : Rel s.heap μ (.tup l) (.ref t))
    (hu : s.heap.get? u = some (tupObj ws.toArray n')) (rm : Rels s.heap μ m ws) (rb : Rel s.heap μ (.tup m) (.ref u)) (hl : l.length + m.length ≤ lineN) : wpAny (model prog w) A (binaryOp .Add (.ref t) (.ref u)) (Post prog w base os s.heap μ H (.tup (l ++ m)) true) E s := by
  by_cases hv : vs = []
  · refine concat_meets ⟨_, ht, rfl⟩ ⟨_, hu, rfl⟩ noFill_tuple_add seq_tuple_add PySem.F.slot_tuple_add PySem.F.entry_tuple_add (PySem.F.args_tuple_add_2 _ _)
      (tuple_addW0 t u vs.toArray ws.toArray n n' none none #[] #[] (by rw [hv]; rfl)) ⟨ht, hu, ?_⟩
    have : l = [] := List.length_eq_zero_iff.mp (by rw [← rl.length, hv]; rfl)
    rw [this]
    exact Post.same I rb rfl
  · by_cases hw : ws = []
    · refine concat_meets ⟨_, ht, rfl⟩ ⟨_, hu, rfl⟩ noFill_tuple_add seq_tuple_add PySem.F.slot_tuple_add PySem.F.entry_tuple_add (PySem.F.args_tuple_add_2 _ _)
        (tuple_addW1 t u vs.toArray ws.toArray n n' none none #[] #[] (by simpa using hv) (by rw [hw]; rfl)) ⟨ht, hu, ?_⟩
      have : m = [] := List.length_eq_zero_iff.mp (by rw [← rm.length, hw]; rfl)
      rw [this, List.append_nil]
      exact Post.same I ra rfl
    · refine concat_meets ⟨_, ht, rfl⟩ ⟨_, hu, rfl⟩ noFill_tuple_add seq_tuple_add PySem.F.slot_tuple_add PySem.F.entry_tuple_add (PySem.F.args_tuple_add_2 _ _)
        (tuple_addW2 t u vs.toArray ws.toArray n n' none none #[] #[] (by simpa using hv) (by simpa using hw) (by rw [List.size_toArray, List.size_toArray, rl.length, rm.length]; exact line_le hl)) ⟨ht, hu, ?_⟩
      rw [List.append_toArray]
      exact Post.tuple I (rl.append rm) (by rw [List.length_append]; exact hl) rfl
theorem add_snd {a b : V} {y : Value} (he : addV a b H = some (v, H')) (I : Inv prog w base os s H μ) (ra : Rel s.heap μ a x) (rb : Rel s.heap μ b y) : wpAny (model prog w) A (binaryOp .Add x y) (Post prog w base os s.heap μ H' v true) E s :=
  ca_int (P := fun _ x => wpAny (model prog w) A (binaryOp .Add x y) (Post prog w base os s.heap μ H' v true) E s) he ra
    (fun i t he => on_int (P := fun _ y => wpAny (model prog w) A (binaryOp .Add (.int i t) y) (Post prog w base os s.heap μ H' v true) E s) he rb fun j u he => fin he (PyProof.Rows.add_int (Post.same I (.int _ _) rfl))) fun he =>
  ca_str (P := fun _ x => wpAny (model prog w) A (binaryOp .Add x y) (Post prog w base os s.heap μ H' v true) E s) he ra
    (fun i t he => on_str (P := fun _ y => wpAny (model prog w) A (binaryOp .Add (.str (dec i) t) y) (Post prog w base os s.heap μ H' v true) E s) he rb fun j u he => gud_elim he fun hl he => fin he (PyProof.Rows.add_str (fun t' tk => dec_cat i j ▸ Post.same I (.str _ _) rfl) (by
      show (decL i i).toArray.size + (decL j j).toArray.size ≤ sizeLine
      rw [List.size_toArray, List.size_toArray]; exact line_le hl))) fun he =>
  ca_tup (P := fun a x => Rel s.heap μ a x → wpAny (model prog w) A (binaryOp .Add x y) (Post prog w base os s.heap μ H' v true) E s) he ra
    (fun l p vs n hp rl _ he ra => ca_tup (P := fun b y => Rel s.heap μ b y → wpAny (model prog w) A (binaryOp .Add (.ref p) y) (Post prog w base os s.heap μ H' v true) E s) he rb
      (fun m q ws n' hq rm _ he rb => gud_elim he fun hl he => fin he (add_tup I hp rl ra hq rm rb hl)) (fun he => nomatch he) rb) (fun he ra =>
  on_lst (P := fun _ x => wpAny (model prog w) A (binaryOp .Add x y) (Post prog w base os s.heap μ H' v true) E s) I he ra fun i l p vs n _ _ hp rl _ he =>
    on_lst (P := fun _ y => wpAny (model prog w) A (binaryOp .Add (.ref p) y) (Post prog w base os s.heap μ H' v true) E s) I he rb fun j m q ws n' _ _ hq rm _ he => gud_elim he fun hl he => fin he <|
      PySem.P.add_list hp hq (by rw [List.append_toArray]; exact Post.list I (rl.append rm) (by rw [List.length_append]; exact hl) rfl) (by rw [List.size_toArray, List.size_toArray, rl.length, rm.length]; exact line_le hl)) ra
theorem mul_tup (I : Inv prog w base os s H μ) {l : List V} {p : Addr} {vs : List Value} {k : Nat} {y : Int} {u : Tok} (h1 : s.heap.get? p = some (tupObj vs.toArray k)) (rs : Rels s.heap μ l vs) (ra : Rel s.heap μ (.tup l) (.ref p)) (hy : 0 ≤ y ∧ y ≤ 1000 ∧ y.toNat * l.length ≤ lineN) :
    wpAny (model prog w) A (binaryOp .Mult (.ref p) (.int y u)) (Post prog w base os s.heap μ H (.tup (List.replicate y.toNat l).flatten) true) E s := by
  have hlo : lineN = 1048576 := by decide
  have hsz : vs.toArray.size * y.toNat ≤ 2 ^ 20 := by
    rw [List.size_toArray, rs.length, Nat.mul_comm]
    have := hy.2.2
    omega
  refine wpAny_binaryOp_repeat_ref (T := "tuple") (U := "int") (by decide) ⟨_, h1, rfl⟩ (fun s' => typeIs_int s' y u) tm_noFill PySem.F.fills_int_mul PySem.F.slot_int_rmul tm_repeat PySem.F.slot_int_index.lookup
    (call_meets PySem.F.slot_int_rmul (typeIs_int s y u) PySem.F.entry_int_rmul (PySem.F.args_int_rmul_2 _ _) (tm_rmul y u p vs.toArray k)
      ⟨h1, rfl, ⟨_, h1, rfl⟩, ?_⟩)
  by_cases h2 : vs.toArray.isEmpty = true ∨ y = 1
  · refine call_meets PySem.F.slot_tuple_mul ⟨_, h1, rfl⟩ PySem.F.entry_tuple_mul (PySem.F.args_tuple_mul_2 _ _) (tm_once p vs.toArray k y u h2 hy.1 hy.2.1) ⟨h1, ?_⟩
    have e : (List.replicate y.toNat l).flatten = l := by
      rcases h2 with h2 | h2
      · have h3 : vs = [] := by simpa using h2
        have h4 : l = [] := List.length_eq_zero_iff.mp (by rw [← rs.length, h3]; rfl)
        rw [h4]; simp
      · rw [h2]; simp
    rw [e]
    exact Post.same I ra rfl
  · have h0 : vs.toArray.isEmpty = false := by
      cases q : vs.toArray.isEmpty with
      | false => rfl
      | true => exact absurd (.inl q) h2
    have h1' : y ≠ 1 := fun q => h2 (.inr q)
    have hl : (List.replicate y.toNat l).flatten.length ≤ lineN := by have := hy.2.2; simpa using this
    have r' := rs.replicate y.toNat
    by_cases h4 : y = 0
    · subst h4
      exact call_meets PySem.F.slot_tuple_mul ⟨_, h1, rfl⟩ PySem.F.entry_tuple_mul (PySem.F.args_tuple_mul_2 _ _) (tm_zero p vs.toArray k u h0) ⟨h1, Post.tuple I r' hl rfl⟩
    · refine call_meets PySem.F.slot_tuple_mul ⟨_, h1, rfl⟩ PySem.F.entry_tuple_mul (PySem.F.args_tuple_mul_2 _ _) (tm_many p vs.toArray k y u (by have := hy.1; omega) hy.2.1 h0 hsz) ⟨h1, ?_⟩
      have e1 : List.replicate y.toNat vs.toArray = (List.replicate y.toNat vs).map List.toArray := by rw [List.map_replicate]
      rw [e1, foldl_app]
      rw [Array.empty_append]
      exact Post.tuple I r' hl rfl
theorem mul_snd {a b : V} {y : Value} (he : mulV a b H = some (v, H')) (I : Inv prog w base os s H μ) (ra : Rel s.heap μ a x) (rb : Rel s.heap μ b y) : wpAny (model prog w) A (binaryOp .Mult x y) (Post prog w base os s.heap μ H' v true) E s :=
  ca_int (P := fun a x => Rel s.heap μ a x → wpAny (model prog w) A (binaryOp .Mult x y) (Post prog w base os s.heap μ H' v true) E s) he ra
    (fun i t he _ => on_int (P := fun _ y => wpAny (model prog w) A (binaryOp .Mult (.int i t) y) (Post prog w base os s.heap μ H' v true) E s) he rb fun j u he => gua_elim he fun hs he => fin he (PyProof.Rows.mul_int (Post.same I (.int _ _) rfl) (IntMulOk.of_left (small_bits hs)))) (fun he ra =>
  ca_tup (P := fun a x => Rel s.heap μ a x → wpAny (model prog w) A (binaryOp .Mult x y) (Post prog w base os s.heap μ H' v true) E s) he ra
    (fun l p vs n hp rs _ he ra => on_int (P := fun _ y => wpAny (model prog w) A (binaryOp .Mult (.ref p) y) (Post prog w base os s.heap μ H' v true) E s) he rb fun y u he => gud_elim he fun hy he => fin he (mul_tup I hp rs ra hy))
    (fun he => nomatch he) ra) ra
theorem int2 {f : Int → Int → Option (V × AH)} {a b : V} {y : Value} {c : Value → Value → Sem Value} (he : (onInt a fun x => onInt b (f x)) = some (v, H')) (ra : Rel s.heap μ a x) (rb : Rel s.heap μ b y)
    (k : ∀ i t j u, f i j = some (v, H') → wpAny (model prog w) A (c (.int i t) (.int j u)) (Post prog w base os s.heap μ H' v true) E s) : wpAny (model prog w) A (c x y) (Post prog w base os s.heap μ H' v true) E s :=
  on_int (P := fun _ x => wpAny (model prog w) A (c x y) (Post prog w base os s.heap μ H' v true) E s) he ra fun i t he => on_int (P := fun _ y => wpAny (model prog w) A (c (.int i t) y) (Post prog w base os s.heap μ H' v true) E s) he rb fun j u he => k i t j u he
theorem bin_snd {op : Operator} {a b : V} {y : Value} (he : binV op a b H = some (v, H')) (I : Inv prog w base os s H μ) (ra : Rel s.heap μ a x) (rb : Rel s.heap μ b y) :
    wpAny (model prog w) A (binaryOp op x y) (Post prog w base os s.heap μ H' v true) E s := by
  cases op
  case Add => exact add_snd he I ra rb
  case Mult => exact mul_snd he I ra rb
  case Sub => exact int2 (c := binaryOp .Sub) he ra rb fun i t j u he => fin he (PyProof.Rows.sub_int (Post.same I (.int _ _) rfl))
  case Mod => exact int2 (c := binaryOp .Mod) he ra rb fun i t j u he => gud_elim he fun h0 he => fin he (PyProof.Rows.mod_int' h0 (Post.same I (.int _ _) rfl))
  case FloorDiv => exact int2 (c := binaryOp .FloorDiv) he ra rb fun i t j u he => gud_elim he fun h0 he => fin he (PyProof.Rows.floordiv_int h0.1 (Post.same I (.int _ _) rfl) (Or.inl (PyProof.noPylong_small (by omega))))
  case Pow => exact int2 (c := binaryOp .Pow) he ra rb fun i t j u he => gud_elim he fun h0 he => fin he (PyProof.Rows.pow_int_small h0.1 (by omega) (by omega) (Post.same I (.int _ _) rfl))
  case LShift => exact int2 (c := binaryOp .LShift) he ra rb fun i t j u he => gud_elim he fun h0 he => fin he (PyProof.Rows.lshift_int_small h0.1 (by omega) (by omega) (Post.same I (.int _ _) rfl))
  case BitAnd => exact int2 (c := binaryOp .BitAnd) he ra rb fun i t j u he => fin he (PyProof.Rows.and_int (Post.same I (.int _ _) rfl))
  all_goals cases he
end
end Mine
/-! Snd3 -/
namespace Mine
open PySem PySem.Calls PyProof.Rows PySem.SeqAt PySem.W

section
variable {h : Heap} {μ : List Addr}
theorem Rel.of_none {b : V} (r : Rel h μ b .none) : b = .none := by cases r; rfl
theorem Rel.of_bool {b : V} {c : Bool} (r : Rel h μ b (.bool c)) : b = .bool c := by cases r; rfl
theorem Rel.of_int {b : V} {i : Int} {t : Tok} (r : Rel h μ b (.int i t)) : b = .int i := by cases r; rfl
theorem Rel.of_str {b : V} {x : Str} {t : Tok} (r : Rel h μ b (.str x t)) : ∃ n, b = .str n ∧ x = dec n := by cases r; exact ⟨_, rfl, rfl⟩
theorem Rel.of_ref {b : V} {a : Addr} {P : V → Prop} (r : Rel h μ b (.ref a)) (k1 : ∀ l vs n, h.get? a = some (tupObj (List.toArray vs) n) → Rels h μ l vs → P (.tup l)) (k2 : ∀ j : Nat, μ[j]? = some a → P (.ref j)) : P b := by
  cases r with
  | tup e r _ => exact k1 _ _ _ e r
  | ref e => exact k2 _ e
theorem tup_arr {vs ws : List Value} {n m : Nat} (e : some (tupObj vs.toArray n) = some (tupObj ws.toArray m)) : vs = ws := by
  have e1 : (some (tupObj vs.toArray n)).map (fun o => match o.data with | .seq v _ => v.toList | _ => []) = (some (tupObj ws.toArray m)).map (fun o => match o.data with | .seq v _ => v.toList | _ => []) := congrArg _ e
  exact Option.some.inj e1
theorem Rel.uniq (nd : μ.Nodup) (nt : NoTup h μ) {a b : V} {x : Value} (r : Rel h μ a x) (q : Rel h μ b x) : a = b :=
  Rel.rec (motive_1 := fun a x _ => ∀ b, Rel h μ b x → a = b) (motive_2 := fun l xs _ => ∀ m, Rels h μ m xs → l = m)
    (fun _ q => q.of_none.symm) (fun _ _ q => q.of_bool.symm) (fun _ _ _ q => q.of_int.symm)
    (fun n t b q => by
      obtain ⟨m, e, e'⟩ := q.of_str
      rw [e, dec_inj e'])
    (fun e _ _ ih b q => q.of_ref (P := fun b => _ = b) (fun l vs n e' r' => congrArg V.tup (ih l (tup_arr (e.symm.trans e') ▸ r'))) fun j e' => absurd e (nt _ (List.mem_of_getElem? e') _ _))
    (fun e b q => q.of_ref (P := fun b => _ = b) (fun l vs n e' _ => absurd e' (nt _ (List.mem_of_getElem? e) _ _)) fun j e' => congrArg V.ref (idx_uniq nd e e'))
    (fun m q => by cases q; rfl)
    (fun _ _ ih1 ih2 m q => by cases q with | cons p r => rw [ih1 _ p, ih2 _ r]) r b q
end

theorem eqVs_refl {f : V → V → Option Bool} (hf : ∀ a r, f a a = some r → r = true) (l : List V) : ∀ r : Bool, eqVs f l l = some r → r = true := by
  induction l with
  | nil => intro r e; exact (Option.some.inj e).symm
  | cons a l ih =>
    intro r e
    exact obn_elim (o := f a a) e fun x hx e => obn_elim e fun y hy e => by rw [← Option.some.inj e, hf a x hx, ih y hy]; rfl
theorem eqP_refl {t : List V → List V → Option Bool} (ht : ∀ l r, t l l = some r → r = true) (a : V) (r : Bool) (e : eqP t a a = some r) : r = true := by
  cases a with
  | tup l => exact ht l r e
  | none => cases e
  | ref j => cases e
  | bool b => rw [← Option.some.inj e, beq_self_eq_true]
  | int b => rw [← Option.some.inj e, beq_self_eq_true]
  | str b => rw [← Option.some.inj e, beq_self_eq_true]
theorem eqB_refl {t : List V → List V → Option Bool} (ht : ∀ l r, t l l = some r → r = true) (a : V) (r : Bool) (e : eqB t a a = some r) : r = true :=
  caR_elim (P := fun _ => r = true) e (fun i e => onRef_elim (P := fun _ => r = true) e fun j e => gua_elim e fun _ e => (Option.some.inj e).symm) fun e => eqP_refl ht a r e
theorem eqV_refl (H : AH) (n : Nat) : ∀ (a : V) (r : Bool), eqV H n a a = some r → r = true := by
  induction n with
  | zero => exact eqB_refl fun _ _ e => nomatch e
  | succ n ih => exact eqB_refl (eqVs_refl ih)

noncomputable def pairF (f : V → V → Option Bool) (l m : List V) (j : Nat) : Bool := (obn l[j]? fun a => obn m[j]? fun b => f a b).getD false
theorem pairF_at {f : V → V → Option Bool} {l m : List V} {j : Nat} {z : Bool} (h1 : j < l.length) (h2 : j < m.length) (h : f l[j] m[j] = some z) : pairF f l m j = z := by
  unfold pairF
  rw [List.getElem?_eq_getElem h1, List.getElem?_eq_getElem h2]
  show (f l[j] m[j]).getD false = z
  rw [h]; rfl
/-- what eqVs reckons, place by place -/
theorem eqVs_at {f : V → V → Option Bool} (l : List V) : ∀ (m : List V) (r : Bool), eqVs f l m = some r →
    (∀ j (h1 : j < l.length) (h2 : j < m.length), ∃ z, f l[j] m[j] = some z) ∧
    r = ((List.range (min l.length m.length)).all (pairF f l m) && l.length == m.length) := by
  induction l with
  | nil =>
    intro m r e
    refine ⟨fun j h1 => absurd h1 (Nat.not_lt_zero _), ?_⟩
    rw [← Option.some.inj e]
    cases m <;> rfl
  | cons a l ih =>
    intro m r e
    cases m with
    | nil =>
      refine ⟨fun j _ h2 => absurd h2 (Nat.not_lt_zero _), ?_⟩
      rw [← Option.some.inj e]; rfl
    | cons b m =>
      refine obn_elim (o := f a b) e fun x h1 e => obn_elim e fun y h2 e => ?_
      obtain ⟨p, q⟩ := ih m y h2
      refine ⟨fun j hj1 hj2 => ?_, ?_⟩
      · cases j with
        | zero => exact ⟨x, h1⟩
        | succ j => exact p j (Nat.lt_of_succ_lt_succ hj1) (Nat.lt_of_succ_lt_succ hj2)
      · rw [← Option.some.inj e, q]
        have e1 : min (a :: l).length (b :: m).length = min l.length m.length + 1 := Nat.succ_min_succ ..
        rw [e1, List.range_succ_eq_map, List.all_cons, List.all_map, pairF_at (f := f) (l := a :: l) (m := b :: m) (j := 0) (Nat.succ_pos _) (Nat.succ_pos _) h1, Bool.and_assoc]
        congr 2
        rw [List.length_cons, List.length_cons]
        by_cases h : l.length = m.length <;> simp [h]

section
variable {prog : Program} {w : World} {base : Heap} {os : OsState} {s : Shared} {H : AH} {μ : List Addr}

theorem RelD.get {h : Heap} {l : List (Key × V)} {kvs : List (Key × Value)} (r : RelD h μ l kvs) (k : Key) :
    (getK l k = none ∧ valueAt kvs k = none) ∨ ∃ v x, getK l k = some v ∧ valueAt kvs k = some x ∧ Rel h μ v x := by
  induction r with
  | nil => exact .inl ⟨rfl, rfl⟩
  | @cons k' v x l kvs a _ ih =>
    unfold getK valueAt at ih ⊢
    by_cases hk : k' = k
    · subst hk
      right
      exact ⟨v, x, by simp, by simp, a⟩
    · simp only [List.find?_cons, hk, decide_false]
      exact ih
theorem RelD.length {h : Heap} {l : List (Key × V)} {kvs : List (Key × Value)} (r : RelD h μ l kvs) : kvs.length = l.length := by
  induction r with
  | nil => rfl
  | cons _ _ ih => simp [ih]


/-- elements compared by eqBool -/
def ElemOk (prog : Program) (w : World) (s : Shared) (μ : List Addr) (f : V → V → Option Bool) (n : Nat) : Prop :=
  ∀ (A : Around) (a b : V) (r : Bool) (x y : Value), f a b = some r → Rel s.heap μ a x → Rel s.heap μ b y → A.units + n < cLine → EqAt A s x y r

theorem in1_room {A : Around} {n : Nat} (h : A.units + (n + 1) < cLine) : A.in1.units + n < cLine := by
  simp only [Around.in1_units]; omega
theorem Rels.item {h : Heap} {l : List V} {vs : List Value} (rl : Rels h μ l vs) {j : Nat} (h1 : j < vs.toArray.size) (h2 : j < l.length) : Rel h μ l[j] vs.toArray[j] := by
  obtain ⟨x, hx, rx⟩ := rl.get (List.getElem?_eq_getElem h2)
  have : vs.toArray[j] = x := by
    rw [List.getElem_toArray]
    exact Option.some.inj ((List.getElem?_eq_getElem (by rw [List.size_toArray] at h1; exact h1)).symm.trans hx)
  rw [this]; exact rx
/-- two rows, item by item -/
theorem pairs_at {f : V → V → Option Bool} {l m : List V} {vs ws : List Value} {r : Bool} {R : Value → Value → Bool → Prop} (e : eqVs f l m = some r) (rl : Rels s.heap μ l vs) (rm : Rels s.heap μ m ws)
    (k : ∀ a b x y z, f a b = some z → Rel s.heap μ a x → Rel s.heap μ b y → R x y z) : ∀ j (h1 : j < vs.toArray.size) (h2 : j < ws.toArray.size), R vs.toArray[j] ws.toArray[j] (pairF f l m j) := by
  intro j hj1 hj2
  have h1 : j < l.length := by rw [List.size_toArray, rl.length] at hj1; exact hj1
  have h2 : j < m.length := by rw [List.size_toArray, rm.length] at hj2; exact hj2
  obtain ⟨z, hz⟩ := (eqVs_at l m r e).1 j h1 h2
  rw [pairF_at h1 h2 hz]
  exact k _ _ _ _ _ hz (rl.item hj1 h1) (rm.item hj2 h2)
theorem pairs_all {f : V → V → Option Bool} {l m : List V} {vs ws : List Value} {r : Bool} (e : eqVs f l m = some r) (rl : Rels s.heap μ l vs) (rm : Rels s.heap μ m ws) :
    ((List.range (min vs.toArray.size ws.toArray.size)).all (pairF f l m) && vs.toArray.size == ws.toArray.size) = r := by
  rw [(eqVs_at l m r e).2, List.size_toArray, List.size_toArray, rl.length, rm.length]
theorem tup_rc {f : V → V → Option Bool} {n : Nat} (hf : ElemOk prog w s μ f n) {A : Around} {p q : Addr} {l m : List V} {r : Bool}
    (e : eqVs f l m = some r) (ra : Rel s.heap μ (.tup l) (.ref p)) (rb : Rel s.heap μ (.tup m) (.ref q)) (hu : A.units + (n + 1) < cLine) :
    RcAt A s (.ref p) (.ref q) r := by
  obtain ⟨_, vs, k, e1, hp, rl, _⟩ := ra.inj_tup
  cases e1
  obtain ⟨_, ws, k', e2, hq, rm, _⟩ := rb.inj_tup
  cases e2
  exact pairs_all e rl rm ▸ RcAt.tuples (A := A) (s := s) (l := p) (b := q) (items := vs.toArray) (items2 := ws.toArray)
    (e := pairF f l m) ⟨_, hp, rfl, k, rfl⟩ ⟨_, hq, rfl, k', rfl⟩ (by omega) (pairs_at (R := EqAt A.in1 s) e rl rm fun a b x y z h r1 r2 => hf A.in1 a b z x y h r1 r2 (in1_room hu))
theorem tup_rcne {f : V → V → Option Bool} {n : Nat} (hf : ElemOk prog w s μ f n) {A : Around} {p q : Addr} {l m : List V} {r : Bool}
    (e : eqVs f l m = some r) (ra : Rel s.heap μ (.tup l) (.ref p)) (rb : Rel s.heap μ (.tup m) (.ref q)) (hu : A.units + (n + 1) < cLine) :
    RcNeAt A s (.ref p) (.ref q) (!r) := by
  obtain ⟨_, vs, k, e1, hp, rl, _⟩ := ra.inj_tup
  cases e1
  obtain ⟨_, ws, k', e2, hq, rm, _⟩ := rb.inj_tup
  cases e2
  exact pairs_all e rl rm ▸ RcNeAt.tuples (A := A) (s := s) (l := p) (b := q) (items := vs.toArray) (items2 := ws.toArray)
    (e := pairF f l m) ⟨_, hp, rfl, k, rfl⟩ ⟨_, hq, rfl, k', rfl⟩ (by omega) (pairs_at (R := EqAt A.in1 s) e rl rm fun a b x y z h r1 r2 => hf A.in1 a b z x y h r1 r2 (in1_room hu))

theorem list_both {f : V → V → Option Bool} {n : Nat} (hf : ElemOk prog w s μ f n) (I : Inv prog w base os s H μ) {A : Around} {i j : Nat} {p q : Addr} {l m : List V} {r : Bool} {P : Bool → Prop}
    (e : eqL f l m = some r) (hp : μ[i]? = some p) (hq : μ[j]? = some q) (ha : H[i]? = some (.list l)) (hb : H[j]? = some (.list m)) (hu : A.units + (n + 1) < cLine)
    (k1 : ∀ {vs ws : Array Value} {g : Nat → Bool}, s.heap.IsList p vs → s.heap.IsList q ws → vs.size = ws.size → (∀ j (h1 : j < vs.size) (h2 : j < ws.size), EqAt A.in1 s vs[j] ws[j] (g j)) → P ((List.range vs.size).all g))
    (k2 : ∀ {vs ws : Array Value}, s.heap.IsList p vs → s.heap.IsList q ws → (vs.size != ws.size) = true → P false) : P r := by
  obtain ⟨vs, k, h1, rl, _⟩ := I.list hp ha
  obtain ⟨ws, k', h2, rm, _⟩ := I.list hq hb
  have hlp : s.heap.IsList p vs.toArray := ⟨_, h1, rfl, k, rfl⟩
  have hlq : s.heap.IsList q ws.toArray := ⟨_, h2, rfl, k', rfl⟩
  unfold eqL at e
  by_cases hlen : l.length = m.length
  · rw [if_pos hlen] at e
    have hs : vs.toArray.size = ws.toArray.size := by rw [List.size_toArray, List.size_toArray, rl.length, rm.length, hlen]
    have key := k1 (g := pairF f l m) hlp hlq hs (pairs_at (R := EqAt A.in1 s) e rl rm fun a b x y z h r1 r2 => hf A.in1 a b z x y h r1 r2 (in1_room hu))
    have e3 := pairs_all e rl rm
    rw [hs, Nat.min_self, beq_self_eq_true, Bool.and_true, ← hs] at e3
    exact e3 ▸ key
  · rw [if_neg hlen] at e
    exact Option.some.inj e ▸ k2 hlp hlq (by rw [List.size_toArray, List.size_toArray, rl.length, rm.length]; exact bne_iff_ne.mpr hlen)
theorem hits_of {f : V → V → Option Bool} {n : Nat} (hf : ElemOk prog w s μ f n) {A : Around} {m : List (Key × V)} {kb : List (Key × Value)} (rm : RelD s.heap μ m kb) (hu : A.units + n < cLine)
    {l : List (Key × V)} {ka : List (Key × Value)} (rl : RelD s.heap μ l ka) : ∀ {r : Bool}, eqDs f m l = some r → KeqHits A s kb ka r := by
  induction rl with
  | nil => intro r e; rw [← Option.some.inj e]; exact .nil
  | @cons k v x l ka a _ ih =>
    intro r e
    unfold eqDs at e
    rcases rm.get k with ⟨h1, h2⟩ | ⟨u, y, h1, h2, h3⟩
    · rw [h1] at e
      rw [← Option.some.inj e]
      exact .miss h2
    · rw [h1] at e
      refine obn_elim (o := f v u) e fun z h4 e => obn_elim e fun z' h5 e => ?_
      rw [← Option.some.inj e]
      exact .hit h2 (hf A _ _ z _ _ h4 a h3 hu) (ih h5)
theorem Big.lt {base : Heap} (h : Big base) : sysModules < base.objs.size := by
  obtain ⟨a, o, h1, h2⟩ := h
  exact Nat.lt_trans h1 (Heap.lt_size h2)
theorem sys_ne {a : Addr} (_ : sysModules < base.objs.size) (_ : Big base) (h : base.get? a = none ∧ a ≠ sysModules) : (a == sysModules) = false := by
  simpa using h.2
/-- two dicts compared -/
theorem dict_both (hsys : Big base) {f : V → V → Option Bool} {n : Nat} (hf : ElemOk prog w s μ f n) (I : Inv prog w base os s H μ) {A : Around} {i j : Nat} {p q : Addr} {l m : List (Key × V)} {r : Bool}
    (e : eqD f l m = some r) (hp : μ[i]? = some p) (hq : μ[j]? = some q) (ha : H[i]? = some (.dict l)) (hb : H[j]? = some (.dict m)) (hu : A.units + (n + 1) < cLine) {P : Prop}
    (k : ∀ ka kb, (p == sysModules) = false → (q == sysModules) = false → s.heap.DictOf (kn prog w) p ka → s.heap.DictOf (kn prog w) q kb → ∀ z : Bool, (ka.length = kb.length → KeqHits A.in1 s kb ka z) → (decide (ka.length = kb.length) && z) = r → P) : P := by
  obtain ⟨ka, h1, h2, _⟩ := I.dict hp ha
  obtain ⟨kb, h3, h4, _⟩ := I.dict hq hb
  have fp := sys_ne (base := base) hsys.lt hsys (I.fresh _ p _ hp ha rfl)
  have fq := sys_ne (base := base) hsys.lt hsys (I.fresh _ q _ hq hb rfl)
  unfold eqD at e
  by_cases hlen : l.length = m.length
  · rw [if_pos hlen] at e
    refine k ka kb fp fq h1 h3 r (fun _ => hits_of hf h4 (in1_room hu) h2 e) ?_
    rw [h2.length, h4.length, hlen, decide_eq_true rfl]; rfl
  · rw [if_neg hlen] at e
    refine k ka kb fp fq h1 h3 r (fun q => absurd (by rw [← h2.length, ← h4.length, q]) hlen) ?_
    rw [h2.length, h4.length, decide_eq_false hlen, ← Option.some.inj e]; rfl
theorem str_beq' (n m : Nat) : (n == m) = (dec n == dec m) := by
  by_cases h : n = m
  · subst h; rw [beq_self_eq_true, beq_self_eq_true]
  · have : dec n ≠ dec m := fun q => h (dec_inj q)
    rw [beq_eq_false_iff_ne.mpr h, beq_eq_false_iff_ne.mpr this]
theorem boolV_eq {v : V} {b : Bool} (h : boolV v = some b) : v = .bool b := by
  cases v with
  | bool c => exact congrArg V.bool (Option.some.inj h)
  | _ => cases h
/-- values that are no lists and no dicts -/
theorem eqP_gen {h : Heap} {t : List V → List V → Option Bool} {R : Value → Value → Bool → Prop} {a b : V} {r : Bool} {x y : Value} (hb : ∀ b c, R (.bool b) (.bool c) (b == c)) (hi : ∀ i t j u, R (.int i t) (.int j u) (i == j)) (hs : ∀ x t y u, R (.str x t) (.str y u) (x == y))
    (his : ∀ i t x u, R (.int i t) (.str x u) false) (hsi : ∀ x u i t, R (.str x u) (.int i t) false) (ht : ∀ l m p q r, t l m = some r → Rel h μ (.tup l) (.ref p) → Rel h μ (.tup m) (.ref q) → R (.ref p) (.ref q) r)
    (e : eqP t a b = some r) (ra : Rel h μ a x) (rb : Rel h μ b y) : R x y r := by
  cases ra with
  | none => cases e
  | ref _ => cases e
  | bool b =>
    exact obn_elim (o := boolV _) e fun c hc e => by
      have hc := boolV_eq hc
      subst hc
      rw [rb.inj_bool]
      exact Option.some.inj e ▸ hb _ _
  | int i t => exact ca_int (P := fun b y => Rel h μ b y → R _ y r) e rb (fun j u e _ => Option.some.inj e ▸ hi _ _ _ _) (fun e rb => on_str (P := fun _ y => R _ y r) e rb fun j u e => Option.some.inj e ▸ his _ _ _ _) rb
  | str i t => exact ca_int (P := fun b y => Rel h μ b y → R _ y r) e rb (fun j u e _ => Option.some.inj e ▸ hsi _ _ _ _) (fun e rb => on_str (P := fun _ y => R _ y r) e rb fun j u e => Option.some.inj e ▸ str_beq' i j ▸ hs _ _ _ _) rb
  | tup g1 g2 g3 =>
    exact caT_elim (P := fun b => Rel h μ b y → R _ y r) e (fun m e rb => by
      obtain ⟨q, _, _, eq, _, _⟩ := id rb.inj_tup
      subst eq
      exact ht _ _ _ _ r e (.tup g1 g2 g3) rb) (fun e => nomatch e) rb
theorem eqB_ok (I : Inv prog w base os s H μ) {t : List V → List V → Option Bool} {n : Nat} (ht : ∀ (A : Around) l m p q r, A.units + n < cLine → t l m = some r → Rel s.heap μ (.tup l) (.ref p) → Rel s.heap μ (.tup m) (.ref q) → EqAt A s (.ref p) (.ref q) r) : ElemOk prog w s μ (eqB t) n := by
  intro A a b r x y e ra rb hu
  have key := fun e : eqP t a b = some r => eqP_gen (R := EqAt A s) (t := t) EqAt.bool_bool EqAt.int_int EqAt.str_str EqAt.int_str EqAt.str_int (fun l m p q r => ht A l m p q r hu) e ra rb
  refine caR_elim (P := fun a => Rel s.heap μ a x → EqAt A s x y r) e (fun j e ra => ?_) (fun e _ => key e) ra
  · obtain ⟨p, rfl, hp⟩ := ra.inj_ref
    refine on_ref (P := fun _ y => EqAt A s (.ref p) y r) e rb fun i q hq e => gud_elim e fun hij e2 => ?_
    subst hij
    rw [← Option.some.inj e2, ← Option.some.inj (hp.symm.trans hq)]
    exact EqAt.same _
theorem eqV_ok (I : Inv prog w base os s H μ) (n : Nat) : ElemOk prog w s μ (eqV H n) n := by
  induction n with
  | zero => exact eqB_ok I fun _ _ _ _ _ _ _ e => nomatch e
  | succ n ih =>
    refine eqB_ok I fun A l m p q r hu e ra rb => ?_
    by_cases hpq : p = q
    · subst hpq
      have h := ra.uniq I.nd I.noTup rb
      injection h with h
      subst h
      rw [eqVs_refl (eqV_refl H n) l r e]
      exact EqAt.same _
    · exact EqAt.of_refs hpq (tup_rc ih e ra rb hu)
end
end Mine
/-! Snd5 -/
namespace Mine
open PySem PySem.Calls PyProof.Rows PySem.SeqAt PySem.W

section
variable {prog : Program} {w : World} {base : Heap} {os : OsState} {A : Around} {E : Value → Shared → Prop} {s : Shared} {H : AH} {μ : List Addr} {a b : V} {x y : Value} {r : Bool} {Q : Value → Shared → Prop}
theorem isNone_rel {h : Heap} (e : isNone a = true) (r : Rel h μ a x) : x = .none := by
  cases r with
  | none => rfl
  | _ => cases e
/-- both operators at once -/
theorem eqT_gen (hsys : Big base) (I : Inv prog w base os s H μ) {R : Value → Value → Bool → Prop} (e : eqT H a b = some r) (ra : Rel s.heap μ a x) (rb : Rel s.heap μ b y) (hu : A.units + 80 < cLine)
    (hn : R .none .none true) (hb : ∀ b c, R (.bool b) (.bool c) (b == c)) (hi : ∀ i t j u, R (.int i t) (.int j u) (i == j)) (hs : ∀ x t y u, R (.str x t) (.str y u) (x == y))
    (his : ∀ i t x u, R (.int i t) (.str x u) false) (hsi : ∀ x u i t, R (.str x u) (.int i t) false)
    (ht : ∀ l m p q r, eqVs (eqV H 63) l m = some r → Rel s.heap μ (.tup l) (.ref p) → Rel s.heap μ (.tup m) (.ref q) → R (.ref p) (.ref q) r)
    (hl : ∀ {p q : Addr} {vs ws : Array Value} {g : Nat → Bool}, s.heap.IsList p vs → s.heap.IsList q ws → vs.size = ws.size → (∀ j (h1 : j < vs.size) (h2 : j < ws.size), EqAt A.in1 s vs[j] ws[j] (g j)) → R (.ref p) (.ref q) ((List.range vs.size).all g))
    (hl' : ∀ {p q : Addr} {vs ws : Array Value}, s.heap.IsList p vs → s.heap.IsList q ws → (vs.size != ws.size) = true → R (.ref p) (.ref q) false)
    (hd : ∀ {p q : Addr} (ka kb : List (Key × Value)), (p == sysModules) = false → (q == sysModules) = false → s.heap.DictOf (kn prog w) p ka → s.heap.DictOf (kn prog w) q kb → ∀ z : Bool, (ka.length = kb.length → KeqHits A.in1 s kb ka z) → R (.ref p) (.ref q) (decide (ka.length = kb.length) && z)) : R x y r := by
  have h64 := eqV_ok I 64
  refine cond_elim (b := isNone a && isNone b) e (fun h e => ?_) fun _ e => ?_
  · have h := Bool.and_eq_true_iff.mp h
    rw [isNone_rel h.1 ra, isNone_rel h.2 rb, ← Option.some.inj e]
    exact hn
  refine caR_elim (P := fun _ => R x y r) e (fun _ e => ?_) fun e => eqP_gen hb hi hs his hsi ht e ra rb
  refine ca_lst (P := fun a x => Rel s.heap μ a x → R x y r) I e ra (fun i l p _ _ hp hl0 _ _ _ e _ => ?_) (fun e ra => ?_) ra
  · exact on_lst (P := fun _ y => R (.ref p) y r) I e rb fun j m q _ _ hq hm _ _ _ e => list_both h64 I e hp hq hl0 hm (by omega) hl hl'
  · exact on_dct (P := fun _ x => R x y r) I e ra fun i l p _ hp hl0 _ _ _ e => on_dct (P := fun _ y => R (.ref p) y r) I e rb fun j m q _ hq hm _ _ _ e =>
      dict_both (A := A) hsys h64 I e hp hq hl0 hm (by omega) fun ka kb f1 f2 d1 d2 z hz hr => hr ▸ hd ka kb f1 f2 d1 d2 z hz
theorem eq_snd (hsys : Big base) (I : Inv prog w base os s H μ) (e : eqT H a b = some r) (ra : Rel s.heap μ a x) (rb : Rel s.heap μ b y) (hu : A.units + 80 < cLine)
    (hQ : Q (.bool r) s) : wpAny (model prog w) A (compareOp .Eq x y) Q E s :=
  eqT_gen (R := fun x y r => ∀ Q : Value → Shared → Prop, Q (.bool r) s → wpAny (model prog w) A (compareOp .Eq x y) Q E s) hsys I e ra rb hu
    (fun Q h => RcAt.none_none prog w E Q h) (fun b c Q h => RcAt.bool_bool b c prog w E Q h) (fun i t j u Q h => RcAt.int_int i t j u prog w E Q h) (fun i t j u Q h => RcAt.str_str i t j u prog w E Q h) (fun i t j u Q h => RcAt.int_str i t j u prog w E Q h) (fun i t j u Q h => RcAt.str_int i t j u prog w E Q h)
    (fun l m p q r e r1 r2 Q h => tup_rc (eqV_ok I 63) e r1 r2 (by omega) prog w E Q h)
    (fun h1 h2 h3 h4 Q h => RcAt.lists h1 h2 h3 (by omega) h4 prog w E Q h) (fun h1 h2 h3 Q h => RcAt.lists_lengths h1 h2 h3 (by omega) prog w E Q h)
    (fun ka kb f1 f2 d1 d2 z hz Q h => keq_eq f1 f2 d1 d2 (by omega) hz h) Q hQ
theorem ne_snd (hsys : Big base) (I : Inv prog w base os s H μ) (e : eqT H a b = some r) (ra : Rel s.heap μ a x) (rb : Rel s.heap μ b y) (hu : A.units + 80 < cLine)
    (hQ : Q (.bool (!r)) s) : wpAny (model prog w) A (compareOp .NotEq x y) Q E s :=
  eqT_gen (R := fun x y r => ∀ Q : Value → Shared → Prop, Q (.bool (!r)) s → wpAny (model prog w) A (compareOp .NotEq x y) Q E s) hsys I e ra rb hu
    (fun Q h => RcNeAt.none_none prog w E Q h) (fun b c Q h => RcNeAt.bool_bool b c prog w E Q h) (fun i t j u Q h => RcNeAt.int_int i t j u prog w E Q h) (fun i t j u Q h => RcNeAt.str_str i t j u prog w E Q h) (fun i t j u Q h => RcNeAt.int_str i t j u prog w E Q h) (fun i t j u Q h => RcNeAt.str_int i t j u prog w E Q h)
    (fun l m p q r e r1 r2 Q h => tup_rcne (eqV_ok I 63) e r1 r2 (by omega) prog w E Q h)
    (fun h1 h2 h3 h4 Q h => RcNeAt.lists h1 h2 h3 (by omega) h4 prog w E Q h) (fun h1 h2 h3 Q h => RcNeAt.lists_lengths h1 h2 h3 (by omega) prog w E Q h)
    (fun ka kb f1 f2 d1 d2 z hz Q h => keq_ne f1 f2 d1 d2 (by omega) hz h) Q hQ
end
end Mine
/-! Snd6 -/
namespace Mine
open PySem PySem.Calls PyProof.Rows PySem.SeqAt PySem.W

section
variable {prog : Program} {w : World} {base : Heap} {os : OsState} {A : Around} {E : Value → Shared → Prop} {s s' : Shared} {H H' : AH} {μ : List Addr} {a b v : V} {x y z : Value} {r : Bool} {Q : Value → Shared → Prop}

theorem key_rel {h : Heap} {k : Key} (e : keyOf a = some k) (ra : Rel h μ a x) : keyIs k x = true := by
  cases ra with
  | int i t => rw [← Option.some.inj e]; exact beq_self_eq_true i
  | str i t => rw [← Option.some.inj e]; exact beq_self_eq_true (dec i)
  | _ => cases e
theorem on_key {γ : Type} {h : Heap} {f : Key → Option γ} {r : γ} {P : Prop} (e : obn (keyOf a) f = some r) (ra : Rel h μ a x) (k : ∀ k, keyIs k x = true → f k = some r → P) : P :=
  obn_elim e fun j hj e => k j (key_rel hj ra) e
theorem keyV_rel {h : Heap} {k : Key} (e : keyIs k x = true) : Rel h μ (keyV k) x := by
  cases k
  · obtain ⟨t, rfl⟩ := keyIs_s e; exact .str _ _
  · obtain ⟨t, rfl⟩ := keyIs_i e; exact .int _ _

/-- what is asked of the state where nothing is written -/
abbrev Calm (s : Shared) (Q : Value → Shared → Prop) (x : Value) : Prop := ∀ s' : Shared, s'.heap = s.heap → s'.gens = s.gens → s'.os = s.os → Q x s'

noncomputable def sameI (i : Int) (y : Value) : Bool := match y with
  | .int j _ => j == i
  | _ => false
noncomputable def sameS (i : Str) (y : Value) : Bool := match y with
  | .str j _ => j == i
  | _ => false
noncomputable def sameB (i : Bool) (y : Value) : Bool := match y with
  | .bool j => j == i
  | _ => false
noncomputable def fV (x y : Value) : Bool := match x with
  | .int i _ => sameI i y
  | .str i _ => sameS i y
  | .bool i => sameB i y
  | _ => false
theorem each_in (ra : Rel s.heap μ a x) (l : List V) : ∀ (vs : List Value) (r : Bool), inV a l = some r → Rels s.heap μ l vs → (∀ y ∈ vs, EqAt A s y x (fV x y)) ∧ vs.any (fV x) = r := by
  induction l with
  | nil =>
    intro vs r e rl
    cases rl
    exact ⟨fun _ h => (nomatch h), Option.some.inj e⟩
  | cons v l ih =>
    intro vs r e rl
    cases rl with
    | cons rv rl =>
      refine obn_elim (o := eqP (fun _ _ => none) v a) e fun c h1 e => obn_elim e fun d h2 e => ?_
      have k := eqP_gen (R := fun y x z => EqAt A s y x z ∧ fV x y = z) (fun b c => ⟨EqAt.bool_bool b c, rfl⟩) (fun i t j u => ⟨EqAt.int_int i t j u, rfl⟩) (fun i t j u => ⟨EqAt.str_str i t j u, rfl⟩) (fun i t j u => ⟨EqAt.int_str i t j u, rfl⟩) (fun i t j u => ⟨EqAt.str_int i t j u, rfl⟩) (fun _ _ _ _ _ e => absurd e (fun h => nomatch (show (none : Option Bool) = some _ from h))) h1 rv ra
      obtain ⟨i1, i2⟩ := ih _ _ h2 rl
      refine ⟨fun y hy => ?_, ?_⟩
      · rcases List.mem_cons.mp hy with rfl | hy
        · rw [k.2]; exact k.1
        · exact i1 y hy
      · rw [List.any_cons, k.2, i2]; exact Option.some.inj e
theorem in_snd (hsys : Big base) (I : Inv prog w base os s H μ) (e : cmpV .In a b H = some r) (ra : Rel s.heap μ a x) (rb : Rel s.heap μ b y) (hQ : Calm s Q (.bool r)) : wpAny (model prog w) A (compareOp .In x y) Q E s :=
  ca_tup (P := fun b y => Rel s.heap μ b y → wpAny (model prog w) A (compareOp .In x y) Q E s) e rb (fun l p vs n hp rl _ e _ => by
    obtain ⟨h1, h2⟩ := each_in (A := A.in1) ra l vs r e rl
    refine in_tupleAt (fV x) (items := vs.toArray) ⟨_, hp, rfl, n, rfl⟩ (fun y hy => h1 y (by simpa using hy)) ?_
    rw [List.any_toArray, h2]
    exact hQ s rfl rfl rfl) (fun e rb =>
  on_dct (P := fun _ y => wpAny (model prog w) A (compareOp .In x y) Q E s) I e rb fun j l q kvs hq hl hd rd _ e => on_key e ra fun k hk e => by
    refine wpAny_in_of (knd := kn prog w) (k := k) hk (sys_ne hsys.lt hsys (I.fresh _ q _ hq hl rfl)) hd.mapOf ?_
    rw [← Option.some.inj e] at hQ
    rcases rd.get k with ⟨h1, h2⟩ | ⟨u, z, h1, h2, _⟩
    · rw [h1] at hQ; rw [h2]; exact hQ _ rfl rfl rfl
    · rw [h1] at hQ; rw [h2]; exact hQ _ rfl rfl rfl) rb
theorem cmp_snd (hsys : Big base) (I : Inv prog w base os s H μ) {op : CmpOp} (e : cmpV op a b H = some r) (ra : Rel s.heap μ a x) (rb : Rel s.heap μ b y) (hu : A.units + 80 < cLine)
    (hQ : Calm s Q (.bool r)) : wpAny (model prog w) A (compareOp op x y) Q E s := by
  have h0 : Q (.bool r) s := hQ s rfl rfl rfl
  cases op
  case Eq => exact eq_snd hsys I e ra rb hu h0
  case NotEq => exact obn_elim (o := eqT H a b) e fun z h e => ne_snd hsys I h ra rb hu (Option.some.inj e ▸ h0)
  case Lt => exact on_int (P := fun _ x => wpAny (model prog w) A (compareOp .Lt x y) Q E s) e ra fun i t e => on_int (P := fun _ y => wpAny (model prog w) A (compareOp .Lt (.int i t) y) Q E s) e rb fun j u e => PyProof.Rows.lt_int ((Option.some.inj e : decide (i < j) = r) ▸ h0)
  case Gt => exact on_int (P := fun _ x => wpAny (model prog w) A (compareOp .Gt x y) Q E s) e ra fun i t e => on_int (P := fun _ y => wpAny (model prog w) A (compareOp .Gt (.int i t) y) Q E s) e rb fun j u e => PyProof.Rows.gt_int ((Option.some.inj e : decide (j < i) = r) ▸ h0)
  case LtE => exact on_int (P := fun _ x => wpAny (model prog w) A (compareOp .LtE x y) Q E s) e ra fun i t e => on_int (P := fun _ y => wpAny (model prog w) A (compareOp .LtE (.int i t) y) Q E s) e rb fun j u e => PyProof.Rows.le_int ((Option.some.inj e : decide (i ≤ j) = r) ▸ h0)
  case GtE => exact on_int (P := fun _ x => wpAny (model prog w) A (compareOp .GtE x y) Q E s) e ra fun i t e => on_int (P := fun _ y => wpAny (model prog w) A (compareOp .GtE (.int i t) y) Q E s) e rb fun j u e => PyProof.Rows.ge_int ((Option.some.inj e : decide (j ≤ i) = r) ▸ h0)
  case IsNot =>
    refine gua_elim e fun hb e => ?_
    rw [isNone_rel hb rb]
    refine isNot_none ?_
    have e : (!isNone a) = r := Option.some.inj e
    subst e
    cases ra <;> exact h0
  case In => exact in_snd hsys I e ra rb hQ
  all_goals cases e

/-! items -/
theorem lt63 {k : Int} {α : Type} {l : List α} {v : α} (h0 : 0 ≤ k) (e : l[k.toNat]? = some v) (hl : l.length ≤ lineN) : k < 2 ^ 63 := by
  have := lt_of_some e
  have e : lineN = 1048576 := by decide
  omega
noncomputable def SubOk (prog : Program) (w : World) (A : Around) (s : Shared) (μ : List Addr) (v : V) (x y : Value) : Prop :=
  ∃ T id, s.TypeIs x T ∧ typeLookup (.type T) "__getitem__" = pure (some (.builtin id)) ∧
    ∀ (E : Value → Shared → Prop), wpAny (model prog w) A (getItem x y) (fun z s' => s'.heap = s.heap ∧ s'.gens = s.gens ∧ s'.os = s.os ∧ Rel s.heap μ v z) E s
theorem sub_snd (I : Inv prog w base os s H μ) (e : subV a b H = some v) (ra : Rel s.heap μ a x) (rb : Rel s.heap μ b y) : SubOk prog w A s μ v x y :=
  ca_tup (P := fun a x => Rel s.heap μ a x → SubOk prog w A s μ v x y) e ra
    (fun l p vs n hp rl hl e _ => on_int (P := fun _ y => SubOk prog w A s μ v (.ref p) y) e rb fun k t e => gud_elim e fun h0 e => by
      obtain ⟨z, hz, rz⟩ := rl.get e
      have hk := lt63 h0 e hl
      have := lt_of_some hz
      refine ⟨"tuple", _, ⟨_, hp, rfl⟩, PySem.F.slot_tuple_getitem.lookup, fun E => PyProof.Rows.getItem_tuple (items := vs.toArray) (j := k.toNat) (x := z) ⟨_, hp, rfl, n, rfl⟩ (by omega) hk ?_ ((List.getElem?_toArray ..).trans hz) ⟨rfl, rfl, rfl, rz⟩⟩
      simp only [seqIndex?, List.size_toArray]
      first
        | (rw [if_neg (by omega)]; simp; omega)
        | (simp; omega))
    (fun e ra => ca_lst (P := fun a x => Rel s.heap μ a x → SubOk prog w A s μ v x y) I e ra
      (fun j l p vs n _ _ hp rl hl e _ => on_int (P := fun _ y => SubOk prog w A s μ v (.ref p) y) e rb fun k t e => gud_elim e fun h0 e => by
        obtain ⟨z, hz, rz⟩ := rl.get e
        exact ⟨"list", _, ⟨_, hp, rfl⟩, PySem.F.slot_list_getitem.lookup, fun E => wpAny_getItem_list (items := vs.toArray) (x := z) ⟨_, hp, rfl, n, rfl⟩ h0 (lt63 h0 e hl) ((List.getElem?_toArray ..).trans hz) ⟨rfl, rfl, rfl, rz⟩⟩)
      (fun e ra => on_dct (P := fun _ x => SubOk prog w A s μ v x y) I e ra fun j l p kvs _ _ hd rd _ e => on_key e rb fun k hk e => by
        refine ⟨"dict", _, hd.typeIs, PySem.F.slot_dict_getitem.lookup, fun E => ?_⟩
        rcases rd.get k with ⟨h1, _⟩ | ⟨u, z, h1, h2, rz⟩
        · rw [h1] at e; cases e
        · exact wpAny_getItem_of (knd := kn prog w) hk hd.mapOf h2 ⟨rfl, rfl, rfl, Option.some.inj (h1.symm.trans e) ▸ rz⟩) ra) ra
end
end Mine
/-! Snd7 -/
namespace Mine
open PySem PySem.Calls PyProof.Rows PySem.SeqAt PySem.W

section
variable {prog : Program} {w : World} {base : Heap} {os : OsState} {A : Around} {E : Value → Shared → Prop} {s : Shared} {H H' : AH} {μ : List Addr} {a b v : V} {x y : Value} {r : Bool} {Q : Value → Shared → Prop}

theorem Rels.reverse {h : Heap} {l : List V} {xs : List Value} (r : Rels h μ l xs) : Rels h μ l.reverse xs.reverse :=
  r.ind (M := fun l xs => Rels h μ l.reverse xs.reverse) .nil fun a _ ih => by
    rw [List.reverse_cons, List.reverse_cons]
    exact ih.append (.cons a .nil)
theorem part_snd {v : Value} {k : Option Int} (p : IsPart v k) {Q : Option Int → Shared → Prop} (h : Q k s) : wpAny (model prog w) A (Builtin.Slice.slicePartIndex v) Q E s := by
  cases p with
  | none => exact slicePart_none h
  | int i t => exact slicePart_int h

/-- a tuple's cut, as the model reckons it -/
theorem tup_slice {t sl : Addr} {items : Array Value} {n : Nat} {va vb vc : Value} {lo hi st : Option Int} (ht : s.heap.get? t = some (tupObj items n)) (hs : s.heap.IsSliceOf sl va vb vc) (pa : IsPart va lo) (pb : IsPart vb hi) (pc : IsPart vc st)
    (h0 : st.getD 1 ≠ 0) (hsz : items.size ≤ sizeLine) {L : List Value} (hL : ((List.range (Builtin.Slice.slicePlaces (Builtin.Slice.sliceAdjust lo hi (st.getD 1) items.size).1 (Builtin.Slice.sliceAdjust lo hi (st.getD 1) items.size).2 (st.getD 1))).filterMap
      fun (k : Nat) => items[((Builtin.Slice.sliceAdjust lo hi (st.getD 1) items.size).1 + (k : Int) * (st.getD 1)).toNat]?) = L) (hLs : L.length ≤ items.size)
    (hw : (Builtin.Slice.sliceAdjust lo hi (st.getD 1) items.size).1 = 0 → st.getD 1 = 1 → Builtin.Slice.slicePlaces (Builtin.Slice.sliceAdjust lo hi (st.getD 1) items.size).1 (Builtin.Slice.sliceAdjust lo hi (st.getD 1) items.size).2 (st.getD 1) = items.size → Q (.ref t) s)
    (h : Q (.ref s.heap.objs.size) { s with heap := s.heap.push { cls := .type "tuple", data := .seq L.toArray } }) :
    wpAny (model prog w) A (getItem (.ref t) (.ref sl)) Q E s := by
  have hdrop : sizeOk (.seq L.toArray) := by
    show L.toArray.size ≤ sizeLine
    rw [List.size_toArray]
    omega
  have ht' : IsTup s.heap t items := ⟨_, ht, rfl, n, rfl⟩
  obtain ⟨os, hos, hcs, hds⟩ := id hs
  have hTs : s.TypeIs (.ref sl) "slice" := ⟨os, hos, hcs⟩
  unfold getItem
  try with_reducible refine wpAny_holding ?_
  first | refine wpAny_bind (wpAny_pure ?_) | skip
  refine wpAny_bind (wpAny_sequenceKey ht'.typeIs (by decide) ?_)
  refine wpAny_bind (wpAny_callSpecial?_slot (name := Str.ofString "__getitem__") ht'.typeIs slot_tuple_getitem
    (wpAny_call_entry slot_tuple_getitem ht'.typeIs entry_tuple_getitem ?_ (args_tuple_getitem _ _)))
  show wpAny _ _ (Builtin.Tuple.tupleItemsOf (.ref t) >>= _) _ _ s
  refine wpAny_bind (tupleItemsOf_ ht' ?_)
  refine wpAny_bind (wpAny_typeOf hTs ?_)
  rw [if_pos (by decide)]
  refine wpAny_bind ?_
  unfold Builtin.Slice.sliceApplied Builtin.Slice.sliceFields
  refine wpAny_bind (wpAny_bind (wpAny_field hos hds (x := va) rfl (wpAny_bind (wpAny_field hos hds (x := vb) rfl (wpAny_bind (wpAny_field hos hds (x := vc) rfl (wpAny_pure ?_)))))))
  refine wpAny_bind (part_snd pc ?_)
  show wpAny _ _ (if ((st.getD 1) == 0) = true then _ else _) _ _ s
  rw [if_neg (by simpa using h0)]
  refine wpAny_bind (part_snd pa (wpAny_bind (part_snd pb (wpAny_bind (wpAny_pure ?_)))))
  generalize hadj : Builtin.Slice.sliceAdjust lo hi (st.getD 1) items.size = adj at *
  obtain ⟨l', h'⟩ := adj
  refine wpAny_pure ?_
  dsimp only at hL hw ⊢
  generalize Builtin.Slice.slicePlaces l' h' (st.getD 1) = np at *
  by_cases hc : (l' == 0 && st.getD 1 == 1 && np == items.size) = true
  · rw [if_pos hc]
    simp only [Bool.and_eq_true, beq_iff_eq] at hc
    refine wpAny_bind ?_
    unfold Builtin.Tuple.tupleIsExact
    refine wpAny_bind (wpAny_typeOf ht'.typeIs (wpAny_pure ?_))
    rw [if_pos (by decide)]
    exact wpAny_bind (wpAny_rule (wpAny_pure ⟨_, rfl, wpAny_pure (hw hc.1.1 hc.1.2 hc.2)⟩))
  · rw [if_neg hc, hL]
    exact wpAny_bind (m := Builtin.Tuple.tupleExact _) (wpAny_newObj_type (wpAny_pure ⟨_, rfl, wpAny_pure h⟩) hdrop)

theorem pick_list {α : Type} (xs : List α) (a n : Nat) : (List.range n).filterMap (fun k => xs[a + k]?) = (xs.drop a).take n := by
  have := pick_run xs.toArray a n
  rw [List.filterMap_map] at this
  simpa [Function.comp_def] using this

theorem filterMap_congr' {α β : Type} {f g : α → Option β} {l : List α} (h : ∀ a ∈ l, f a = g a) : l.filterMap f = l.filterMap g := by
  induction l with
  | nil => rfl
  | cons a l ih => rw [List.filterMap_cons, List.filterMap_cons, h a (.head _), ih fun b hb => h b (.tail _ hb)]
theorem adj_take (b n : Nat) : Builtin.Slice.sliceAdjust none (some (b : Int)) 1 (n : Int) = ((0 : Int), ((min b n : Nat) : Int)) := by
  unfold Builtin.Slice.sliceAdjust
  have h1 : ¬ ((1 : Int) < 0) := by omega
  have h2 : ¬ ((b : Int) < 0) := by omega
  simp only [h1, h2, if_false]
  congr 1
  omega
theorem pl_take (b n : Nat) : Builtin.Slice.slicePlaces 0 ((min b n : Nat) : Int) 1 = min b n := by
  unfold Builtin.Slice.slicePlaces
  have h1 : (1 : Int) > 0 := by omega
  simp only [h1, if_true, Int.ediv_one]
  split <;> omega
theorem cut_take (vs : List Value) (b : Nat) : ((List.range (Builtin.Slice.slicePlaces (Builtin.Slice.sliceAdjust none (some (b : Int)) 1 (vs.length : Int)).1 (Builtin.Slice.sliceAdjust none (some (b : Int)) 1 (vs.length : Int)).2 1)).filterMap
      fun (k : Nat) => vs.toArray[((Builtin.Slice.sliceAdjust none (some (b : Int)) 1 (vs.length : Int)).1 + (k : Int) * 1).toNat]?) = vs.take b := by
  rw [adj_take, pl_take]
  have e3 : (fun (k : Nat) => vs.toArray[((0 : Int) + (k : Int) * 1).toNat]?) = fun k => vs[0 + k]? := by
    funext k
    have : ((0 : Int) + (k : Int) * 1).toNat = 0 + k := by omega
    rw [this]; simp
  rw [e3, pick_list, List.drop_zero]
  rcases Nat.le_total b vs.length with h | h
  · rw [Nat.min_eq_left h]
  · rw [Nat.min_eq_right h, List.take_length, List.take_of_length_le h]
theorem cut_rev (vs : List Value) : ((List.range (Builtin.Slice.slicePlaces (Builtin.Slice.sliceAdjust none none (-1) (vs.length : Int)).1 (Builtin.Slice.sliceAdjust none none (-1) (vs.length : Int)).2 (-1))).filterMap
      fun (k : Nat) => vs.toArray[((Builtin.Slice.sliceAdjust none none (-1) (vs.length : Int)).1 + (k : Int) * (-1)).toNat]?) = vs.reverse := by
  have e : Builtin.Slice.sliceAdjust none none (-1) (vs.length : Int) = ((vs.length : Int) - 1, -1) := by
    unfold Builtin.Slice.sliceAdjust
    have h1 : ((-1 : Int) < 0) := by omega
    simp only [h1, if_true]
  rw [e]
  have e2 : Builtin.Slice.slicePlaces ((vs.length : Int) - 1) (-1) (-1) = vs.length := by
    unfold Builtin.Slice.slicePlaces
    have h1 : ¬ ((-1 : Int) > 0) := by omega
    simp only [h1, if_false, Int.neg_neg, Int.ediv_one]
    split <;> omega
  rw [e2]
  have e4 : (List.range vs.length).filterMap (fun (k : Nat) => vs.toArray[(((vs.length : Int) - 1) + (k : Int) * (-1)).toNat]?) = (List.range vs.length).filterMap (fun k => some (vs.getD (vs.length - 1 - k) default)) := by
    refine filterMap_congr' fun k hk => ?_
    have hk' := List.mem_range.mp hk
    have : (((vs.length : Int) - 1) + (k : Int) * (-1)).toNat = vs.length - 1 - k := by omega
    rw [this]
    have hlt : vs.length - 1 - k < vs.length := by omega
    simp [List.getElem?_eq_getElem hlt]
  rw [e4]
  have e5 : (List.range vs.length).filterMap (fun k => some (vs.getD (vs.length - 1 - k) default)) = (List.range vs.length).map (fun k => vs.getD (vs.length - 1 - k) default) := by
    simp
  rw [e5]
  apply List.ext_getElem?
  intro i
  rcases Nat.lt_or_ge i vs.length with h | h
  · rw [List.getElem?_map, List.getElem?_range h, List.getElem?_reverse h]
    have hlt : vs.length - 1 - i < vs.length := by omega
    simp [List.getElem?_eq_getElem hlt]
  · rw [List.getElem?_eq_none (by simpa using h), List.getElem?_eq_none (by simpa using h)]

theorem adj_drop (a n : Nat) : Builtin.Slice.sliceAdjust (some (a : Int)) none 1 (n : Int) = (((min a n : Nat) : Int), (n : Int)) := by
  unfold Builtin.Slice.sliceAdjust
  have h1 : ¬ ((1 : Int) < 0) := by omega
  have h2 : ¬ ((a : Int) < 0) := by omega
  simp only [h1, h2, if_false]
  congr 1
  omega
theorem pl_drop (a n : Nat) : Builtin.Slice.slicePlaces ((min a n : Nat) : Int) (n : Int) 1 = n - min a n := by
  unfold Builtin.Slice.slicePlaces
  have h1 : (1 : Int) > 0 := by omega
  simp only [h1, if_true, Int.ediv_one]
  split <;> omega
theorem cut_drop (vs : List Value) (a : Nat) : ((List.range (Builtin.Slice.slicePlaces (Builtin.Slice.sliceAdjust (some (a : Int)) none 1 (vs.length : Int)).1 (Builtin.Slice.sliceAdjust (some (a : Int)) none 1 (vs.length : Int)).2 1)).filterMap
      fun (k : Nat) => vs.toArray[((Builtin.Slice.sliceAdjust (some (a : Int)) none 1 (vs.length : Int)).1 + (k : Int) * 1).toNat]?) = vs.drop a := by
  rw [adj_drop, pl_drop]
  have e3 : (fun (k : Nat) => vs.toArray[(((min a vs.length : Nat) : Int) + (k : Int) * 1).toNat]?) = fun k => vs[min a vs.length + k]? := by
    funext k
    have : (((min a vs.length : Nat) : Int) + (k : Int) * 1).toNat = min a vs.length + k := by omega
    rw [this]; simp
  rw [e3, pick_list, List.take_of_length_le (by simp)]
  rcases Nat.le_total a vs.length with h | h
  · rw [Nat.min_eq_left h]
  · rw [Nat.min_eq_right h, List.drop_length, List.drop_of_length_le h]

noncomputable def SliceOk (prog : Program) (w : World) (base : Heap) (os : OsState) (A : Around) (s : Shared) (μ : List Addr) (H' : AH) (v : V) (x y : Value) : Prop :=
  ∃ T id, s.TypeIs x T ∧ typeLookup (.type T) "__getitem__" = pure (some (.builtin id)) ∧ ∀ (E : Value → Shared → Prop), wpAny (model prog w) A (getItem x y) (Post prog w base os s.heap μ H' v true) E s
theorem slice_snd (I : Inv prog w base os s H μ) {lo hi : V} {vl vu : Value} {sl : Addr} (e : sliceV a lo hi H = some (v, H')) (ra : Rel s.heap μ a x) (rl : Rel s.heap μ lo vl) (ru : Rel s.heap μ hi vu) (hs : s.heap.IsSliceOf sl vl vu .none) :
    SliceOk prog w base os A s μ H' v x (.ref sl) :=
  ca_tup (P := fun a x => Rel s.heap μ a x → SliceOk prog w base os A s μ H' v x (.ref sl)) e ra
    (fun l p vs n hp rs hl e _ => gua_elim e fun hn e => on_int (P := fun _ vl => s.heap.IsSliceOf sl vl vu .none → SliceOk prog w base os A s μ H' v (.ref p) (.ref sl)) e rl (fun k t e hs => gud_elim e fun hk e => by
      rw [isNone_rel hn ru] at hs
      obtain ⟨c, rfl⟩ := Int.eq_ofNat_of_zero_le hk.1
      refine ⟨"tuple", _, ⟨_, hp, rfl⟩, PySem.F.slot_tuple_getitem.lookup, fun E => fin e ?_⟩
      have hsz : vs.toArray.size ≤ sizeLine := by rw [List.size_toArray, rs.length]; exact line_le hl
      refine tup_slice hp hs (.int _ _) .none .none (by decide) hsz (L := vs.drop c) (by simpa using cut_drop vs c) (by simp) (fun h1 _ hn => ?_) ?_
      · have hb : l.drop c = l := by
          simp only [Option.getD_none, List.size_toArray, adj_drop, pl_drop] at hn h1
          have hc : c = 0 ∨ l = [] := by
            by_cases h : c = 0
            · exact .inl h
            · right
              have : vs.length = 0 := by omega
              exact List.length_eq_zero_iff.mp (by rw [← rs.length]; exact this)
          rcases hc with rfl | rfl <;> simp
        exact Post.same I (by show Rel _ _ (.tup (l.drop c)) _; rw [hb]; exact .tup hp rs hl) rfl
      · exact Post.tuple I (rs.drop c) (by show (l.drop c).length ≤ _; rw [List.length_drop]; omega) rfl) hs)
    (fun e ra => on_ref (P := fun _ x => SliceOk prog w base os A s μ H' v x (.ref sl)) e ra fun j p hp e => obn_elim e fun l hl e => gua_elim e fun hn e =>
      on_int (P := fun _ vu => s.heap.IsSliceOf sl vl vu .none → SliceOk prog w base os A s μ H' v (.ref p) (.ref sl)) e ru (fun k t e hs => gud_elim e fun hk e => by
        rw [isNone_rel hn rl] at hs
        obtain ⟨c, rfl⟩ := Int.eq_ofNat_of_zero_le hk.1
        obtain ⟨vs, h1, rs, hlen⟩ := I.fz hp (frz_eq hl)
        refine ⟨"list", _, h1.typeIs, PySem.F.slot_list_getitem.lookup, fun E => fin e ?_⟩
        refine wpAny_getItem_list_slice (items := vs.toArray) h1 hs .none (.int _ _) .none (by decide) ?_ (by rw [List.size_toArray, rs.length]; exact line_le hlen)
        rw [slicePick_upto']
        exact Post.list I (rs.take c) (by show (l.take c).length ≤ _; rw [List.length_take]; omega) rfl) hs) ra
theorem rev_snd (I : Inv prog w base os s H μ) {sl : Addr} {t : Tok} (e : caT a (fun l => some (V.tup l.reverse, H)) none = some (v, H')) (ra : Rel s.heap μ a x) (hs : s.heap.IsSliceOf sl .none .none (.int (-1) t)) : SliceOk prog w base os A s μ H' v x (.ref sl) :=
  ca_tup (P := fun _ x => SliceOk prog w base os A s μ H' v x (.ref sl)) e ra (fun l p vs n hp rs hl e => by
    refine ⟨"tuple", _, ⟨_, hp, rfl⟩, PySem.F.slot_tuple_getitem.lookup, fun E => fin e ?_⟩
    have hsz : vs.toArray.size ≤ sizeLine := by rw [List.size_toArray, rs.length]; exact line_le hl
    refine tup_slice hp hs .none .none (.int _ _) (by decide) hsz (L := vs.reverse) (by simpa using cut_rev vs) (by simp) (fun _ h1 _ => absurd h1 (by decide)) ?_
    exact Post.tuple I rs.reverse (by rw [List.length_reverse]; exact hl) rfl) fun e => nomatch e
end
end Mine
/-! Snd8 -/
namespace Mine
open PySem PySem.Calls PyProof.Rows PySem.SeqAt PySem.W

theorem Ext.new {h h' : Heap} (k : Keep h h') {p : Addr} (hp : h.get? p = none) (μ F : List Addr) : Ext h h' μ (μ ++ [p]) F :=
  ⟨⟨[p], rfl, by simp [hp]⟩, fun a o' e => ⟨o', k a o' e⟩, fun a o' e _ _ => k a o' e⟩
section
variable {prog : Program} {w : World} {base : Heap} {os : OsState} {A : Around} {E : Value → Shared → Prop} {s s' : Shared} {H H' : AH} {μ : List Addr} {a b v : V} {x y : Value} {r : Bool} {Q : Value → Shared → Prop}
theorem Post.new (I : Inv prog w base os s H μ) {p : Addr} {m : MO} {sm : Bool} (k : Keep s.heap s'.heap) (hp : s.heap.objs.size ≤ p) (hm : ObjR prog w s'.heap (μ ++ [p]) p m)
    (hg : s'.gens = s.gens := by rfl) (ho : s'.os = s.os := by rfl) : Post prog w base os s.heap μ (H ++ [m]) (.ref H.length) sm (.ref p) s' := by
  refine ⟨μ ++ [p], I.new k hp hm hg ho, Ext.new k (Heap.get?_none_of_le hp) μ [], .ref ?_, fun _ => k⟩
  rw [List.getElem?_append_right (by rw [I.len]; exact Nat.le_refl _), I.len]
  simp
/-- a new list somewhere -/
theorem Post.newList (I : Inv prog w base os s H μ) {l : List V} {vs : List Value} {p : Addr} {n : Nat} {sm : Bool} (r : Rels s.heap μ l vs) (hl : l.length ≤ lineN) (k : Keep s.heap s'.heap) (hp : s.heap.objs.size ≤ p)
    (ho : s'.heap.get? p = some (lstObj vs.toArray n)) (hg : s'.gens = s.gens := by rfl) (hos : s'.os = s.os := by rfl) : Post prog w base os s.heap μ (H ++ [.list l]) (.ref H.length) sm (.ref p) s' :=
  Post.new I k hp (.list ho (r.ext (Ext.new k (Heap.get?_none_of_le hp) μ []) I.noTup fun _ q => nomatch q) hl) hg hos
/-- a new tuple somewhere -/
theorem Post.newTuple (I : Inv prog w base os s H μ) {l : List V} {vs : List Value} {p : Addr} {n : Nat} {sm : Bool} (r : Rels s.heap μ l vs) (hl : l.length ≤ lineN) (k : Keep s.heap s'.heap)
    (ho : s'.heap.get? p = some (tupObj vs.toArray n)) (hg : s'.gens = s.gens := by rfl) (hos : s'.os = s.os := by rfl) : Post prog w base os s.heap μ H (.tup l) sm (.ref p) s' :=
  ⟨μ, I.keep k hg hos, Ext.of_keep k μ [], .tup ho (r.ext (Ext.of_keep k μ []) I.noTup fun _ q => nomatch q) hl, fun _ => k⟩
theorem intsAre_of {h : Heap} {l : List V} {vs : List Value} (r : Rels h μ l vs) : ∀ {ns : List Int}, intsOf l = some ns → IntsAre vs ns :=
  r.ind (M := fun l vs => ∀ {ns : List Int}, intsOf l = some ns → IntsAre vs ns) (fun e => Option.some.inj e ▸ .nil) fun {v x l xs} a _ ih ns e =>
    on_int (P := fun _ x => IntsAre (x :: xs) ns) e a fun i t e => obn_elim e fun m hm e => Option.some.inj e ▸ .cons _ _ (ih hm)
theorem rels_ints {h : Heap} {vs : List Value} {ns : List Int} (r : IntsAre vs ns) : Rels h μ (ns.map .int) vs := by
  induction r with
  | nil => exact .nil
  | cons _ _ _ ih => exact .cons (.int _ _) ih
theorem insI_perm (x : Int) : ∀ l, (insI x l).Perm (x :: l)
  | [] => .refl _
  | y :: r => by
    unfold insI
    split
    · exact .refl _
    · exact (List.Perm.cons y (insI_perm x r)).trans (.swap x y r)
theorem sortI_perm : ∀ l, (sortI l).Perm l
  | [] => .refl _
  | x :: r => (insI_perm x (sortI r)).trans (.cons x (sortI_perm r))
theorem insI_sorted (x : Int) : ∀ {l : List Int}, l.Pairwise (· ≤ ·) → (insI x l).Pairwise (· ≤ ·)
  | [], _ => by simp [insI]
  | y :: r, h => by
    unfold insI
    have h' := List.pairwise_cons.mp h
    split
    · rename_i hxy
      refine List.pairwise_cons.mpr ⟨fun z hz => ?_, h⟩
      rcases List.mem_cons.mp hz with rfl | hz
      · exact hxy
      · exact Int.le_trans hxy (h'.1 z hz)
    · rename_i hxy
      refine List.pairwise_cons.mpr ⟨fun z hz => ?_, insI_sorted x h'.2⟩
      rcases List.mem_cons.mp ((insI_perm x r).mem_iff.mp hz) with rfl | hz
      · omega
      · exact h'.1 z hz
theorem sortI_sorted : ∀ l, (sortI l).Pairwise (· ≤ ·)
  | [] => .nil
  | x :: r => insI_sorted x (sortI_sorted r)
theorem perm_sorted_eq : ∀ {l m : List Int}, l.Perm m → l.Pairwise (· ≤ ·) → m.Pairwise (· ≤ ·) → l = m
  | [], m, p, _, _ => p.nil_eq
  | x :: l, [], p, _, _ => absurd p.symm.nil_eq (by simp)
  | x :: l, y :: m, p, hl, hm => by
    have hl' := List.pairwise_cons.mp hl
    have hm' := List.pairwise_cons.mp hm
    have e : x = y := by
      rcases List.mem_cons.mp (p.mem_iff.mp (List.mem_cons_self ..)) with h | h
      · exact h
      · rcases List.mem_cons.mp (p.mem_iff.mpr (List.mem_cons_self ..)) with h' | h'
        · exact h'.symm
        · exact Int.le_antisymm (hl'.1 y h') (hm'.1 x h)
    subst e
    rw [perm_sorted_eq (p.cons_inv) hl'.2 hm'.2]
theorem intsOf_len (l : List V) : ∀ {ns : List Int}, intsOf l = some ns → ns.length = l.length := by
  induction l with
  | nil => intro ns e; exact Option.some.inj e ▸ rfl
  | cons v l ih => intro ns e; exact onInt_elim (P := fun _ => ns.length = l.length + 1) e fun i e => obn_elim e fun m hm e => by rw [← Option.some.inj e, List.length_cons, ih hm]
theorem sortI_len (l : List Int) : (sortI l).length = l.length := (sortI_perm l).length_eq
theorem line63 {n : Nat} (h : n ≤ lineN) : (n : Int) < 2 ^ 63 := by
  have e : lineN = 1048576 := by decide
  omega

theorem len_snd (I : Inv prog w base os s H μ) (e : lenV a H = some (v, H')) (ra : Rel s.heap μ a x) : wpAny (model prog w) A (call (.builtin "len") [x]) (Post prog w base os s.heap μ H' v true) E s :=
  ca_tup (P := fun a x => Rel s.heap μ a x → wpAny (model prog w) A (call (.builtin "len") [x]) (Post prog w base os s.heap μ H' v true) E s) e ra
    (fun l p vs n hp rl hl e _ => fin e (PySem.P.len_tuple hp (by rw [List.size_toArray, rl.length]; have := line63 hl; omega) (by rw [List.size_toArray, rl.length]; exact Post.same I (.int _ _) rfl)))
    (fun e ra => on_lst (P := fun _ x => wpAny (model prog w) A (call (.builtin "len") [x]) (Post prog w base os s.heap μ H' v true) E s) I e ra fun j l p vs n _ _ h1 rs hlen e => fin e
      (call_len_list (items := vs.toArray) ⟨_, h1, rfl, n, rfl⟩ (by rw [List.size_toArray, rs.length]; exact line63 hlen) (by rw [List.size_toArray, rs.length]; exact Post.same I (.int _ _) rfl))) ra
theorem abs_snd (I : Inv prog w base os s H μ) (e : absV a H = some (v, H')) (ra : Rel s.heap μ a x) : wpAny (model prog w) A (call (.builtin "abs") [x]) (Post prog w base os s.heap μ H' v true) E s :=
  on_int (P := fun _ x => wpAny (model prog w) A (call (.builtin "abs") [x]) (Post prog w base os s.heap μ H' v true) E s) e ra fun i t e => fin e (PyProof.Rows.call_abs_int fun u tk => Post.same I (.int _ _) rfl)
theorem str_snd (I : Inv prog w base os s H μ) (e : strV a H = some (v, H')) (ra : Rel s.heap μ a x) : wpAny (model prog w) A (call (.type "str") [x]) (Post prog w base os s.heap μ H' v true) E s :=
  on_int (P := fun _ x => wpAny (model prog w) A (call (.type "str") [x]) (Post prog w base os s.heap μ H' v true) E s) e ra fun i t e => gud_elim e fun hi e => fin e <| by
    have hcase : i = 0 ∨ i = 1 ∨ i = 2 := by omega
    have ht : Str.ofString (toString i) = dec (48 + i.toNat) := by
      rcases hcase with h | h | h <;> subst h <;> decide +kernel
    refine PySem.P.str_of_int ?_ ?_
    · rcases hcase with h | h | h <;> subst h <;> decide +kernel
    · show Post _ _ _ _ _ _ _ _ _ (.str (Str.ofString (toString i)) _) _
      rw [ht]
      exact Post.same I (.str _ _) rfl
theorem sorted_snd (I : Inv prog w base os s H μ) (e : sortedV a H = some (v, H')) (ra : Rel s.heap μ a x) : wpAny (model prog w) A (call (.builtin "sorted") [x]) (Post prog w base os s.heap μ H' v true) E s :=
  on_lst (P := fun _ x => wpAny (model prog w) A (call (.builtin "sorted") [x]) (Post prog w base os s.heap μ H' v true) E s) I e ra fun j l p vs n _ _ h1 rs hlen e => gud_elim e fun h64 e => obn_elim e fun ns hn e => fin e (by
    refine PyProof.Rows.sorted_ints ⟨_, h1, rfl, n, rfl⟩ (intsAre_of rs hn) (by rw [rs.length]; exact h64) fun out ns' h2 h3 h4 => ?_
    have e1 : ns' = sortI ns := perm_sorted_eq (h3.trans (sortI_perm ns).symm) h4 (sortI_sorted ns)
    subst e1
    obtain ⟨q, hq⟩ := sortedAll_at s.heap vs out
    exact Post.newList (vs := out.toList) I (rels_ints h2) (by rw [List.length_map, sortI_len, intsOf_len l hn]; exact hlen) (fun b o hb => sortedAll_old hb) (by omega)
      (by first | exact hq | simpa using hq))
theorem tuple_snd (I : Inv prog w base os s H μ) (e : tupleV a H = some (v, H')) (ra : Rel s.heap μ a x) : wpAny (model prog w) A (call (.type "tuple") [x]) (Post prog w base os s.heap μ H' v true) E s :=
  on_lst (P := fun _ x => wpAny (model prog w) A (call (.type "tuple") [x]) (Post prog w base os s.heap μ H' v true) E s) I e ra fun j l p vs n _ _ h1 rs hlen e => fin e
    (call_tuple_list (items := vs.toArray) ⟨_, h1, rfl, n, rfl⟩ (fun h' hk => Post.newTuple (n := 0) I rs hlen (fun b o hb => Heap.get?_push_of_some _ (hk b o hb)) (Heap.get?_push_size _ rfl)) (by rw [List.size_toArray, rs.length]; exact line_le hlen))
theorem list_snd (I : Inv prog w base os s H μ) (e : listV a H = some (v, H')) (ra : Rel s.heap μ a x) : wpAny (model prog w) A (call (.type "list") [x]) (Post prog w base os s.heap μ H' v true) E s :=
  ca_tup (P := fun _ x => wpAny (model prog w) A (call (.type "list") [x]) (Post prog w base os s.heap μ H' v true) E s) e ra (fun l p vs n hp rl hl e => fin e
    (call_list_seq p (.inr rfl) hp rfl rfl (fun h' c' hk ho => Post.newList I rl hl hk (Nat.le_refl _) ho) (by rw [List.size_toArray, rl.length]; exact line_le hl))) fun e =>
  on_lst (P := fun _ x => wpAny (model prog w) A (call (.type "list") [x]) (Post prog w base os s.heap μ H' v true) E s) I e ra fun j l p vs n _ _ hp rl hl e => fin e
    (call_list_seq p (.inl rfl) hp rfl rfl (fun h' c' hk ho => Post.newList I rl hl hk (Nat.le_refl _) ho) (by rw [List.size_toArray, rl.length]; exact line_le hl))
end
end Mine
/-! Snd9 -/
namespace Mine
open PySem PySem.Calls PyProof.Rows PySem.SeqAt PySem.W

section
variable {prog : Program} {w : World} {base : Heap} {os : OsState} {A : Around} {E : Value → Shared → Prop} {s s' : Shared} {H H' : AH} {μ : List Addr} {a b v : V} {x y z : Value} {r : Bool} {Q : Value → Shared → Prop}
theorem RelD.any {h : Heap} {l : List (Key × V)} {kvs : List (Key × Value)} (d : RelD h μ l kvs) (k : Key) : l.any (fun p => decide (p.1 = k)) = kvs.any (fun p => decide (p.1 = k)) := by
  induction d with
  | nil => rfl
  | cons _ _ ih => simp only [List.any_cons, ih]
theorem RelD.append {h : Heap} {l m : List (Key × V)} {kvs kws : List (Key × Value)} (d : RelD h μ l kvs) (e : RelD h μ m kws) : RelD h μ (l ++ m) (kvs ++ kws) := by
  induction d with
  | nil => exact e
  | cons a _ ih => exact .cons a ih
theorem RelD.setMap {h : Heap} {l : List (Key × V)} {kvs : List (Key × Value)} (d : RelD h μ l kvs) (k : Key) {v : V} {x : Value} (r : Rel h μ v x) :
    RelD h μ (l.map (fun p => if p.1 = k then (p.1, v) else p)) (kvs.map (fun p => if p.1 = k then (p.1, x) else p)) := by
  induction d with
  | nil => exact .nil
  | @cons k' v' x' _ _ a _ ih =>
    simp only [List.map_cons]
    by_cases h : k' = k
    · rw [if_pos h, if_pos h]; exact .cons r ih
    · rw [if_neg h, if_neg h]; exact .cons a ih
theorem RelD.stored {h : Heap} {l : List (Key × V)} {kvs : List (Key × Value)} (d : RelD h μ l kvs) (k : Key) {v : V} {x : Value} (r : Rel h μ v x) : RelD h μ (setK l k v) (stored kvs k x) := by
  unfold setK PySem.stored
  rw [d.any k]
  by_cases h : (kvs.any fun p => decide (p.1 = k)) = true
  · rw [if_pos h, if_pos h]
    exact d.setMap k r
  · rw [if_neg h, if_neg h]
    exact d.append (.cons r .nil)
theorem RelD.without {h : Heap} {l : List (Key × V)} {kvs : List (Key × Value)} (d : RelD h μ l kvs) (k : Key) : RelD h μ (delK l k) (without kvs k) := by
  unfold delK PySem.without
  induction d with
  | nil => exact .nil
  | @cons k' v' x' _ _ a _ ih =>
    simp only [List.filter_cons]
    by_cases h : k' = k
    · rw [if_neg (by simp [h]), if_neg (by simp [h])]; exact ih
    · rw [if_pos (by simp [h]), if_pos (by simp [h])]; exact .cons a ih
theorem setK_len (l : List (Key × V)) (k : Key) (v : V) : (setK l k v).length ≤ l.length + 1 := by
  unfold setK
  split <;> simp
theorem keyPart_some {k : Key} (h : keyIs k x = true) : (keyPart x).isSome = true := by
  cases k
  · obtain ⟨t, rfl⟩ := keyIs_s h; rfl
  · obtain ⟨t, rfl⟩ := keyIs_i h; rfl

/-- a list is written -/
theorem write_list (I : Inv prog w base os s H μ) {j : Nat} {q : Addr} {l m : List V} {ws : List Value} (hj : μ[j]? = some q) (hl : H[j]? = some (.list l)) (sb : Heap.SameBut q s.heap s'.heap)
    {n : Nat} (ho : s'.heap.get? q = some (lstObj ws.toArray n)) (rs : Rels s.heap μ m ws) (hm : m.length ≤ lineN) (hg : s'.gens = s.gens := by rfl) (hos : s'.os = s.os := by rfl) :
    Inv prog w base os s' (H.set j (.list m)) μ ∧ Ext s.heap s'.heap μ μ [] :=
  I.write hj hl rfl sb ⟨_, ho⟩ (fun f => .list ho (rs.all f) hm) hg hos
theorem write_dict (I : Inv prog w base os s H μ) {j : Nat} {q : Addr} {l m : List (Key × V)} {kvs : List (Key × Value)} (hj : μ[j]? = some q) (hl : H[j]? = some (.dict l)) (sb : Heap.SameBut q s.heap s'.heap)
    (ho : s'.heap.DictOf (kn prog w) q kvs) (rs : RelD s.heap μ m kvs) (hm : m.length ≤ lineN) (hg : s'.gens = s.gens := by rfl) (hos : s'.os = s.os := by rfl) :
    Inv prog w base os s' (H.set j (.dict m)) μ ∧ Ext s.heap s'.heap μ μ [] :=
  I.write hj hl rfl sb (let ⟨o, _, _, h, _⟩ := ho; ⟨o, h⟩) (fun f => .dict ho (rs.all f) hm) hg hos

/-- xs[i] = v: what is left -/
noncomputable def StoreP (prog : Program) (w : World) (base : Heap) (os : OsState) (h : Heap) (μ : List Addr) (H' : AH) : Unit → Shared → Prop := fun _ s' =>
  Inv prog w base os s' H' μ ∧ Ext h s'.heap μ μ []
theorem store_list {q : Addr} {vs : List Value} {n : Nat} {k : Int} {t : Tok} {Q : Unit → Shared → Prop} (ho : s.heap.get? q = some (lstObj vs.toArray n)) (h0 : 0 ≤ k) (hk : k < vs.length) (hfit : k < 2 ^ 63)
    (hQ : ∀ h' n', h'.get? q = some (lstObj (vs.set k.toNat x).toArray n') → Heap.SameBut q s.heap h' → Q () { s with heap := h' }) : wpAny (model prog w) A (setItem (.ref q) (.int k t) x) Q E s := by
  have hl : s.heap.IsList q vs.toArray := ⟨_, ho, rfl, n, rfl⟩
  unfold setItem
  try with_reducible refine wpAny_holding ?_
  first | refine wpAny_bind (wpAny_pure ?_) | skip
  refine wpAny_bind (wpAny_sequenceKey hl.typeIs (by decide) ?_)
  refine wpAny_bind (wpAny_callSpecial?_slot (name := Str.ofString "__setitem__") hl.typeIs slot_list_setitem
    (wpAny_call_entry slot_list_setitem hl.typeIs entry_list_setitem ?_ (args_list_setitem _ _ _)))
  show wpAny _ _ (Builtin.List.listSubscript? (.int k t) >>= _) _ _ s
  refine wpAny_bind (wpAny_listSubscript_int (fitsIndex_of h0 hfit) ?_)
  clear hfit
  obtain ⟨j, rfl⟩ := Int.eq_ofNat_of_zero_le h0
  have hj : j < vs.toArray.size := by simpa using hk
  have hx' : vs.toArray[j]? = some vs.toArray[j] := Array.getElem?_eq_getElem hj
  show wpAny _ _ ((seqItemAt q j >>= fun r => pure (r.map (j, ·))) >>= _) _ _ s
  refine wpAny_bind (wpAny_bind (wpAny_seqItemAt ho rfl (wpAny_pure ?_)))
  rw [hx']
  show wpAny _ _ (setSeqItemAt q j x >>= _) _ _ s
  have hfin : ∃ n', (s.heap.update q (Obj.mapSeq (·.setIfInBounds j x))).get? q = some (lstObj (vs.set j x).toArray n') := by
    have := Heap.get?_update_self (Obj.mapSeq (·.setIfInBounds j x)) ho rfl
    have e2 : Obj.mapSeq (·.setIfInBounds j x) (lstObj vs.toArray n) = lstObj (vs.set j x).toArray (Obj.mapSeq (·.setIfInBounds j x) (lstObj vs.toArray n) |>.data |> fun d => match d with | .seq _ k => k | _ => 0) := by
      simp [Obj.mapSeq]
    exact ⟨_, this.trans (congrArg some e2)⟩
  obtain ⟨n', hfin⟩ := hfin
  refine wpAny_bind (wpAny_setSeqItemAt ho rfl ?_)
  exact wpAny_bind (wpAny_pure (wpAny_pure ⟨.none, rfl, wpAny_pure (hQ _ n' hfin (Heap.SameBut.update ..))⟩))
theorem store_snd (I : Inv prog w base os s H μ) (e : storeV a b v H = some H') (ra : Rel s.heap μ a x) (rb : Rel s.heap μ b y) (rv : Rel s.heap μ v z) :
    wpAny (model prog w) A (setItem x y z) (StoreP prog w base os s.heap μ H') E s :=
  ca_lst (P := fun a x => Rel s.heap μ a x → wpAny (model prog w) A (setItem x y z) (StoreP prog w base os s.heap μ H') E s) I e ra
    (fun j l p vs n hp hl h1 rl hlen e _ => on_int (P := fun _ y => wpAny (model prog w) A (setItem (.ref p) y z) (StoreP prog w base os s.heap μ H') E s) e rb fun k t e => gud_elim e fun h0 e => by
      have hlv := rl.length
      have h63 := line63 hlen
      refine store_list h1 h0.1 (by omega) (by omega) fun h' n' ho sb => ?_
      exact Option.some.inj e ▸ write_list I hp hl sb ho (rl.set rv _) (by rw [List.length_set]; exact hlen))
    (fun e ra => on_dct (P := fun _ x => wpAny (model prog w) A (setItem x y z) (StoreP prog w base os s.heap μ H') E s) I e ra fun j l p kvs hp hl hd rd _ e => on_key e rb fun k hk e => gud_elim e fun hlen e => by
      refine wpAny_setItem_pairs (knd := kn prog w) hk hd (fun h' hd' sb => ?_) (by rw [rd.length]; exact line_le (by omega))
      exact Option.some.inj e ▸ write_dict I hp hl sb hd' (rd.stored k rv) (Nat.le_trans (setK_len ..) hlen)) ra

/-! methods -/
noncomputable def meId (m : Me) : String × String × String := match m with
  | .get => ("dict", "get", "dict.get")
  | .pop => ("dict", "pop", "dict.pop")
  | .append => ("list", "append", "list.append")
  | .pop0 => ("list", "pop", "list.pop")
  | .pop1 => ("dict", "pop", "dict.pop")
  | .count => ("tuple", "count", "tuple.count")
theorem sysNe (_ : Big base) {q : Addr} (h : base.get? q = none ∧ q ≠ sysModules) : (q == sysModules) = false := by
  simpa using h.2
theorem on_as1 {γ : Type} {h : Heap} {as : List V} {ys : List Value} {f : V → Option γ} {r : γ} {P : List Value → Prop} (e : as1 as f = some r) (rs : Rels h μ as ys) (k : ∀ v x, Rel h μ v x → f v = some r → P [x]) : P ys := by
  cases rs with
  | nil => cases e
  | cons a rs => exact gua_elim e fun h e => by
                  cases rs with
                  | nil => exact k _ _ a e
                  | cons _ _ => cases h
theorem on_as2 {γ : Type} {h : Heap} {as : List V} {ys : List Value} {f : V → V → Option γ} {r : γ} {P : List Value → Prop} (e : as2 as f = some r) (rs : Rels h μ as ys) (k : ∀ v x u y, Rel h μ v x → Rel h μ u y → f v u = some r → P [x, y]) : P ys := by
  cases rs with
  | nil => cases e
  | cons a rs => exact on_as1 (P := fun ys => P (_ :: ys)) e rs fun u y b e => k _ _ u y a b e
theorem get_snd (hsys : Big base) (I : Inv prog w base os s H μ) {as : List V} {ys : List Value} (e : getV a as H = some (v, H')) (ra : Rel s.heap μ a x) (rs : Rels s.heap μ as ys) :
    wpAny (model prog w) A (call (.builtin "dict.get") (x :: ys)) (Post prog w base os s.heap μ H' v false) E s :=
  on_dct (P := fun _ x => wpAny (model prog w) A (call (.builtin "dict.get") (x :: ys)) (Post prog w base os s.heap μ H' v false) E s) I e ra fun j l p kvs hp hl hd rd _ e =>
  on_as2 (P := fun ys => wpAny (model prog w) A (call (.builtin "dict.get") (.ref p :: ys)) (Post prog w base os s.heap μ H' v false) E s) e rs fun _ _ d _ rk rdf e => on_key e rk fun k' hk e => fin e <| by
    refine call_meetsIn PySem.F.slot_dict_get hd.typeIs PySem.F.entry_dict_get (PySem.F.args_dict_get_3 _ _ _) (meets_dict_get_default (kn prog w) p hk (sysNe hsys (I.fresh _ p _ hp hl rfl)) _) ⟨_, hd.mapOf, ?_⟩
    rcases rd.get k' with ⟨h1, h2⟩ | ⟨u, z, h1, h2, rz⟩
    · rw [h1, h2]; exact Post.same I rdf rfl
    · rw [h1, h2]; exact Post.same I rz rfl
theorem pop_snd (hsys : Big base) (I : Inv prog w base os s H μ) {as : List V} {ys : List Value} (e : popV a as H = some (v, H')) (ra : Rel s.heap μ a x) (rs : Rels s.heap μ as ys) :
    wpAny (model prog w) A (call (.builtin "dict.pop") (x :: ys)) (Post prog w base os s.heap μ H' v false) E s :=
  on_dct (P := fun _ x => wpAny (model prog w) A (call (.builtin "dict.pop") (x :: ys)) (Post prog w base os s.heap μ H' v false) E s) I e ra fun j l p kvs hp hl hd rd hlen e =>
  on_as2 (P := fun ys => wpAny (model prog w) A (call (.builtin "dict.pop") (.ref p :: ys)) (Post prog w base os s.heap μ H' v false) E s) e rs fun _ _ d _ rk rdf e => on_key e rk fun k' hk e => by
    rcases rd.get k' with ⟨h1, h2⟩ | ⟨u, z, h1, h2, rz⟩
    · rw [h1] at e
      exact fin e (call_meetsIn PySem.F.slot_dict_pop hd.typeIs PySem.F.entry_dict_pop (PySem.F.args_dict_pop_3 _ _ _) (meets_dict_pop_default (kn prog w) p hk (sysNe hsys (I.fresh _ p _ hp hl rfl)) (keyPart_some hk) _)
        ⟨kvs, hd, h2, Post.same I rdf rfl⟩)
    · rw [h1] at e
      exact fin e (call_meetsIn PySem.F.slot_dict_pop hd.typeIs PySem.F.entry_dict_pop (PySem.F.args_dict_pop_3 _ _ _) (meets_dict_pop_there (kn prog w) p hk [_] (.inr ⟨_, rfl⟩) (keyPart_some hk))
        ⟨kvs, z, hd, by rw [rd.length]; exact line_le hlen, h2, fun h' hd' sb =>
          have IX := write_dict (s' := { s with heap := h', toks := s.toks + 1 }) I hp hl sb hd' (rd.without k') (Nat.le_trans (List.length_filter_le ..) hlen)
          ⟨μ, IX.1, IX.2, rz.ext IX.2 I.noTup (fun _ q => nomatch q), fun q => nomatch q⟩⟩)
theorem app_snd (I : Inv prog w base os s H μ) {as : List V} {ys : List Value} (e : appV a as H = some (v, H')) (ra : Rel s.heap μ a x) (rs : Rels s.heap μ as ys) :
    wpAny (model prog w) A (call (.builtin "list.append") (x :: ys)) (Post prog w base os s.heap μ H' v false) E s :=
  on_lst (P := fun _ x => wpAny (model prog w) A (call (.builtin "list.append") (x :: ys)) (Post prog w base os s.heap μ H' v false) E s) I e ra fun j l p vs n hp hl h1 rl hl1 e =>
  on_as1 (P := fun ys => wpAny (model prog w) A (call (.builtin "list.append") (.ref p :: ys)) (Post prog w base os s.heap μ H' v false) E s) e rs fun u y ru e => gud_elim e fun hlen e => fin e <|
    wpAny_list_append_plain (items := vs.toArray) ⟨n, h1⟩ (fun h' ho sb => by
      obtain ⟨n', ho⟩ := ho
      have IX := write_list (s' := { s with heap := h' }) (ws := vs ++ [_]) I hp hl sb (n := n') (by simpa using ho) (rl.append (.cons ru .nil)) (by rw [List.length_append]; exact hlen)
      exact ⟨μ, IX.1, IX.2, .none, fun q => nomatch q⟩) (by rw [List.size_toArray, rl.length]; exact line_le hl1)
theorem pop1_snd (I : Inv prog w base os s H μ) {as : List V} {ys : List Value} (e : pop1V a as H = some (v, H')) (ra : Rel s.heap μ a x) (rs : Rels s.heap μ as ys) :
    wpAny (model prog w) A (call (.builtin "dict.pop") (x :: ys)) (Post prog w base os s.heap μ H' v false) E s :=
  on_dct (P := fun _ x => wpAny (model prog w) A (call (.builtin "dict.pop") (x :: ys)) (Post prog w base os s.heap μ H' v false) E s) I e ra fun j l p kvs hp hl hd rd hlen e =>
  on_as1 (P := fun ys => wpAny (model prog w) A (call (.builtin "dict.pop") (.ref p :: ys)) (Post prog w base os s.heap μ H' v false) E s) e rs fun _ _ rk e => on_key e rk fun k' hk e => by
    rcases rd.get k' with ⟨h1, h2⟩ | ⟨u, z, h1, h2, rz⟩
    · rw [h1] at e; cases e
    · rw [h1] at e
      exact fin e (call_meetsIn PySem.F.slot_dict_pop hd.typeIs PySem.F.entry_dict_pop (PySem.F.args_dict_pop_2 _ _) (meets_dict_pop_there (kn prog w) p hk [] (.inl rfl) (keyPart_some hk))
        ⟨kvs, z, hd, by rw [rd.length]; exact line_le hlen, h2, fun h' hd' sb =>
          have IX := write_dict (s' := { s with heap := h', toks := s.toks + 1 }) I hp hl sb hd' (rd.without k') (Nat.le_trans (List.length_filter_le ..) hlen)
          ⟨μ, IX.1, IX.2, rz.ext IX.2 I.noTup (fun _ q => nomatch q), fun q => nomatch q⟩⟩)
theorem pop0_snd (I : Inv prog w base os s H μ) {as : List V} {ys : List Value} (e : pop0V a as H = some (v, H')) (ra : Rel s.heap μ a x) (rs : Rels s.heap μ as ys) :
    wpAny (model prog w) A (call (.builtin "list.pop") (x :: ys)) (Post prog w base os s.heap μ H' v false) E s :=
  on_lst (P := fun _ x => wpAny (model prog w) A (call (.builtin "list.pop") (x :: ys)) (Post prog w base os s.heap μ H' v false) E s) I e ra fun j l p vs n hp hl h1 rl hlen e =>
  on_as1 (P := fun ys => wpAny (model prog w) A (call (.builtin "list.pop") (.ref p :: ys)) (Post prog w base os s.heap μ H' v false) E s) e rs fun u y ru e =>
  on_int (P := fun _ y => wpAny (model prog w) A (call (.builtin "list.pop") [.ref p, y]) (Post prog w base os s.heap μ H' v false) E s) e ru fun k t e => gud_elim e fun hk e => by
    subst hk
    cases rl with
    | nil => cases e
    | @cons _ z _ zs ru rl =>
      refine fin e (call_meets PySem.F.slot_list_pop ⟨_, h1, rfl⟩ PySem.F.entry_list_pop (PySem.F.args_list_pop_2 _ _) (PySem.MeetsSeq.list_pop_at p (z :: zs).toArray n 0 t 0 z (by decide) (by simp [seqIndex?]) (by simp)
        (by rw [List.size_toArray, List.length_cons, rl.length]; exact line_le (by simpa using hlen))) ⟨h1, ?_⟩)
      have ho := Heap.get?_update_self (Obj.mapSeq (fun xs => xs.eraseIdxIfInBounds 0)) h1 rfl
      have IX := write_list (s' := { s with heap := s.heap.update p (Obj.mapSeq fun xs => xs.eraseIdxIfInBounds 0) }) (ws := zs) I hp hl (Heap.SameBut.update ..) (n := _)
        (ho.trans (by simp only [Obj.mapSeq]; simp [lstObj, Array.eraseIdxIfInBounds]; rfl)) rl (by simp at hlen; omega)
      exact ⟨μ, IX.1, IX.2, ru.ext IX.2 I.noTup (fun _ q => nomatch q), fun q => nomatch q⟩
theorem count_ints {vs : List Value} {ns : List Int} (hI : IntsAre vs ns) (i : Int) : (∀ y ∈ vs, ∃ j u, y = .int j u) ∧ vs.countP (sameI i) = (ns.filter (· == i)).length := by
  induction hI with
  | nil => exact ⟨fun _ h => (nomatch h), rfl⟩
  | cons j u _ ih =>
    refine ⟨fun y hy => ?_, ?_⟩
    · rcases List.mem_cons.mp hy with h | h
      · exact ⟨_, _, h⟩
      · exact ih.1 y h
    · rw [List.countP_cons, List.filter_cons, ih.2]
      show _ + (if (j == i) = true then 1 else 0) = _
      by_cases h : (j == i) = true
      · rw [if_pos h, if_pos h]; rfl
      · rw [if_neg h, if_neg h]; rfl
theorem count_snd (I : Inv prog w base os s H μ) {as : List V} {ys : List Value} (e : countV a as H = some (v, H')) (ra : Rel s.heap μ a x) (rs : Rels s.heap μ as ys) :
    wpAny (model prog w) A (call (.builtin "tuple.count") (x :: ys)) (Post prog w base os s.heap μ H' v false) E s :=
  ca_tup (P := fun _ x => wpAny (model prog w) A (call (.builtin "tuple.count") (x :: ys)) (Post prog w base os s.heap μ H' v false) E s) e ra (fun l p vs n hp rl hl e =>
  on_as1 (P := fun ys => wpAny (model prog w) A (call (.builtin "tuple.count") (.ref p :: ys)) (Post prog w base os s.heap μ H' v false) E s) e rs fun u y ru e =>
  on_int (P := fun _ y => wpAny (model prog w) A (call (.builtin "tuple.count") [.ref p, y]) (Post prog w base os s.heap μ H' v false) E s) e ru fun i t e => obn_elim e fun ns hn e => fin e <| by
    have hI := count_ints (intsAre_of rl hn) i
    refine call_meets PySem.F.slot_tuple_count ⟨_, hp, rfl⟩ PySem.F.entry_tuple_count (PySem.F.args_tuple_count_2 _ _) (tuple_countAt p vs.toArray n none #[] (.int i t) (sameI i)) ⟨hp, fun y hy => ?_, ?_⟩
    · obtain ⟨j, u, rfl⟩ := hI.1 y (by simpa using hy)
      intro prog w E Q hq
      refine wpAny_eqBool_int ?_
      have : decide (j = i) = (j == i) := by by_cases h : j = i <;> simp [h]
      first | exact hq | (rw [this]; exact hq)
    · rw [show (vs.toArray.toList.countP (sameI i)) = vs.countP (sameI i) by simp, hI.2]
      exact Post.same I (.int _ _) rfl) fun e => nomatch e
theorem meth_snd (hsys : Big base) (I : Inv prog w base os s H μ) {m : Me} {as : List V} {ys : List Value} (e : methV m a as H = some (v, H')) (ra : Rel s.heap μ a x) (rs : Rels s.heap μ as ys) :
    wpAny (model prog w) A (call (.builtin (meId m).2.2) (x :: ys)) (Post prog w base os s.heap μ H' v false) E s := by
  cases m
  · exact get_snd hsys I e ra rs
  · exact pop_snd hsys I e ra rs
  · exact app_snd I e ra rs
  · exact pop0_snd I e ra rs
  · exact pop1_snd I e ra rs
  · exact count_snd I e ra rs
end
end Mine
/-! Snd10 -/
namespace Mine
open PySem PySem.Calls PyProof.Rows PySem.SeqAt PySem.W

/-! what stands around -/
structure NT where
  consts : List (Str × V)
  gds : List Str
  fns : List Str
noncomputable def biTab : List (Str × Value) := [("len", .builtin "len"), ("abs", .builtin "abs"), ("sorted", .builtin "sorted"), ("str", .type "str"), ("tuple", .type "tuple"), ("list", .type "list"),
  ("dict", .type "dict"), ("range", .type "range"), ("enumerate", .type "enumerate")]
structure Gl (prog : Program) (w : World) (base : Heap) (nm : NT) (G : GTab) (mg mb : Str → Option Value) : Prop where
  g : base.Ns mainGlobals mg
  b : base.Ns builtinsNs mb
  sys : Big base
  const : ∀ (x : Str) (v : V), nm.consts.lookup x = some v → ∃ y, mg x = some y ∧ ∀ h μ, Rel h μ v y
  gd : ∀ (i : Nat) (x : Str), nm.gds[i]? = some x → ∃ a l kvs, G i = some l ∧ mg x = some (.ref a) ∧ base.DictOf (kn prog w) a kvs ∧ (a == sysModules) = false ∧ ∀ h μ, RelD h μ l kvs
  fn : ∀ (i : Nat) (x : Str), nm.fns[i]? = some x → ∃ a o fd, mg x = some (.ref a) ∧ base.get? a = some o ∧ o.data = .func fd
  bi : ∀ (x : Str) (v : Value), biTab.lookup x = some v → mg x = none ∧ mb x = some v
structure Room (n : Nat) (A : Around) : Prop where
  handled : A.handled = none
  depth : A.depth + n < recursionLimit
  units : A.units + 300 + 60 * n < cLine

noncomputable def CallOk (prog : Program) (w : World) (base : Heap) (os : OsState) (nm : NT) (mg : Str → Option Value) (n : Nat) (F : Calls) : Prop :=
  ∀ (A : Around), Room n A → ∀ (i : Nat) (x : Str) (a : Addr), nm.fns[i]? = some x → mg x = some (.ref a) → ∀ (s : Shared) (H : AH) (μ : List Addr) (vs : List V) (xs : List Value) (v : V) (H' : AH),
    Inv prog w base os s H μ → Rels s.heap μ vs xs → F i vs H = some (v, H') → ∀ (E : Value → Shared → Prop), wpAny (model prog w) A (call (.ref a) xs) (Post prog w base os s.heap μ H' v false) E s

abbrev Nms := List (Str × NameKind)
noncomputable def EvOk (prog : Program) (w : World) (base : Heap) (os : OsState) (G : GTab) (F : Calls) (n : Nat) (names : Nms) (pe : PE) (e : Expr) : Prop :=
  ∀ (A : Around) (env : Env) (s : Shared) (H : AH) (μ : List Addr) (ρ : Loc) (v : V) (H' : AH) (E : Value → Shared → Prop), Room n A → env.scope.names = names → Inv prog w base os s H μ → FrameOk base s.heap μ env ρ →
    ev G F pe ρ H = some (v, H') → wpAny (model prog w) A (eval e env) (Post prog w base os s.heap μ H' v (calm pe)) E s
noncomputable def TrOk (prog : Program) (w : World) (base : Heap) (os : OsState) (G : GTab) (F : Calls) (n : Nat) (names : Nms) (pe : PE) (e : Expr) : Prop :=
  ∀ (A : Around) (env : Env) (s : Shared) (H : AH) (μ : List Addr) (ρ : Loc) (v : V) (b : Bool) (H' : AH) (E : Value → Shared → Prop), Room n A → env.scope.names = names → Inv prog w base os s H μ → FrameOk base s.heap μ env ρ →
    ev G F pe ρ H = some (v, H') → boolV v = some b → wpAny (model prog w) A (isTrue e env (eval e env)) (fun r s' => r = b ∧ Post prog w base os s.heap μ H' v (calm pe) (.bool b) s') E s
noncomputable def EvsOk (prog : Program) (w : World) (base : Heap) (os : OsState) (G : GTab) (F : Calls) (n : Nat) (names : Nms) (pes : PEs) (es : List Expr) : Prop :=
  ∀ (A : Around) (env : Env) (pos : Pos) (s : Shared) (H : AH) (μ : List Addr) (ρ : Loc) (vs : List V) (H' : AH) (E : Value → Shared → Prop), Room n A → env.scope.names = names → Inv prog w base os s H μ → FrameOk base s.heap μ env ρ →
    evs G F pes ρ H = some (vs, H') → wpAny (model prog w) A (spliced (backTo pos (starEach es env)))
      (fun xs s' => vs.length = es.length ∧ ∃ μ', Inv prog w base os s' H' μ' ∧ Ext s.heap s'.heap μ μ' [] ∧ Rels s'.heap μ' vs xs ∧ (calms pes = true → Keep s.heap s'.heap)) E s

noncomputable def notStar : Expr → Bool
  | .Starred .. => false
  | _ => true
noncomputable def plainTest : Expr → Bool
  | .UnaryOp .. | .BoolOp .. | .IfExp .. | .Compare .. => false
  | _ => true
theorem starEach_cons {e : Expr} (h : notStar e = true) (rest : List Expr) (env : Env) : starEach (e :: rest) env = (false, eval e env) :: starEach rest env := by
  cases e <;> first | rfl | cases h
theorem isTrue_plain' {e : Expr} (h : plainTest e = true) (env : Env) (whole : Sem Value) : isTrue e env whole = (do let v ← whole; standAt e.pos; holding [v] (truthy v)) := by
  cases e <;> first | rfl | cases h

noncomputable def slotOk (names : Nms) (i : Nat) (x : Str) : Bool :=
  (obn names[i]? fun p => some (decide (x = p.1) && (decide (names.lookup x = some p.2) && ((decide (p.2 = .local) || (decide (p.2 = .cell) || decide (p.2 = .free))) && (!(x == ("__debug__" : Str)) && !(x == ("__classdict__" : Str))))))).getD false
noncomputable def globOk (names : Nms) (x : Str) : Bool := decide (names.lookup x = some .globalImplicit) && !(x == ("__debug__" : Str))

section
variable {prog : Program} {w : World} {base : Heap} {os : OsState} {nm : NT} {G : GTab} {F : Calls} {mg mb : Str → Option Value} {n : Nat} {names : Nms}
variable {A : Around} {E : Value → Shared → Prop} {s s' : Shared} {H H' : AH} {μ : List Addr} {ρ : Loc} {env : Env} {v : V} {x y z : Value} {Q : Value → Shared → Prop}

theorem and2 {a b : Bool} (h : (a && b) = true) : a = true ∧ b = true := by cases a <;> cases b <;> first | exact ⟨rfl, rfl⟩ | cases h
theorem or2 {a b : Bool} {P : Prop} (h : (a || b) = true) (k1 : a = true → P) (k2 : b = true → P) : P := by cases a with
  | true => exact k1 rfl
  | false => exact k2 h
theorem not2 {a : Bool} (h : (!a) = true) : a = false := by cases a with
  | false => rfl
  | true => cases h
theorem and2k {a b : Bool} {P : Prop} (h : (a && b) = true) (k : a = true → b = true → P) : P := k (and2 h).1 (and2 h).2
theorem dec2k {p : Prop} [Decidable p] {b : Bool} {P : Prop} (h : (decide p && b) = true) (k : p → b = true → P) : P := k (of_decide_eq_true (and2 h).1) (and2 h).2
theorem obd_elim {α : Type} {o : Option α} {f : α → Bool} {P : Prop} (h : (obn o fun a => some (f a)).getD false = true) (k : ∀ a, o = some a → f a = true → P) : P := by
  cases o with
  | none => cases h
  | some a => exact k a rfl h
theorem slot_snd (f : FrameOk base s.heap μ env ρ) {i : Nat} {x : Str} {pos : Pos} (hs : slotOk env.scope.names i x = true) (hρ : ρ[i]? = some (some v)) (h : ∀ y, Rel s.heap μ v y → Q y s) :
    wpAny (model prog w) A (eval (.Name x pos) env) Q E s :=
  obd_elim hs fun p hn hs => dec2k hs fun hx hs => dec2k hs fun h1 hs => and2k hs fun h2 hs => and2k hs fun h3 h4 => by
    obtain ⟨y, k⟩ := p
    have hx : x = y := hx
    subst hx
    refine wpAny_Name ?_ (not2 h3)
    refine or2 h2 (fun h2 => ?_) fun h2 => or2 h2 (fun h2 => ?_) fun h2 => ?_
    · cases of_decide_eq_true h2
      obtain ⟨m, hm, hv⟩ := f.ns
      obtain ⟨z, h5, h6⟩ := hv i x v hn hρ
      exact wpAny_loadName_local f.kind h1 hm h5 (h z h6)
    · cases of_decide_eq_true h2
      obtain ⟨c, ov, h5, h6, h7⟩ := f.cell i x _ hn (.inl rfl)
      obtain ⟨z, rfl, h8⟩ := h7 v hρ
      exact wpAny_loadName_cell f.kind h1 h5 h6 (h z h8)
    · cases of_decide_eq_true h2
      obtain ⟨c, ov, h5, h6, h7⟩ := f.cell i x _ hn (.inr rfl)
      obtain ⟨z, rfl, h8⟩ := h7 v hρ
      exact wpAny_loadName_free f.kind h1 h5 h6 (h z h8) (not2 h4)
theorem glob_snd (gl : Gl prog w base nm G mg mb) (I : Inv prog w base os s H μ) (f : FrameOk base s.heap μ env ρ) {x : Str} {pos : Pos} {y : Value} (hs : globOk env.scope.names x = true) (hx : mg x = some y) (h : Q y s) :
    wpAny (model prog w) A (eval (.Name x pos) env) Q E s :=
  dec2k hs fun h1 h2 => Name_function_global f.kind h1 (loadGlobal_global (by rw [f.glob]; exact gl.g.keeps I.old) hx h) (not2 h2)
theorem bi_snd (gl : Gl prog w base nm G mg mb) (I : Inv prog w base os s H μ) (f : FrameOk base s.heap μ env ρ) {x : Str} {pos : Pos} {y : Value} (hs : globOk env.scope.names x = true) (hx : biTab.lookup x = some y) (h : Q y s) :
    wpAny (model prog w) A (eval (.Name x pos) env) Q E s :=
  dec2k hs fun h1 h2 => Name_function_global f.kind h1 (loadGlobal_builtin (by rw [f.glob]; exact gl.g.keeps I.old) (gl.bi x y hx).1 (by rw [f.bi]; exact gl.b.keeps I.old) (gl.bi x y hx).2 h) (not2 h2)
theorem noF {h : Heap} : NoTup h [] := fun _ q => nomatch q

theorem Post.elim {h : Heap} {sm : Bool} {P : Prop} (p : Post prog w base os h μ H' v sm x s) (k : ∀ μ', Inv prog w base os s H' μ' → Ext h s.heap μ μ' [] → Rel s.heap μ' v x → (sm = true → Keep h s.heap) → P) : P := by
  obtain ⟨μ', a, b, c, d⟩ := p
  exact k μ' a b c d
theorem Post.at {h : Heap} {sm : Bool} {v0 : V} {H0 : AH} (e : some (v0, H0) = some (v, H')) (p : Post prog w base os h μ H0 v0 sm x s) : Post prog w base os h μ H' v sm x s := by
  cases e; exact p
theorem Post.andThen {h : Heap} {μ₁ : List Addr} {sm sm₁ sm₂ : Bool} (e : Ext h s.heap μ μ₁ []) (k : sm₁ = true → Keep h s.heap) (p : Post prog w base os s.heap μ₁ H v sm₂ x s') (q : sm = true → sm₁ = true ∧ sm₂ = true) :
    Post prog w base os h μ H v sm x s' :=
  p.elim fun μ' a b c d => ⟨μ', a, e.trans b, c, fun z b o e' => d (q z).2 _ _ (k (q z).1 b o e')⟩
/-- where something may have been written -/
theorem Post.behind {h : Heap} {μ₁ : List Addr} {sm₂ : Bool} (e : Ext h s.heap μ μ₁ []) (p : Post prog w base os s.heap μ₁ H v sm₂ x s') : Post prog w base os h μ H v false x s' :=
  p.andThen (sm₁ := false) e (fun q => nomatch q) fun q => nomatch q
theorem Rel.mv {h h' : Heap} {μ' : List Addr} (r : Rel h μ v x) (X : Ext h h' μ μ' []) (n1 : NoTup h μ) : Rel h' μ' v x := r.ext X n1 noF
theorem mono {α : Type} {M : Model} {c : Sem α} {P Q : α → Shared → Prop} (h : wpAny M A c P E s) (k : ∀ x s', P x s' → Q x s') : wpAny M A c Q E s := wpAny_mono h k fun _ _ e => e
theorem EvOk.run {pe : PE} {e : Expr} (h : EvOk prog w base os G F n names pe e) (hA : Room n A) (hn : env.scope.names = names) (I : Inv prog w base os s H μ) (f : FrameOk base s.heap μ env ρ) (he : ev G F pe ρ H = some (v, H'))
    (k : ∀ x s₁ μ₁, Inv prog w base os s₁ H' μ₁ → Ext s.heap s₁.heap μ μ₁ [] → Rel s₁.heap μ₁ v x → (calm pe = true → Keep s.heap s₁.heap) → FrameOk base s₁.heap μ₁ env ρ → Q x s₁) : wpAny (model prog w) A (eval e env) Q E s :=
  mono (h A env s H μ ρ v H' E hA hn I f he) fun x s₁ p => p.elim fun μ₁ a b c d => k x s₁ μ₁ a b c d (f.ext b I.noTup)
theorem EvOk.last {pe : PE} {e : Expr} {h : Heap} {μ₀ : List Addr} {sm₁ sm : Bool} (ok : EvOk prog w base os G F n names pe e) (hA : Room n A) (hn : env.scope.names = names) (I : Inv prog w base os s H μ) (f : FrameOk base s.heap μ env ρ) (he : ev G F pe ρ H = some (v, H'))
    (X : Ext h s.heap μ₀ μ []) (k : sm₁ = true → Keep h s.heap) (q : sm = true → sm₁ = true ∧ calm pe = true) : wpAny (model prog w) A (eval e env) (Post prog w base os h μ₀ H' v sm) E s :=
  mono (ok A env s H μ ρ v H' E hA hn I f he) fun _ _ p => p.andThen X k q
theorem TrOk.run {pe : PE} {e : Expr} {b : Bool} {Q : Bool → Shared → Prop} (h : TrOk prog w base os G F n names pe e) (hA : Room n A) (hn : env.scope.names = names) (I : Inv prog w base os s H μ) (f : FrameOk base s.heap μ env ρ) (he : ev G F pe ρ H = some (v, H')) (hb : boolV v = some b)
    (k : ∀ s₁ μ₁, Inv prog w base os s₁ H' μ₁ → Ext s.heap s₁.heap μ μ₁ [] → Rel s₁.heap μ₁ v (.bool b) → (calm pe = true → Keep s.heap s₁.heap) → FrameOk base s₁.heap μ₁ env ρ → Q b s₁) : wpAny (model prog w) A (isTrue e env (eval e env)) Q E s :=
  mono (h A env s H μ ρ v b H' E hA hn I f he hb) fun r s₁ p => p.1 ▸ p.2.elim fun μ₁ a b c d => k s₁ μ₁ a b c d (f.ext b I.noTup)
theorem EvsOk.run {pes : PEs} {es : List Expr} {vs : List V} {pos : Pos} {Q : List Value → Shared → Prop} (h : EvsOk prog w base os G F n names pes es) (hA : Room n A) (hn : env.scope.names = names) (I : Inv prog w base os s H μ) (f : FrameOk base s.heap μ env ρ) (he : evs G F pes ρ H = some (vs, H'))
    (k : ∀ xs s₁ μ₁, vs.length = es.length → Inv prog w base os s₁ H' μ₁ → Ext s.heap s₁.heap μ μ₁ [] → Rels s₁.heap μ₁ vs xs → (calms pes = true → Keep s.heap s₁.heap) → FrameOk base s₁.heap μ₁ env ρ → Q xs s₁) : wpAny (model prog w) A (spliced (backTo pos (starEach es env))) Q E s :=
  mono (h A env pos s H μ ρ vs H' E hA hn I f he) fun xs s₁ p => by
    obtain ⟨p0, μ₁, a, b, c, d⟩ := p
    exact k xs s₁ μ₁ p0 a b c d (f.ext b I.noTup)
theorem two {a b : PE} {ea eb : Expr} {γ : Type} {g : V → V → AH → Option γ} {r : γ} {Q : Value → Value → Shared → Prop} (ha : EvOk prog w base os G F n names a ea) (hb : EvOk prog w base os G F n names b eb) (hA : Room n A) (hn : env.scope.names = names) (I : Inv prog w base os s H μ) (f : FrameOk base s.heap μ env ρ)
    (he : bnd (ev G F a ρ H) (fun x H1 => bnd (ev G F b ρ H1) fun y H2 => g x y H2) = some r)
    (k : ∀ u u' H2 x y s₂ μ₂, g u u' H2 = some r → Inv prog w base os s₂ H2 μ₂ → Ext s.heap s₂.heap μ μ₂ [] → Rel s₂.heap μ₂ u x → Rel s₂.heap μ₂ u' y → ((calm a && calm b) = true → Keep s.heap s₂.heap) → FrameOk base s₂.heap μ₂ env ρ → Q x y s₂) :
    wpAny (model prog w) A (eval ea env) (fun x s₁ => wpAny (model prog w) A (eval eb env) (fun y s₂ => Q x y s₂) E s₁) E s :=
  bnd_elim he fun u H1 h1 he => bnd_elim he fun u' H2 h2 he => ha.run hA hn I f h1 fun x s₁ μ₁ I₁ X₁ r₁ k₁ f₁ => hb.run hA hn I₁ f₁ h2 fun y s₂ μ₂ I₂ X₂ r₂ k₂ f₂ =>
    k u u' H2 x y s₂ μ₂ he I₂ (X₁.trans X₂) (r₁.mv X₂ I₁.noTup) r₂ (fun h b o e => k₂ (and2 h).2 b o (k₁ (and2 h).1 b o e)) f₂

/-- a test by its value -/
theorem tr_of_ev {pe : PE} {e : Expr} (hp : plainTest e = true) (h : EvOk prog w base os G F n names pe e) : TrOk prog w base os G F n names pe e := by
  intro A env s H μ ρ v b H' E hA hn I f he hb
  rw [isTrue_plain' hp]
  refine wpAny_bind (h.run hA hn I f he fun x s₁ μ₁ I₁ X₁ r₁ k₁ _ => wpAny_bind (wpAny_standAt (wpAny_holding ?_)))
  have e := boolV_eq hb
  subst e
  have e := r₁.inj_bool
  subst e
  exact wpAny_truthy_bool ⟨rfl, μ₁, I₁, X₁, r₁, k₁⟩
theorem truthy_snd {v : V} {b : Bool} {h : Heap} {Q : Bool → Shared → Prop} (hb : boolV v = some b) (r : Rel h μ v x) (hQ : Q b s) : wpAny (model prog w) A (truthy x) Q E s := by
  have e := boolV_eq hb
  subst e
  rw [r.inj_bool]
  exact wpAny_truthy_bool hQ

/-! and, or, if else -/
theorem ev_and {a b : PE} {x y : Expr} {rest : List Expr} {pos : Pos} (ha : EvOk prog w base os G F n names a x) (hb : EvOk prog w base os G F n names b (.BoolOp .And (y :: rest) pos)) :
    EvOk prog w base os G F n names (.and a b) (.BoolOp .And (x :: y :: rest) pos) :=
  fun A env s H μ ρ v H' E hA hn I f he => bnd_elim (o := ev G F a ρ H) he fun u H1 h1 he => BoolOp_and (ha.run hA hn I f h1 fun z s₁ μ₁ I₁ X₁ r₁ k₁ f₁ =>
    brn_elim he (fun hb0 he => truthy_snd hb0 r₁ (hb.last hA hn I₁ f₁ he X₁ k₁ and2)) fun hb0 he => truthy_snd hb0 r₁ (Post.at he ⟨μ₁, I₁, X₁, r₁, fun h => k₁ (and2 h).1⟩))
theorem ev_or {a b : PE} {x y : Expr} {rest : List Expr} {pos : Pos} (ha : EvOk prog w base os G F n names a x) (hb : EvOk prog w base os G F n names b (.BoolOp .Or (y :: rest) pos)) :
    EvOk prog w base os G F n names (.or a b) (.BoolOp .Or (x :: y :: rest) pos) :=
  fun A env s H μ ρ v H' E hA hn I f he => bnd_elim (o := ev G F a ρ H) he fun u H1 h1 he => BoolOp_or (ha.run hA hn I f h1 fun z s₁ μ₁ I₁ X₁ r₁ k₁ f₁ =>
    brn_elim he (fun hb0 he => truthy_snd hb0 r₁ (Post.at he ⟨μ₁, I₁, X₁, r₁, fun h => k₁ (and2 h).1⟩)) fun hb0 he => truthy_snd hb0 r₁ (hb.last hA hn I₁ f₁ he X₁ k₁ and2))
theorem ev_one {pe : PE} {op : BoolOp} {e : Expr} {pos : Pos} (h : EvOk prog w base os G F n names pe e) : EvOk prog w base os G F n names pe (.BoolOp op [e] pos) :=
  fun A env s H μ ρ v H' E hA hn I f he => BoolOp_one (h A env s H μ ρ v H' E hA hn I f he)
/-- what is left of a row of parts -/
noncomputable def AllOk (prog : Program) (w : World) (base : Heap) (os : OsState) (G : GTab) (F : Calls) (n : Nat) (names : Nms) (op : BoolOp) (pe : PE) (es : List Expr) : Prop :=
  ∀ (A : Around) (env : Env) (s : Shared) (H : AH) (μ : List Addr) (ρ : Loc) (v : V) (b : Bool) (H' : AH) (E : Value → Shared → Prop), Room n A → env.scope.names = names → Inv prog w base os s H μ → FrameOk base s.heap μ env ρ →
    ev G F pe ρ H = some (v, H') → boolV v = some b → wpAny (model prog w) A (allTrue op es env) (fun r s' => r = b ∧ Post prog w base os s.heap μ H' v (calm pe) (.bool b) s') E s
theorem all_one {pe : PE} {op : BoolOp} {e : Expr} (h : TrOk prog w base os G F n names pe e) : AllOk prog w base os G F n names op pe [e] := by
  intro A env s H μ ρ v b H' E hA hn I f he hb
  have key : ∀ {Q : Bool → Shared → Prop}, (∀ s₁, Post prog w base os s.heap μ H' v (calm pe) (.bool b) s₁ → Q b s₁) → wpAny (model prog w) A (isTrue e env (eval e env)) Q E s :=
    fun k => h.run hA hn I f he hb fun s₁ μ₁ I₁ X₁ r₁ k₁ _ => k s₁ ⟨μ₁, I₁, X₁, r₁, k₁⟩
  cases op
  · refine wpAny_allTrue_And_cons (key fun s₁ p => ?_)
    cases b
    · exact ⟨rfl, p⟩
    · exact wpAny_allTrue_And_nil ⟨rfl, p⟩
  · refine wpAny_allTrue_Or_cons (key fun s₁ p => ?_)
    cases b
    · exact wpAny_allTrue_Or_nil ⟨rfl, p⟩
    · exact ⟨rfl, p⟩
theorem all_and {a b : PE} {x : Expr} {es : List Expr} (ha : TrOk prog w base os G F n names a x) (hb : AllOk prog w base os G F n names .And b es) : AllOk prog w base os G F n names .And (.and a b) (x :: es) :=
  fun A env s H μ ρ v b' H' E hA hn I f he hv => bnd_elim (o := ev G F a ρ H) he fun u H1 h1 he => brn_elim he
    (fun hb0 he => wpAny_allTrue_And_cons (ha.run hA hn I f h1 hb0 fun s₁ μ₁ I₁ X₁ r₁ k₁ f₁ => mono (hb A env s₁ H1 μ₁ ρ v b' H' E hA hn I₁ f₁ he hv) fun r s₂ q => ⟨q.1, Post.andThen X₁ k₁ q.2 and2⟩))
    (fun hb0 he => wpAny_allTrue_And_cons (ha.run hA hn I f h1 hb0 fun s₁ μ₁ I₁ X₁ r₁ k₁ f₁ => by
      cases he
      cases hb0.symm.trans hv
      exact ⟨rfl, μ₁, I₁, X₁, r₁, fun h => k₁ (and2 h).1⟩))
theorem all_or {a b : PE} {x : Expr} {es : List Expr} (ha : TrOk prog w base os G F n names a x) (hb : AllOk prog w base os G F n names .Or b es) : AllOk prog w base os G F n names .Or (.or a b) (x :: es) :=
  fun A env s H μ ρ v b' H' E hA hn I f he hv => bnd_elim (o := ev G F a ρ H) he fun u H1 h1 he => brn_elim he
    (fun hb0 he => wpAny_allTrue_Or_cons (ha.run hA hn I f h1 hb0 fun s₁ μ₁ I₁ X₁ r₁ k₁ f₁ => by
      cases he
      cases hb0.symm.trans hv
      exact ⟨rfl, μ₁, I₁, X₁, r₁, fun h => k₁ (and2 h).1⟩))
    (fun hb0 he => wpAny_allTrue_Or_cons (ha.run hA hn I f h1 hb0 fun s₁ μ₁ I₁ X₁ r₁ k₁ f₁ => mono (hb A env s₁ H1 μ₁ ρ v b' H' E hA hn I₁ f₁ he hv) fun r s₂ q => ⟨q.1, Post.andThen X₁ k₁ q.2 and2⟩))
theorem tr_bool {pe : PE} {op : BoolOp} {es : List Expr} {pos : Pos} (h : AllOk prog w base os G F n names op pe es) : TrOk prog w base os G F n names pe (.BoolOp op es pos) :=
  fun A env s H μ ρ v b H' E hA hn I f he hb => wpAny_isTrue_BoolOp (h A env s H μ ρ v b H' E hA hn I f he hb)
theorem ev_not {a : PE} {x : Expr} {pos : Pos} (ha : EvOk prog w base os G F n names a x) : EvOk prog w base os G F n names (.not a) (.UnaryOp .Not x pos) :=
  fun A env s H μ ρ v H' E hA hn I f he => bnd_elim (o := ev G F a ρ H) he fun u H1 h1 he => obn_elim he fun b hb he => wpAny_UnaryOp (ha.run hA hn I f h1 fun z s₁ μ₁ I₁ X₁ r₁ k₁ _ => not_value (truthy_snd hb r₁ (Post.at he ⟨μ₁, I₁, X₁, .bool _, k₁⟩)))
theorem tr_not {a : PE} {x : Expr} {pos : Pos} (ha : TrOk prog w base os G F n names a x) : TrOk prog w base os G F n names (.not a) (.UnaryOp .Not x pos) :=
  fun A env s H μ ρ v b H' E hA hn I f he hb => bnd_elim (o := ev G F a ρ H) he fun u H1 h1 he => obn_elim he fun b' hb' he => by
    cases he
    cases hb
    exact wpAny_isTrue_Not (ha.run hA hn I f h1 hb' fun s₁ μ₁ I₁ X₁ r₁ k₁ _ => ⟨rfl, μ₁, I₁, X₁, .bool _, k₁⟩)
theorem ite1 {a b c : Bool} (h : (a && b && c) = true) : a = true ∧ b = true := and2 (and2 h).1
theorem ite0 {a b c : Bool} (h : (a && b && c) = true) : a = true ∧ c = true := ⟨(ite1 h).1, (and2 h).2⟩
theorem ev_ite {c a b : PE} {t x y : Expr} {pos : Pos} (hc : TrOk prog w base os G F n names c t) (ha : EvOk prog w base os G F n names a x) (hb : EvOk prog w base os G F n names b y) :
    EvOk prog w base os G F n names (.ite c a b) (.IfExp t x y pos) :=
  fun A env s H μ ρ v H' E hA hn I f he => bnd_elim (o := ev G F c ρ H) he fun u H1 h1 he => brn_elim he
    (fun hb0 he => PySem.wpAny_IfExp (hc.run hA hn I f h1 hb0 fun s₁ μ₁ I₁ X₁ r₁ k₁ f₁ => ha.last hA hn I₁ f₁ he X₁ k₁ ite1))
    (fun hb0 he => PySem.wpAny_IfExp (hc.run hA hn I f h1 hb0 fun s₁ μ₁ I₁ X₁ r₁ k₁ f₁ => hb.last hA hn I₁ f₁ he X₁ k₁ ite0))
theorem isTrue_ite {t x y : Expr} {pos : Pos} {whole : Sem Value} {Q : Bool → Shared → Prop} (h : wpAny (model prog w) A (isTrue t env (eval t env)) (fun b s₁ => if b then wpAny (model prog w) A (isTrue x env (eval x env)) Q E s₁ else wpAny (model prog w) A (isTrue y env (eval y env)) Q E s₁) E s) :
    wpAny (model prog w) A (isTrue (.IfExp t x y pos) env whole) Q E s := by
  show wpAny _ _ (do if ← isTrue t env (eval t env) then isTrue x env (eval x env) else isTrue y env (eval y env)) _ _ _
  refine wpAny_bind (mono h fun b s₁ h₁ => ?_)
  cases b <;> exact h₁
theorem tr_ite {c a b : PE} {t x y : Expr} {pos : Pos} (hc : TrOk prog w base os G F n names c t) (ha : TrOk prog w base os G F n names a x) (hb : TrOk prog w base os G F n names b y) :
    TrOk prog w base os G F n names (.ite c a b) (.IfExp t x y pos) :=
  fun A env s H μ ρ v b' H' E hA hn I f he hv => bnd_elim (o := ev G F c ρ H) he fun u H1 h1 he => brn_elim he
    (fun hb0 he => isTrue_ite (hc.run hA hn I f h1 hb0 fun s₁ μ₁ I₁ X₁ r₁ k₁ f₁ => mono (ha A env s₁ H1 μ₁ ρ v b' H' E hA hn I₁ f₁ he hv) fun r s₂ q => ⟨q.1, Post.andThen X₁ k₁ q.2 ite1⟩))
    (fun hb0 he => isTrue_ite (hc.run hA hn I f h1 hb0 fun s₁ μ₁ I₁ X₁ r₁ k₁ f₁ => mono (hb A env s₁ H1 μ₁ ρ v b' H' E hA hn I₁ f₁ he hv) fun r s₂ q => ⟨q.1, Post.andThen X₁ k₁ q.2 ite0⟩))

/-! operators, comparisons, items -/
theorem ev_bin {op : Operator} {a b : PE} {x y : Expr} {pos : Pos} (ha : EvOk prog w base os G F n names a x) (hb : EvOk prog w base os G F n names b y) : EvOk prog w base os G F n names (.bin op a b) (.BinOp x op y pos) :=
  fun A env s H μ ρ v H' E hA hn I f he => wpAny_BinOp (two (g := binV op) ha hb hA hn I f he fun u u' H2 x y s₂ μ₂ he I₂ X r₁ r₂ k _ =>
    mono (bin_snd he I₂ r₁ r₂) fun z s₃ t => t.andThen X k fun h => ⟨(and2 h).2, rfl⟩)
/-- a comparison by either road -/
noncomputable def CmpOk (prog : Program) (w : World) (base : Heap) (os : OsState) (G : GTab) (F : Calls) (n : Nat) (names : Nms) (pe : PE) (op : CmpOp) (x y : Expr) : Prop :=
  ∀ (A : Around) (env : Env) (s : Shared) (H : AH) (μ : List Addr) (ρ : Loc) (v : V) (H' : AH) (E : Value → Shared → Prop) (Q : Value → Shared → Prop), Room n A → env.scope.names = names → Inv prog w base os s H μ → FrameOk base s.heap μ env ρ →
    ev G F pe ρ H = some (v, H') → (∀ r s', v = .bool r → Post prog w base os s.heap μ H' v (calm pe) (.bool r) s' → Q (.bool r) s') →
    wpAny (model prog w) A (eval x env) (fun a s₁ => wpAny (model prog w) A (eval y env) (fun b s₂ => wpAny (model prog w) A (compareOp op a b) Q E s₂) E s₁) E s
theorem ev_of_cmp {pe : PE} {op : CmpOp} {x y : Expr} {pos : Pos} (hm : behindInMarks op y = false) (h : CmpOk prog w base os G F n names pe op x y) : EvOk prog w base os G F n names pe (.Compare x [op] [y] pos) :=
  fun A env s H μ ρ v H' E hA hn I f he => wpAny_Compare1 (h A env s H μ ρ v H' E _ hA hn I f he fun _ _ _ p => p) hm
theorem tr_of_cmp {pe : PE} {op : CmpOp} {x y : Expr} {pos : Pos} (hm : behindInMarks op y = false) (h : CmpOk prog w base os G F n names pe op x y) : TrOk prog w base os G F n names pe (.Compare x [op] [y] pos) :=
  fun A env s H μ ρ v b H' E hA hn I f he hv => wpAny_isTrue_Compare1 (h A env s H μ ρ v H' E _ hA hn I f he fun r s' e p => by
    subst e
    cases hv
    exact wpAny_truthy_bool ⟨rfl, p⟩) hm
theorem cmp_ok (gl : Gl prog w base nm G mg mb) {op : CmpOp} {a b : PE} {x y : Expr} (ha : EvOk prog w base os G F n names a x) (hb : EvOk prog w base os G F n names b y) : CmpOk prog w base os G F n names (.cmp op a b) op x y :=
  fun A env s H μ ρ v H' E Q hA hn I f he hQ => two (γ := V × AH) (g := fun x y H2 => obn (cmpV op x y H2) fun r => some (V.bool r, H2)) ha hb hA hn I f he fun u u' H2 x y s₂ μ₂ he I₂ X r₁ r₂ k _ => obn_elim he fun r hr he => by
    cases he
    exact cmp_snd gl.sys I₂ hr r₁ r₂ (by have := hA.units; omega) fun s₃ h3 h4 h5 => hQ _ _ rfl (Post.andThen X k (Post.same (sm := true) I₂ (.bool _) h3 h4 h5) fun h => ⟨h, rfl⟩)
theorem sub_arm (value slice : Expr) (o i : Value) {Q : Value → Shared → Prop} {l : Sem Value} (hl : l = getItem o i) (h : wpAny (model prog w) A l Q E s) : wpAny (model prog w) A (subscripted slice false o i) Q E s := by
  subst hl
  have key : ∀ l, wpAny (model prog w) A (operate l (getItem o i)) Q E s := fun l => wpAny_operating h
  unfold subscripted
  split
  · exact key _
  · rename_i h; cases h
  · exact key _
theorem tail_snd {value slice : Expr} {o i : Value} {T id : String} {Q : Value → Shared → Prop} (hT : s.TypeIs o T)
    (hl : typeLookup (.type T) "__getitem__" = pure (some (.builtin id))) (h : wpAny (model prog w) A (getItem o i) Q E s) : wpAny (model prog w) A (subscriptTail value slice o i) Q E s := by
  unfold subscriptTail
  refine wpAny_bind ?_
  rw [getitemInPython_of_ne hT.not_modules]
  refine wpAny_bind (wpAny_specialOf hT hl ?_)
  have fin : wpAny (model prog w) A (subscripted slice false o i) (fun r s₃ => wpAny (model prog w) A (letTemporaryGo value o r >>= fun _ => pure r) Q E s₃) E s :=
    sub_arm value slice o i rfl (mono h fun r s₃ h₃ => wpAny_bind (wpAny_letTemporaryGo (wpAny_pure h₃)))
  first
    | exact wpAny_pure (wpAny_bind fin)
    | exact wpAny_bind (wpAny_pure (wpAny_bind fin))
    | exact wpAny_bind fin
theorem ev_sub {a i : PE} {x y : Expr} {pos : Pos} (ha : EvOk prog w base os G F n names a x) (hb : EvOk prog w base os G F n names i y) : EvOk prog w base os G F n names (.sub a i) (.Subscript x y pos) :=
  fun A env s H μ ρ v H' E hA hn I f he => Subscript_ (two (g := fun x y H2 => obn (subV x y H2) fun v => some (v, H2)) ha hb hA hn I f he fun u u' H2 x y s₂ μ₂ he I₂ X r₁ r₂ k _ => obn_elim he fun v' hv he => by
    cases he
    obtain ⟨T, id, hT, hl, hg⟩ := sub_snd (A := A) I₂ hv r₁ r₂
    exact tail_snd hT hl (mono (hg E) fun z s₃ t => Post.andThen X k (Post.same (sm := true) I₂ t.2.2.2 t.1 t.2.1 t.2.2.1) fun h => ⟨h, rfl⟩))
theorem ev_var {i : Nat} {x : Str} {pos : Pos} (hs : slotOk names i x = true) : EvOk prog w base os G F n names (.var i) (.Name x pos) :=
  fun A env s H μ ρ v H' E hA hn I f he => obn_elim (o := ρ[i]?) he fun o ho he => obn_elim he fun u hu he => by
    subst hn
    subst hu
    exact slot_snd f hs ho fun y r => Post.at he (Post.same I r rfl)
end
end Mine
/-! Pick -/
namespace Mine
open PySem PySem.Calls PyProof.Rows PySem.SeqAt PySem.W
theorem no {P : Prop} (h : false = true) : P := Bool.noConfusion h
section
variable {α β γ δ ε : Type}
noncomputable def no2 (_ : α) (_ : β) : Bool := false
noncomputable def no3 (_ : α) (_ : β) (_ : γ) : Bool := false
noncomputable def no4 (_ : α) (_ : β) (_ : γ) (_ : δ) : Bool := false
noncomputable def no5 (_ : α) (_ : β) (_ : γ) (_ : δ) (_ : ε) : Bool := false
noncomputable def onC (l : List α) (f : α → List α → Bool) : Bool := caC l false f
theorem onC_elim {P : List α → Prop} {l : List α} {f : α → List α → Bool} (h : onC l f = true) (k : ∀ a r, f a r = true → P (a :: r)) : P l := by
  cases l with
  | nil => exact no h
  | cons a r => exact k a r h
noncomputable def on1 (l : List α) (f : α → Bool) : Bool := onC l fun a r => r.isEmpty && f a
theorem on1_elim {P : List α → Prop} {l : List α} {f : α → Bool} (h : on1 l f = true) (k : ∀ a, f a = true → P [a]) : P l :=
  onC_elim h fun a r h => and2k h fun h1 h2 => by
    cases r with
    | nil => exact k a h2
    | cons _ _ => exact no h1
theorem emp {P : List α → Prop} {l : List α} (h : l.isEmpty = true) (k : P []) : P l := by
  cases l with
  | nil => exact k
  | cons _ _ => exact no h
end
noncomputable def pick (e : Expr) (kBo : BoolOp → List Expr → Pos → Bool) (kBin : Expr → Operator → Expr → Pos → Bool) (kIf : Expr → Expr → Expr → Pos → Bool) (kDic : List (Option Expr) → List Expr → Pos → Bool) (kLc : Expr → List Comprehension → Scope → Pos → Bool) (kDc : Expr → Expr → List Comprehension → Scope → Pos → Bool) (kCmp : Expr → List CmpOp → List Expr → Pos → Bool) (kCal : Expr → List Expr → List Keyword → Pos → Bool) (kUn : UnaryOp → Expr → Pos → Bool) (kC : Const → Nat → Pos → Bool) (kAtt : Expr → Str → Pos → Bool) (kSub : Expr → Expr → Pos → Bool) (kN : Str → Pos → Bool) (kLst : List Expr → Pos → Bool) (kTup : List Expr → Nat → Pos → Bool) (kSli : Option Expr → Option Expr → Option Expr → Pos → Bool) : Bool := match e with
  | .BoolOp a b c => kBo a b c
  | .BinOp a b c d => kBin a b c d
  | .IfExp a b c d => kIf a b c d
  | .Dict a b c => kDic a b c
  | .ListComp a b c d => kLc a b c d
  | .DictComp a b c d e => kDc a b c d e
  | .Compare a b c d => kCmp a b c d
  | .Call a b c d => kCal a b c d
  | .UnaryOp a b c => kUn a b c
  | .Constant a b c => kC a b c
  | .Attribute a b c => kAtt a b c
  | .Subscript a b c => kSub a b c
  | .Name a b => kN a b
  | .List a b => kLst a b
  | .Tuple a b c => kTup a b c
  | .Slice a b c d => kSli a b c d
  | _ => false
theorem pick_elim {P : Expr → Prop} {e : Expr} {kBo : BoolOp → List Expr → Pos → Bool} {kBin : Expr → Operator → Expr → Pos → Bool} {kIf : Expr → Expr → Expr → Pos → Bool} {kDic : List (Option Expr) → List Expr → Pos → Bool} {kLc : Expr → List Comprehension → Scope → Pos → Bool} {kDc : Expr → Expr → List Comprehension → Scope → Pos → Bool} {kCmp : Expr → List CmpOp → List Expr → Pos → Bool} {kCal : Expr → List Expr → List Keyword → Pos → Bool} {kUn : UnaryOp → Expr → Pos → Bool} {kC : Const → Nat → Pos → Bool} {kAtt : Expr → Str → Pos → Bool} {kSub : Expr → Expr → Pos → Bool} {kN : Str → Pos → Bool} {kLst : List Expr → Pos → Bool} {kTup : List Expr → Nat → Pos → Bool} {kSli : Option Expr → Option Expr → Option Expr → Pos → Bool} (h : pick e kBo kBin kIf kDic kLc kDc kCmp kCal kUn kC kAtt kSub kN kLst kTup kSli = true) (hBo : ∀ a b c, kBo a b c = true → P (.BoolOp a b c)) (hBin : ∀ a b c d, kBin a b c d = true → P (.BinOp a b c d)) (hIf : ∀ a b c d, kIf a b c d = true → P (.IfExp a b c d)) (hDic : ∀ a b c, kDic a b c = true → P (.Dict a b c)) (hLc : ∀ a b c d, kLc a b c d = true → P (.ListComp a b c d)) (hDc : ∀ a b c d e, kDc a b c d e = true → P (.DictComp a b c d e)) (hCmp : ∀ a b c d, kCmp a b c d = true → P (.Compare a b c d)) (hCal : ∀ a b c d, kCal a b c d = true → P (.Call a b c d)) (hUn : ∀ a b c, kUn a b c = true → P (.UnaryOp a b c)) (hC : ∀ a b c, kC a b c = true → P (.Constant a b c)) (hAtt : ∀ a b c, kAtt a b c = true → P (.Attribute a b c)) (hSub : ∀ a b c, kSub a b c = true → P (.Subscript a b c)) (hN : ∀ a b, kN a b = true → P (.Name a b)) (hLst : ∀ a b, kLst a b = true → P (.List a b)) (hTup : ∀ a b c, kTup a b c = true → P (.Tuple a b c)) (hSli : ∀ a b c d, kSli a b c d = true → P (.Slice a b c d)) : P e := by
  cases e with
  | BoolOp a b c => exact hBo a b c h
  | BinOp a b c d => exact hBin a b c d h
  | IfExp a b c d => exact hIf a b c d h
  | Dict a b c => exact hDic a b c h
  | ListComp a b c d => exact hLc a b c d h
  | DictComp a b c d e => exact hDc a b c d e h
  | Compare a b c d => exact hCmp a b c d h
  | Call a b c d => exact hCal a b c d h
  | UnaryOp a b c => exact hUn a b c h
  | Constant a b c => exact hC a b c h
  | Attribute a b c => exact hAtt a b c h
  | Subscript a b c => exact hSub a b c h
  | Name a b => exact hN a b h
  | List a b => exact hLst a b h
  | Tuple a b c => exact hTup a b c h
  | Slice a b c d => exact hSli a b c d h
  | _ => exact no h
noncomputable def isBo (e : Expr) (f : BoolOp → List Expr → Pos → Bool) : Bool := pick e f no4 no4 no3 no4 no5 no4 no4 no3 no3 no3 no3 no2 no2 no3 no4
theorem isBo_elim {P : Expr → Prop} {e : Expr} {f : BoolOp → List Expr → Pos → Bool} (h : isBo e f = true) (k : ∀ a b c, f a b c = true → P (.BoolOp a b c)) : P e :=
  pick_elim h k (fun _ _ _ _ h => no h) (fun _ _ _ _ h => no h) (fun _ _ _ h => no h) (fun _ _ _ _ h => no h) (fun _ _ _ _ _ h => no h) (fun _ _ _ _ h => no h) (fun _ _ _ _ h => no h) (fun _ _ _ h => no h) (fun _ _ _ h => no h) (fun _ _ _ h => no h) (fun _ _ _ h => no h) (fun _ _ h => no h) (fun _ _ h => no h) (fun _ _ _ h => no h) (fun _ _ _ _ h => no h)
noncomputable def isBin (e : Expr) (f : Expr → Operator → Expr → Pos → Bool) : Bool := pick e no3 f no4 no3 no4 no5 no4 no4 no3 no3 no3 no3 no2 no2 no3 no4
theorem isBin_elim {P : Expr → Prop} {e : Expr} {f : Expr → Operator → Expr → Pos → Bool} (h : isBin e f = true) (k : ∀ a b c d, f a b c d = true → P (.BinOp a b c d)) : P e :=
  pick_elim h (fun _ _ _ h => no h) k (fun _ _ _ _ h => no h) (fun _ _ _ h => no h) (fun _ _ _ _ h => no h) (fun _ _ _ _ _ h => no h) (fun _ _ _ _ h => no h) (fun _ _ _ _ h => no h) (fun _ _ _ h => no h) (fun _ _ _ h => no h) (fun _ _ _ h => no h) (fun _ _ _ h => no h) (fun _ _ h => no h) (fun _ _ h => no h) (fun _ _ _ h => no h) (fun _ _ _ _ h => no h)
noncomputable def isIf (e : Expr) (f : Expr → Expr → Expr → Pos → Bool) : Bool := pick e no3 no4 f no3 no4 no5 no4 no4 no3 no3 no3 no3 no2 no2 no3 no4
theorem isIf_elim {P : Expr → Prop} {e : Expr} {f : Expr → Expr → Expr → Pos → Bool} (h : isIf e f = true) (k : ∀ a b c d, f a b c d = true → P (.IfExp a b c d)) : P e :=
  pick_elim h (fun _ _ _ h => no h) (fun _ _ _ _ h => no h) k (fun _ _ _ h => no h) (fun _ _ _ _ h => no h) (fun _ _ _ _ _ h => no h) (fun _ _ _ _ h => no h) (fun _ _ _ _ h => no h) (fun _ _ _ h => no h) (fun _ _ _ h => no h) (fun _ _ _ h => no h) (fun _ _ _ h => no h) (fun _ _ h => no h) (fun _ _ h => no h) (fun _ _ _ h => no h) (fun _ _ _ _ h => no h)
noncomputable def isDic (e : Expr) (f : List (Option Expr) → List Expr → Pos → Bool) : Bool := pick e no3 no4 no4 f no4 no5 no4 no4 no3 no3 no3 no3 no2 no2 no3 no4
theorem isDic_elim {P : Expr → Prop} {e : Expr} {f : List (Option Expr) → List Expr → Pos → Bool} (h : isDic e f = true) (k : ∀ a b c, f a b c = true → P (.Dict a b c)) : P e :=
  pick_elim h (fun _ _ _ h => no h) (fun _ _ _ _ h => no h) (fun _ _ _ _ h => no h) k (fun _ _ _ _ h => no h) (fun _ _ _ _ _ h => no h) (fun _ _ _ _ h => no h) (fun _ _ _ _ h => no h) (fun _ _ _ h => no h) (fun _ _ _ h => no h) (fun _ _ _ h => no h) (fun _ _ _ h => no h) (fun _ _ h => no h) (fun _ _ h => no h) (fun _ _ _ h => no h) (fun _ _ _ _ h => no h)
noncomputable def isLc (e : Expr) (f : Expr → List Comprehension → Scope → Pos → Bool) : Bool := pick e no3 no4 no4 no3 f no5 no4 no4 no3 no3 no3 no3 no2 no2 no3 no4
theorem isLc_elim {P : Expr → Prop} {e : Expr} {f : Expr → List Comprehension → Scope → Pos → Bool} (h : isLc e f = true) (k : ∀ a b c d, f a b c d = true → P (.ListComp a b c d)) : P e :=
  pick_elim h (fun _ _ _ h => no h) (fun _ _ _ _ h => no h) (fun _ _ _ _ h => no h) (fun _ _ _ h => no h) k (fun _ _ _ _ _ h => no h) (fun _ _ _ _ h => no h) (fun _ _ _ _ h => no h) (fun _ _ _ h => no h) (fun _ _ _ h => no h) (fun _ _ _ h => no h) (fun _ _ _ h => no h) (fun _ _ h => no h) (fun _ _ h => no h) (fun _ _ _ h => no h) (fun _ _ _ _ h => no h)
noncomputable def isDc (e : Expr) (f : Expr → Expr → List Comprehension → Scope → Pos → Bool) : Bool := pick e no3 no4 no4 no3 no4 f no4 no4 no3 no3 no3 no3 no2 no2 no3 no4
theorem isDc_elim {P : Expr → Prop} {e : Expr} {f : Expr → Expr → List Comprehension → Scope → Pos → Bool} (h : isDc e f = true) (k : ∀ a b c d e, f a b c d e = true → P (.DictComp a b c d e)) : P e :=
  pick_elim h (fun _ _ _ h => no h) (fun _ _ _ _ h => no h) (fun _ _ _ _ h => no h) (fun _ _ _ h => no h) (fun _ _ _ _ h => no h) k (fun _ _ _ _ h => no h) (fun _ _ _ _ h => no h) (fun _ _ _ h => no h) (fun _ _ _ h => no h) (fun _ _ _ h => no h) (fun _ _ _ h => no h) (fun _ _ h => no h) (fun _ _ h => no h) (fun _ _ _ h => no h) (fun _ _ _ _ h => no h)
noncomputable def isCmp (e : Expr) (f : Expr → List CmpOp → List Expr → Pos → Bool) : Bool := pick e no3 no4 no4 no3 no4 no5 f no4 no3 no3 no3 no3 no2 no2 no3 no4
theorem isCmp_elim {P : Expr → Prop} {e : Expr} {f : Expr → List CmpOp → List Expr → Pos → Bool} (h : isCmp e f = true) (k : ∀ a b c d, f a b c d = true → P (.Compare a b c d)) : P e :=
  pick_elim h (fun _ _ _ h => no h) (fun _ _ _ _ h => no h) (fun _ _ _ _ h => no h) (fun _ _ _ h => no h) (fun _ _ _ _ h => no h) (fun _ _ _ _ _ h => no h) k (fun _ _ _ _ h => no h) (fun _ _ _ h => no h) (fun _ _ _ h => no h) (fun _ _ _ h => no h) (fun _ _ _ h => no h) (fun _ _ h => no h) (fun _ _ h => no h) (fun _ _ _ h => no h) (fun _ _ _ _ h => no h)
noncomputable def isCal (e : Expr) (f : Expr → List Expr → List Keyword → Pos → Bool) : Bool := pick e no3 no4 no4 no3 no4 no5 no4 f no3 no3 no3 no3 no2 no2 no3 no4
theorem isCal_elim {P : Expr → Prop} {e : Expr} {f : Expr → List Expr → List Keyword → Pos → Bool} (h : isCal e f = true) (k : ∀ a b c d, f a b c d = true → P (.Call a b c d)) : P e :=
  pick_elim h (fun _ _ _ h => no h) (fun _ _ _ _ h => no h) (fun _ _ _ _ h => no h) (fun _ _ _ h => no h) (fun _ _ _ _ h => no h) (fun _ _ _ _ _ h => no h) (fun _ _ _ _ h => no h) k (fun _ _ _ h => no h) (fun _ _ _ h => no h) (fun _ _ _ h => no h) (fun _ _ _ h => no h) (fun _ _ h => no h) (fun _ _ h => no h) (fun _ _ _ h => no h) (fun _ _ _ _ h => no h)
noncomputable def isUn (e : Expr) (f : UnaryOp → Expr → Pos → Bool) : Bool := pick e no3 no4 no4 no3 no4 no5 no4 no4 f no3 no3 no3 no2 no2 no3 no4
theorem isUn_elim {P : Expr → Prop} {e : Expr} {f : UnaryOp → Expr → Pos → Bool} (h : isUn e f = true) (k : ∀ a b c, f a b c = true → P (.UnaryOp a b c)) : P e :=
  pick_elim h (fun _ _ _ h => no h) (fun _ _ _ _ h => no h) (fun _ _ _ _ h => no h) (fun _ _ _ h => no h) (fun _ _ _ _ h => no h) (fun _ _ _ _ _ h => no h) (fun _ _ _ _ h => no h) (fun _ _ _ _ h => no h) k (fun _ _ _ h => no h) (fun _ _ _ h => no h) (fun _ _ _ h => no h) (fun _ _ h => no h) (fun _ _ h => no h) (fun _ _ _ h => no h) (fun _ _ _ _ h => no h)
noncomputable def isC (e : Expr) (f : Const → Nat → Pos → Bool) : Bool := pick e no3 no4 no4 no3 no4 no5 no4 no4 no3 f no3 no3 no2 no2 no3 no4
theorem isC_elim {P : Expr → Prop} {e : Expr} {f : Const → Nat → Pos → Bool} (h : isC e f = true) (k : ∀ a b c, f a b c = true → P (.Constant a b c)) : P e :=
  pick_elim h (fun _ _ _ h => no h) (fun _ _ _ _ h => no h) (fun _ _ _ _ h => no h) (fun _ _ _ h => no h) (fun _ _ _ _ h => no h) (fun _ _ _ _ _ h => no h) (fun _ _ _ _ h => no h) (fun _ _ _ _ h => no h) (fun _ _ _ h => no h) k (fun _ _ _ h => no h) (fun _ _ _ h => no h) (fun _ _ h => no h) (fun _ _ h => no h) (fun _ _ _ h => no h) (fun _ _ _ _ h => no h)
noncomputable def isAtt (e : Expr) (f : Expr → Str → Pos → Bool) : Bool := pick e no3 no4 no4 no3 no4 no5 no4 no4 no3 no3 f no3 no2 no2 no3 no4
theorem isAtt_elim {P : Expr → Prop} {e : Expr} {f : Expr → Str → Pos → Bool} (h : isAtt e f = true) (k : ∀ a b c, f a b c = true → P (.Attribute a b c)) : P e :=
  pick_elim h (fun _ _ _ h => no h) (fun _ _ _ _ h => no h) (fun _ _ _ _ h => no h) (fun _ _ _ h => no h) (fun _ _ _ _ h => no h) (fun _ _ _ _ _ h => no h) (fun _ _ _ _ h => no h) (fun _ _ _ _ h => no h) (fun _ _ _ h => no h) (fun _ _ _ h => no h) k (fun _ _ _ h => no h) (fun _ _ h => no h) (fun _ _ h => no h) (fun _ _ _ h => no h) (fun _ _ _ _ h => no h)
noncomputable def isSub (e : Expr) (f : Expr → Expr → Pos → Bool) : Bool := pick e no3 no4 no4 no3 no4 no5 no4 no4 no3 no3 no3 f no2 no2 no3 no4
theorem isSub_elim {P : Expr → Prop} {e : Expr} {f : Expr → Expr → Pos → Bool} (h : isSub e f = true) (k : ∀ a b c, f a b c = true → P (.Subscript a b c)) : P e :=
  pick_elim h (fun _ _ _ h => no h) (fun _ _ _ _ h => no h) (fun _ _ _ _ h => no h) (fun _ _ _ h => no h) (fun _ _ _ _ h => no h) (fun _ _ _ _ _ h => no h) (fun _ _ _ _ h => no h) (fun _ _ _ _ h => no h) (fun _ _ _ h => no h) (fun _ _ _ h => no h) (fun _ _ _ h => no h) k (fun _ _ h => no h) (fun _ _ h => no h) (fun _ _ _ h => no h) (fun _ _ _ _ h => no h)
noncomputable def isN (e : Expr) (f : Str → Pos → Bool) : Bool := pick e no3 no4 no4 no3 no4 no5 no4 no4 no3 no3 no3 no3 f no2 no3 no4
theorem isN_elim {P : Expr → Prop} {e : Expr} {f : Str → Pos → Bool} (h : isN e f = true) (k : ∀ a b, f a b = true → P (.Name a b)) : P e :=
  pick_elim h (fun _ _ _ h => no h) (fun _ _ _ _ h => no h) (fun _ _ _ _ h => no h) (fun _ _ _ h => no h) (fun _ _ _ _ h => no h) (fun _ _ _ _ _ h => no h) (fun _ _ _ _ h => no h) (fun _ _ _ _ h => no h) (fun _ _ _ h => no h) (fun _ _ _ h => no h) (fun _ _ _ h => no h) (fun _ _ _ h => no h) k (fun _ _ h => no h) (fun _ _ _ h => no h) (fun _ _ _ _ h => no h)
noncomputable def isLst (e : Expr) (f : List Expr → Pos → Bool) : Bool := pick e no3 no4 no4 no3 no4 no5 no4 no4 no3 no3 no3 no3 no2 f no3 no4
theorem isLst_elim {P : Expr → Prop} {e : Expr} {f : List Expr → Pos → Bool} (h : isLst e f = true) (k : ∀ a b, f a b = true → P (.List a b)) : P e :=
  pick_elim h (fun _ _ _ h => no h) (fun _ _ _ _ h => no h) (fun _ _ _ _ h => no h) (fun _ _ _ h => no h) (fun _ _ _ _ h => no h) (fun _ _ _ _ _ h => no h) (fun _ _ _ _ h => no h) (fun _ _ _ _ h => no h) (fun _ _ _ h => no h) (fun _ _ _ h => no h) (fun _ _ _ h => no h) (fun _ _ _ h => no h) (fun _ _ h => no h) k (fun _ _ _ h => no h) (fun _ _ _ _ h => no h)
noncomputable def isTup (e : Expr) (f : List Expr → Nat → Pos → Bool) : Bool := pick e no3 no4 no4 no3 no4 no5 no4 no4 no3 no3 no3 no3 no2 no2 f no4
theorem isTup_elim {P : Expr → Prop} {e : Expr} {f : List Expr → Nat → Pos → Bool} (h : isTup e f = true) (k : ∀ a b c, f a b c = true → P (.Tuple a b c)) : P e :=
  pick_elim h (fun _ _ _ h => no h) (fun _ _ _ _ h => no h) (fun _ _ _ _ h => no h) (fun _ _ _ h => no h) (fun _ _ _ _ h => no h) (fun _ _ _ _ _ h => no h) (fun _ _ _ _ h => no h) (fun _ _ _ _ h => no h) (fun _ _ _ h => no h) (fun _ _ _ h => no h) (fun _ _ _ h => no h) (fun _ _ _ h => no h) (fun _ _ h => no h) (fun _ _ h => no h) k (fun _ _ _ _ h => no h)
noncomputable def isSli (e : Expr) (f : Option Expr → Option Expr → Option Expr → Pos → Bool) : Bool := pick e no3 no4 no4 no3 no4 no5 no4 no4 no3 no3 no3 no3 no2 no2 no3 f
theorem isSli_elim {P : Expr → Prop} {e : Expr} {f : Option Expr → Option Expr → Option Expr → Pos → Bool} (h : isSli e f = true) (k : ∀ a b c d, f a b c d = true → P (.Slice a b c d)) : P e :=
  pick_elim h (fun _ _ _ h => no h) (fun _ _ _ _ h => no h) (fun _ _ _ _ h => no h) (fun _ _ _ h => no h) (fun _ _ _ _ h => no h) (fun _ _ _ _ _ h => no h) (fun _ _ _ _ h => no h) (fun _ _ _ _ h => no h) (fun _ _ _ h => no h) (fun _ _ _ h => no h) (fun _ _ _ h => no h) (fun _ _ _ h => no h) (fun _ _ h => no h) (fun _ _ h => no h) (fun _ _ _ h => no h) k
noncomputable def pickS (e : Stmt) (kRet : Option Expr → Pos → Bool) (kAsg : List Expr → Expr → Pos → Bool) (kFor : Expr → Expr → List Stmt → List Stmt → Pos → Bool) (kIte : Expr → List Stmt → List Stmt → Pos → Bool) (kEx : Expr → Pos → Bool) (kWh : Expr → List Stmt → List Stmt → Pos → Bool) : Bool := match e with
  | .Return a b => kRet a b
  | .Assign a b c => kAsg a b c
  | .For a b c d e => kFor a b c d e
  | .If a b c d => kIte a b c d
  | .Expr a b => kEx a b
  | .While a b c d => kWh a b c d
  | _ => false
theorem pickS_elim {P : Stmt → Prop} {e : Stmt} {kRet : Option Expr → Pos → Bool} {kAsg : List Expr → Expr → Pos → Bool} {kFor : Expr → Expr → List Stmt → List Stmt → Pos → Bool} {kIte : Expr → List Stmt → List Stmt → Pos → Bool} {kEx : Expr → Pos → Bool} {kWh : Expr → List Stmt → List Stmt → Pos → Bool} (h : pickS e kRet kAsg kFor kIte kEx kWh = true) (hRet : ∀ a b, kRet a b = true → P (.Return a b)) (hAsg : ∀ a b c, kAsg a b c = true → P (.Assign a b c)) (hFor : ∀ a b c d e, kFor a b c d e = true → P (.For a b c d e)) (hIte : ∀ a b c d, kIte a b c d = true → P (.If a b c d)) (hEx : ∀ a b, kEx a b = true → P (.Expr a b)) (hWh : ∀ a b c d, kWh a b c d = true → P (.While a b c d)) : P e := by
  cases e with
  | Return a b => exact hRet a b h
  | Assign a b c => exact hAsg a b c h
  | For a b c d e => exact hFor a b c d e h
  | If a b c d => exact hIte a b c d h
  | Expr a b => exact hEx a b h
  | While a b c d => exact hWh a b c d h
  | _ => exact no h
noncomputable def isRet (e : Stmt) (f : Option Expr → Pos → Bool) : Bool := pickS e f no3 no5 no4 no2 no4
theorem isRet_elim {P : Stmt → Prop} {e : Stmt} {f : Option Expr → Pos → Bool} (h : isRet e f = true) (k : ∀ a b, f a b = true → P (.Return a b)) : P e :=
  pickS_elim h k (fun _ _ _ h => no h) (fun _ _ _ _ _ h => no h) (fun _ _ _ _ h => no h) (fun _ _ h => no h) (fun _ _ _ _ h => no h)
noncomputable def isAsg (e : Stmt) (f : List Expr → Expr → Pos → Bool) : Bool := pickS e no2 f no5 no4 no2 no4
theorem isAsg_elim {P : Stmt → Prop} {e : Stmt} {f : List Expr → Expr → Pos → Bool} (h : isAsg e f = true) (k : ∀ a b c, f a b c = true → P (.Assign a b c)) : P e :=
  pickS_elim h (fun _ _ h => no h) k (fun _ _ _ _ _ h => no h) (fun _ _ _ _ h => no h) (fun _ _ h => no h) (fun _ _ _ _ h => no h)
noncomputable def isFor (e : Stmt) (f : Expr → Expr → List Stmt → List Stmt → Pos → Bool) : Bool := pickS e no2 no3 f no4 no2 no4
theorem isFor_elim {P : Stmt → Prop} {e : Stmt} {f : Expr → Expr → List Stmt → List Stmt → Pos → Bool} (h : isFor e f = true) (k : ∀ a b c d e, f a b c d e = true → P (.For a b c d e)) : P e :=
  pickS_elim h (fun _ _ h => no h) (fun _ _ _ h => no h) k (fun _ _ _ _ h => no h) (fun _ _ h => no h) (fun _ _ _ _ h => no h)
noncomputable def isIte (e : Stmt) (f : Expr → List Stmt → List Stmt → Pos → Bool) : Bool := pickS e no2 no3 no5 f no2 no4
theorem isIte_elim {P : Stmt → Prop} {e : Stmt} {f : Expr → List Stmt → List Stmt → Pos → Bool} (h : isIte e f = true) (k : ∀ a b c d, f a b c d = true → P (.If a b c d)) : P e :=
  pickS_elim h (fun _ _ h => no h) (fun _ _ _ h => no h) (fun _ _ _ _ _ h => no h) k (fun _ _ h => no h) (fun _ _ _ _ h => no h)
noncomputable def isEx (e : Stmt) (f : Expr → Pos → Bool) : Bool := pickS e no2 no3 no5 no4 f no4
theorem isEx_elim {P : Stmt → Prop} {e : Stmt} {f : Expr → Pos → Bool} (h : isEx e f = true) (k : ∀ a b, f a b = true → P (.Expr a b)) : P e :=
  pickS_elim h (fun _ _ h => no h) (fun _ _ _ h => no h) (fun _ _ _ _ _ h => no h) (fun _ _ _ _ h => no h) k (fun _ _ _ _ h => no h)
noncomputable def isWh (e : Stmt) (f : Expr → List Stmt → List Stmt → Pos → Bool) : Bool := pickS e no2 no3 no5 no4 no2 f
theorem isWh_elim {P : Stmt → Prop} {e : Stmt} {f : Expr → List Stmt → List Stmt → Pos → Bool} (h : isWh e f = true) (k : ∀ a b c d, f a b c d = true → P (.While a b c d)) : P e :=
  pickS_elim h (fun _ _ h => no h) (fun _ _ _ h => no h) (fun _ _ _ _ _ h => no h) (fun _ _ _ _ h => no h) (fun _ _ h => no h) k
end Mine
/-! Snd11 -/
namespace Mine
open PySem PySem.Calls PyProof.Rows PySem.SeqAt PySem.W

/-! values carried along, places aside -/
section
variable {h h' : Heap} {μ ν F : List Addr}
theorem Rel.ext0 (k : ∀ a o, h.get? a = some o → a ∉ μ → a ∉ F → h'.get? a = some o) (n1 : NoTup h μ) (n2 : NoTup h F) {v : V} {y : Value} (r : Rel h μ v y) : Rel h' (μ ++ ν) v y :=
  r.map (fun a vs n e => k a _ e (fun q => n1 a q _ _ e) fun q => n2 a q _ _ e) fun _ _ e => (List.getElem?_append_left (lt_of_some e)).trans e
theorem Rels.ext0 (k : ∀ a o, h.get? a = some o → a ∉ μ → a ∉ F → h'.get? a = some o) (n1 : NoTup h μ) (n2 : NoTup h F) {l : List V} {ys : List Value} (r : Rels h μ l ys) : Rels h' (μ ++ ν) l ys := r.all fun a => a.ext0 k n1 n2
theorem RelD.ext0 (k : ∀ a o, h.get? a = some o → a ∉ μ → a ∉ F → h'.get? a = some o) (n1 : NoTup h μ) (n2 : NoTup h F) {l : List (Key × V)} {ys : List (Key × Value)} (r : RelD h μ l ys) : RelD h' (μ ++ ν) l ys := r.all fun a => a.ext0 k n1 n2
end

section
variable {prog : Program} {w : World} {base : Heap} {os : OsState} {nm : NT} {G : GTab} {F : Calls} {mg mb : Str → Option Value} {n : Nat} {names : Nms}
variable {A : Around} {E : Value → Shared → Prop} {s s' : Shared} {H H' : AH} {μ : List Addr} {ρ : Loc} {env : Env} {v : V} {x y z : Value} {Q : Value → Shared → Prop}

theorem Inv.baseNone (I : Inv prog w base os s H μ) {p : Addr} (hp : s.heap.get? p = none) : base.get? p = none := by
  cases q : base.get? p with
  | none => rfl
  | some o => have := I.old _ _ q; rw [hp] at this; cases this

/-- an object made a while ago is counted in -/
theorem adopt4 {h : Heap} {μ₃ Fr : List Addr} (X : Ext h s.heap μ μ₃ Fr) (hF : ∀ a ∈ Fr, h.get? a = none) (I : Inv prog w base os s H μ₃) {p : Addr} (hp : h.get? p = none) (hb : base.get? p = none ∧ p ≠ sysModules) (hμ : p ∉ μ₃) (nt : ∀ vs k, s.heap.get? p ≠ some (tupObj vs k))
    (lv' : ∃ o, s'.heap.get? p = some o)
    (sb : ∀ b o, b ≠ p → s.heap.get? b = some o → s'.heap.get? b = some o) {m : MO} {sm : Bool} (kp : sm = true → Keep h s.heap) (hm : ObjR prog w s'.heap (μ₃ ++ [p]) p m) (hg : s'.gens = s.gens := by rfl) (ho : s'.os = s.os := by rfl) :
    Inv prog w base os s' (H ++ [m]) (μ₃ ++ [p]) ∧ Ext h s'.heap μ (μ₃ ++ [p]) [] ∧ Rel s'.heap (μ₃ ++ [p]) (.ref H.length) (.ref p) ∧ (sm = true → Keep h s'.heap) := by
  have hne : ∀ {a o}, h.get? a = some o → a ≠ p := fun e q => by rw [q, hp] at e; cases e
  refine ⟨I.add hb hμ nt sb hm hg ho, ⟨?_, fun a o e => ?_, fun a o e h1 _ => sb a o (hne e) (X.keep a o e h1 fun q => by rw [hF a q] at e; cases e)⟩, .ref ?_, fun q b o e => sb b o (hne e) (kp q b o e)⟩
  · obtain ⟨ν, rfl, hν⟩ := X.pre
    refine ⟨ν ++ [p], List.append_assoc .., fun a ha => ?_⟩
    rcases List.mem_append.mp ha with ha | ha
    · exact hν a ha
    · rw [List.mem_singleton.mp ha]; exact hp
  · obtain ⟨o', e'⟩ := X.live a o e
    by_cases hap : a = p
    · rw [hap]; exact lv'
    · exact ⟨o', sb a o' hap e'⟩
  · rw [List.getElem?_append_right (by rw [I.len]; exact Nat.le_refl _), I.len, Nat.sub_self]; rfl

theorem Post.adopt {h : Heap} {μ₃ Fr : List Addr} (X : Ext h s.heap μ μ₃ Fr) (hF : ∀ a ∈ Fr, h.get? a = none) (I : Inv prog w base os s H μ₃) {p : Addr} (hp : h.get? p = none) (hb : base.get? p = none ∧ p ≠ sysModules) (hμ : p ∉ μ₃) (nt : ∀ vs k, s.heap.get? p ≠ some (tupObj vs k))
    (lv' : ∃ o, s'.heap.get? p = some o)
    (sb : ∀ b o, b ≠ p → s.heap.get? b = some o → s'.heap.get? b = some o) {m : MO} {sm : Bool} (kp : sm = true → Keep h s.heap) (hm : ObjR prog w s'.heap (μ₃ ++ [p]) p m) (hg : s'.gens = s.gens := by rfl) (ho : s'.os = s.os := by rfl) :
    Post prog w base os h μ (H ++ [m]) (.ref H.length) sm (.ref p) s' :=
  ⟨_, adopt4 X hF I hp hb hμ nt lv' sb kp hm hg ho⟩

/-! constants -/
noncomputable def cNone (c : Const) : Bool := match c with
  | .none => true
  | _ => false
noncomputable def cBool (b : Bool) (c : Const) : Bool := match c with
  | .bool d => b == d
  | _ => false
noncomputable def cInt (b : Int) (c : Const) : Bool := match c with
  | .int d => decide (b = d)
  | _ => false
noncomputable def cStr (b : Nat) (c : Const) : Bool := match c with
  | .str d => decide (d = dec b)
  | _ => false
noncomputable def chkC (nm : NT) (names : Nms) (v : V) (e : Expr) : Bool := match v with
  | .none => isC e fun c _ _ => cNone c
  | .bool b => isC e fun c _ _ => cBool b c
  | .int i => (isC e fun c _ _ => cInt i c) || isN e fun x _ => globOk names x && (onInt ((nm.consts.lookup x).getD .none) fun j => some (decide (i = j))).getD false
  | .str k => isC e fun c _ _ => cStr k c
  | .tup _ => false
  | .ref _ => false
theorem ev_c (gl : Gl prog w base nm G mg mb) {c : V} {e : Expr} (h : chkC nm names c e = true) : EvOk prog w base os G F n names (.c c) e := by
  have simple : ∀ {e : Expr}, (∀ (A : Around) (env : Env) (s : Shared) (H : AH) (μ : List Addr) (E : Value → Shared → Prop), env.scope.names = names → Inv prog w base os s H μ → (∀ ρ, FrameOk base s.heap μ env ρ → wpAny (model prog w) A (eval e env) (Post prog w base os s.heap μ H c true) E s)) → EvOk prog w base os G F n names (.c c) e :=
    fun k A env s H μ ρ v H' E hA hn I f he => by
      cases he
      exact k A env s H μ E hn I ρ f
  cases c with
  | none =>
    refine isC_elim (P := EvOk prog w base os G F n names (.c .none)) h fun c i p h => ?_
    cases c with
    | none => exact simple fun A env s H μ E _ I _ _ => fun _ _ _ => Post.same I .none rfl
    | _ => cases h
  | bool b =>
    refine isC_elim (P := EvOk prog w base os G F n names (.c (.bool b))) h fun c i p h => ?_
    cases c with
    | bool d => exact eq_of_beq h ▸ simple fun A env s H μ E _ I _ _ => fun _ _ _ => Post.same I (.bool _) rfl
    | _ => cases h
  | int b =>
    refine or2 h (fun h => isC_elim (P := EvOk prog w base os G F n names (.c (.int b))) h fun c i p h => ?_) fun h => isN_elim (P := EvOk prog w base os G F n names (.c (.int b))) h fun x p h => and2k h fun h1 h2 => ?_
    · cases c with
      | int d => exact of_decide_eq_true h ▸ simple fun A env s H μ E _ I _ _ => wpAny_Constant_int (Post.same I (.int _ _) rfl)
      | _ => cases h
    · cases q : nm.consts.lookup x with
      | none => rw [q] at h2; cases h2
      | some u =>
        rw [q] at h2
        cases u with
        | int j =>
          obtain ⟨y, hy, hr⟩ := gl.const _ _ q
          exact simple fun A env s H μ E hn I ρ f => glob_snd gl I f (hn ▸ h1) hy (Post.same I ((of_decide_eq_true h2 : b = j) ▸ hr _ _) rfl)
        | _ => cases h2
  | str b =>
    refine isC_elim (P := EvOk prog w base os G F n names (.c (.str b))) h fun c i p h => ?_
    cases c with
    | str d => exact of_decide_eq_true h ▸ simple fun A env s H μ E _ I _ _ => wpAny_Constant_str (Post.same I (.str _ _) rfl)
    | _ => cases h
  | _ => cases h

/-! rows of expressions -/
theorem evs_nil : EvsOk prog w base os G F n names .nil [] := by
  intro A env pos s H μ ρ vs H' E hA hn I f he
  cases he
  exact args_nil ⟨rfl, μ, I, Ext.refl _ _ _, .nil, fun _ _ _ e => e⟩
theorem evs_cons {pe : PE} {pes : PEs} {e : Expr} {es : List Expr} (hs : notStar e = true) (h1 : EvOk prog w base os G F n names pe e) (h2 : EvsOk prog w base os G F n names pes es) : EvsOk prog w base os G F n names (.cons pe pes) (e :: es) :=
  fun A env pos s H μ ρ vs H' E hA hn I f he => bnd_elim (o := ev G F pe ρ H) he fun u H1 e1 he => bnd_elim he fun us H2 e2 he =>
    args_cons (h1.run hA hn I f e1 fun x s₁ μ₁ I₁ X₁ r₁ k₁ f₁ => h2.run hA hn I₁ f₁ e2 fun xs s₂ μ₂ q0 I₂ X₂ r₂ k₂ _ => by
      cases he
      exact ⟨congrArg (· + 1) q0, μ₂, I₂, X₁.trans X₂, .cons (r₁.mv X₂ I₁.noTup) r₂, fun h b o e => k₂ (and2 h).2 b o (k₁ (and2 h).1 b o e)⟩) (starEach_cons hs _ _)
theorem ev_tup {pes : PEs} {es : List Expr} {k : Nat} {pos : Pos} (hl : es.length ≤ 1000) (h : EvsOk prog w base os G F n names pes es) : EvOk prog w base os G F n names (.tup pes) (.Tuple es k pos) :=
  fun A env s H μ ρ v H' E hA hn I f he => bnd_elim (o := evs G F pes ρ H) he fun us H1 e1 he => wpAny_Tuple (h.run hA hn I f e1 fun xs s₁ μ₁ p0 I₁ X₁ r₁ k₁ _ =>
    have hz : us.length ≤ lineN := p0 ▸ Nat.le_trans hl (by decide)
    ⟨line_le (r₁.length ▸ hz), Post.at he (Post.andThen X₁ k₁ (Post.tuple (sm := true) I₁ r₁ hz rfl) fun h => ⟨h, rfl⟩)⟩)
theorem ev_list {pes : PEs} {es : List Expr} {pos : Pos} (hl : es.length ≤ 1000) (h : EvsOk prog w base os G F n names pes es) : EvOk prog w base os G F n names (.list pes) (.List es pos) :=
  fun A env s H μ ρ v H' E hA hn I f he => bnd_elim (o := evs G F pes ρ H) he fun us H1 e1 he => wpAny_List (h.run hA hn I f e1 fun xs s₁ μ₁ p0 I₁ X₁ r₁ k₁ _ =>
    have hz : us.length ≤ lineN := p0 ▸ Nat.le_trans hl (by decide)
    ⟨line_le (r₁.length ▸ hz), Post.at he (Post.behind X₁ (Post.list (sm := true) I₁ r₁ hz rfl))⟩)

/-! dict displays -/
noncomputable def EvdOk (prog : Program) (w : World) (base : Heap) (os : OsState) (G : GTab) (F : Calls) (n : Nat) (names : Nms) (pes : PEds) (ks vs : List Expr) : Prop :=
  ∀ (A : Around) (env : Env) (pos : Pos) (s : Shared) (H : AH) (μ : List Addr) (ρ : Loc) (l : List (Key × V)) (H' : AH) (E : Value → Shared → Prop), Room n A → env.scope.names = names → Inv prog w base os s H μ → FrameOk base s.heap μ env ρ →
    evd G F pes ρ H = some (l, H') → wpAny (model prog w) A (evalPairs ((ks.map (eval · env)).zip (vs.map fun v => do let x ← eval v env; standAt pos; pure x)))
      (fun xs s' => l.length = ks.length ∧ ∃ μ' kvs, Carries (kn prog w) xs kvs ∧ Inv prog w base os s' H' μ' ∧ Ext s.heap s'.heap μ μ' [] ∧ RelD s'.heap μ' l kvs) E s
theorem evd_nil : EvdOk prog w base os G F n names .nil [] [] := by
  intro A env pos s H μ ρ l H' E hA hn I f he
  cases he
  exact evalPairs_nil ⟨rfl, μ, [], trivial, I, Ext.refl _ _ _, .nil⟩
theorem evd_cons {pk pv : PE} {pes : PEds} {k v : Expr} {ks vs : List Expr} (h1 : EvOk prog w base os G F n names pk k) (h2 : EvOk prog w base os G F n names pv v) (h3 : EvdOk prog w base os G F n names pes ks vs) :
    EvdOk prog w base os G F n names (.cons pk pv pes) (k :: ks) (v :: vs) :=
  fun A env pos s H μ ρ l H' E hA hn I f he => bnd_elim (o := ev G F pk ρ H) he fun u H1 e1 he => bnd_elim he fun u' H2 e2 he => obn_elim he fun k' hk he => bnd_elim he fun r H3 e3 he =>
    evalPairs_cons (h1.run hA hn I f e1 fun x s₁ μ₁ I₁ X₁ r₁ _ f₁ => wpAny_bind (h2.run hA hn I₁ f₁ e2 fun y s₂ μ₂ I₂ X₂ r₂ _ f₂ => wpAny_bind (wpAny_standAt (wpAny_pure
      (mono (h3 A env pos s₂ H2 μ₂ ρ r H3 E hA hn I₂ f₂ e3) fun xs s₃ t => by
        cases he
        obtain ⟨t0, μ₃, kvs, c, I₃, X₃, rd⟩ := t
        exact ⟨congrArg (· + 1) t0, μ₃, (k', y) :: kvs, ⟨key_rel hk (r₁.mv X₂ I₁.noTup), rfl, c⟩, I₃, (X₁.trans X₂).trans X₃, .cons (r₂.mv X₃ I₂.noTup) rd⟩)))))
theorem RelD.merged {h : Heap} {l : List (Key × V)} {kvs : List (Key × Value)} (r : RelD h μ l kvs) : ∀ {l₀ : List (Key × V)} {kvs₀ : List (Key × Value)}, RelD h μ l₀ kvs₀ → RelD h μ (l.foldl (fun d p => setK d p.1 p.2) l₀) (merged kvs₀ kvs) := by
  induction r with
  | nil => exact fun r => r
  | @cons k v x l xs a _ ih => exact fun r₀ => ih (r₀.stored k a)
theorem foldK_len (l : List (Key × V)) : ∀ l₀ : List (Key × V), (l.foldl (fun d p => setK d p.1 p.2) l₀).length ≤ l₀.length + l.length := by
  induction l with
  | nil => exact fun l₀ => Nat.le_refl _
  | cons p l ih =>
    intro l₀
    refine Nat.le_trans (ih (setK l₀ p.1 p.2)) (Nat.le_trans (Nat.add_le_add_right (setK_len l₀ p.1 p.2) _) ?_)
    rw [List.length_cons, Nat.add_assoc, Nat.add_comm 1]
    exact Nat.le_refl _
theorem eachOpt_map (ks : List Expr) (env : Env) : evalEachOpt (ks.map some) env = ks.map fun k => some (eval k env) := by
  induction ks with
  | nil => rfl
  | cons k ks ih => simp only [List.map_cons]; rw [← ih]; rfl
theorem each_map (ks : List Expr) (env : Env) : evalEach ks env = ks.map fun k => eval k env := by
  induction ks with
  | nil => rfl
  | cons k ks ih => simp only [List.map_cons]; rw [← ih]; rfl
theorem ev_dict0 {pos : Pos} : EvOk prog w base os G F n names (.dict .nil) (.Dict [] [] pos) := by
  intro A env s H μ ρ v H' E hA hn I f he
  cases he
  exact wpAny_Dict_empty (Post.new I (Keep.push _ _) (Nat.le_refl _) (.dict (Heap.DictOf.new s.heap) .nil (Nat.zero_le _)) rfl rfl)
theorem DictOf.noTup {h : Heap} {a : Addr} {kvs : List (Key × Value)} (d : h.DictOf (kn prog w) a kvs) (vs : Array Value) (k : Nat) : h.get? a ≠ some (tupObj vs k) := fun q => by
  obtain ⟨o, es, ep, h1, _, h2, _⟩ := d
  cases h1.symm.trans q
  cases h2
theorem ev_dict {pes : PEds} {ks vs : List Expr} {pos : Pos} (h0 : ks ≠ []) (hlen : ks.length = vs.length) (h15 : ks.length ≤ 15) (h : EvdOk prog w base os G F n names pes ks vs) :
    EvOk prog w base os G F n names (.dict pes) (.Dict (ks.map some) vs pos) := by
  intro A env s H μ ρ v H' E hA hn I f he
  replace he : finD (evd G F pes ρ H) = some (v, H') := he
  unfold finD at he
  refine bnd_elim he fun l H1 e1 he => ?_
  have hp := get?_size s.heap
  have K0 := Keep.push s.heap { cls := .type "dict", data := .dict #[] }
  have I0 : Inv prog w base os { s with heap := s.heap.push { cls := .type "dict", data := .dict #[] } } H μ := I.keep K0
  have X0 : Ext s.heap (s.heap.push { cls := .type "dict", data := .dict #[] }) μ μ [] := Ext.of_keep K0 _ _
  have hnew : (s.heap.push { cls := .type "dict", data := .dict #[] }).DictOf (kn prog w) s.heap.objs.size [] := Heap.DictOf.new s.heap
  have hb : base.get? s.heap.objs.size = none ∧ s.heap.objs.size ≠ sysModules := ⟨I.baseNone hp, I.ne_size (Nat.le_refl _)⟩
  have hμ0 : s.heap.objs.size ∉ μ := fun q => by obtain ⟨o, e⟩ := I.live q; rw [hp] at e; cases e
  refine wpAny_Dict_pairs (knd := kn prog w) (pairs := (ks.map (eval · env)).zip (vs.map fun v => do let x ← eval v env; standAt pos; pure x)) ?_ ?_ ?_ ?_
  · rw [eachOpt_map, each_map, List.map_map]
    rw [show (ks.map fun k => some (eval k env)) = (ks.map (eval · env)).map some by simp]
    rw [List.zip_map_left]
    rfl
  · intro q
    have := congrArg List.length q
    simp [← hlen] at this
    exact h0 this
  · simp [← hlen]; exact h15
  · refine mono (h A env pos _ H μ ρ l H1 E hA hn I0 (f.ext X0 I.noTup) e1) fun xs s₁ p => ?_
    obtain ⟨p0, μ₁, kvs, c, I₁, X₁, rd⟩ := p
    have ho : (s.heap.push { cls := .type "dict", data := .dict #[] }).get? s.heap.objs.size = some _ := Heap.get?_push_size _ rfl
    have hnew1 : s₁.heap.DictOf (kn prog w) s.heap.objs.size [] := hnew.at fun o e => X₁.keep _ _ e hμ0 List.not_mem_nil
    refine ⟨kvs, c, hnew1, fun h' hd' sb => Post.at he ?_⟩
    have hμ1 : s.heap.objs.size ∉ μ₁ := fun q => by
      obtain ⟨ν, rfl, hν⟩ := X₁.pre
      rcases List.mem_append.mp q with q | q
      · exact hμ0 q
      · have := hν _ q; rw [ho] at this; cases this
    have kk : ∀ a o, s₁.heap.get? a = some o → a ∉ μ₁ → a ∉ [s.heap.objs.size] → h'.get? a = some o := fun a o e _ h2 => (sb.2 a fun q => h2 (q ▸ List.mem_singleton.mpr rfl)).trans e
    have n2 : NoTup s₁.heap [s.heap.objs.size] := fun a ha => List.mem_singleton.mp ha ▸ DictOf.noTup hnew1
    refine Post.adopt (s' := { s₁ with heap := h', toks := s₁.toks + xs.length }) (X0.trans X₁) (fun _ q => nomatch q) I₁ hp hb hμ1 (DictOf.noTup hnew1) (let ⟨o, _, _, e, _⟩ := hd'; ⟨o, e⟩) (fun b o hbp e => (sb.2 b hbp).trans e) (fun q => nomatch q)
      (.dict hd' ((RelD.merged rd .nil).ext0 kk I₁.noTup n2) ?_)
    refine Nat.le_trans (foldK_len l []) (Nat.le_trans (?_ : [].length + l.length ≤ 15) (by decide))
    rw [List.length_nil, Nat.zero_add, p0]
    exact h15
end
end Mine
/-! DP0 -/
namespace Mine
open PySem PySem.Calls PyProof.Rows PySem.SeqAt PySem.W
/-! only these places are written -/
noncomputable def Mv (wr : List Addr) (h h' : Heap) : Prop := ∀ b o, b ∉ wr → h.get? b = some o → h'.get? b = some o
theorem Mv.refl (wr : List Addr) (h : Heap) : Mv wr h h := fun _ _ _ e => e
theorem Mv.trans {wr : List Addr} {h h' h'' : Heap} (a : Mv wr h h') (b : Mv wr h' h'') : Mv wr h h'' := fun p o n e => b p o n (a p o n e)
theorem Mv.weaken {wr wr' : List Addr} {h h' : Heap} (a : Mv wr h h') (s : ∀ p ∈ wr, p ∈ wr') : Mv wr' h h' := fun p o n e => a p o (fun q => n (s p q)) e
theorem Mv.of_keep {wr : List Addr} {h h' : Heap} (k : Keep h h') : Mv wr h h' := fun p o _ e => k p o e
theorem Mv.sameBut {a : Addr} {h h' : Heap} (s : Heap.SameBut a h h') : Mv [a] h h' := fun p o n e => (s.2 p (by simpa using n)).trans e
theorem Mv.ext {h h' : Heap} {μ μ' F wr : List Addr} (x : Ext h h' μ μ' F) (s : ∀ p ∈ μ, p ∈ wr) (s' : ∀ p ∈ F, p ∈ wr) : Mv wr h h' := fun p o n e => x.keep p o e (fun q => n (s p q)) fun q => n (s' p q)

section
variable {μ wr : List Addr} {h h' : Heap}
theorem Rel.mvw (k : Mv wr h h') (n : NoTup h wr) {v : V} {y : Value} (r : Rel h μ v y) : Rel h' μ v y := r.map (fun a _ _ e => k a _ (fun q => n a q _ _ e) e) fun _ _ e => e
theorem Rels.mvw (k : Mv wr h h') (n : NoTup h wr) {l : List V} {ys : List Value} (r : Rels h μ l ys) : Rels h' μ l ys := r.all fun q => q.mvw k n
theorem RelD.mvw (k : Mv wr h h') (n : NoTup h wr) {l : List (Key × V)} {ys : List (Key × Value)} (r : RelD h μ l ys) : RelD h' μ l ys := r.all fun q => q.mvw k n
end
theorem dp_entry : entryFor table "dict.update.loop" = some Builtin.«dict.update.loop» := entryFor_of_tree (by kernel_rfl)
theorem dp_plain : plainId "dict.update.loop" = true := by decide +kernel
theorem dp_keys_miss : typeLookup (.type "list") "keys" = pure none := am_miss_of_fast (by decide +kernel)
section
variable {prog : Program} {w : World} {A : Around} {E : Value → Shared → Prop} {s : Shared}
theorem keys_none {a : Addr} {vs : Array Value} {n : Nat} {Q : Option Value → Shared → Prop} (hx : s.heap.get? a = some (lstObj vs n)) (hA : A.handled = none)
    (h : ∀ h' tk, (∀ b o, s.heap.get? b = some o → h'.get? b = some o) → Q none { s with heap := h', toks := tk }) : wpAny (model prog w) A (getAttr? (.ref a) "keys") Q E s := by
  obtain ⟨hp, g, d, tk, os⟩ := s
  have hT : ∀ tk', (⟨hp, g, d, tk', os⟩ : Shared).TypeIs (.ref a) "list" := fun _ => ⟨_, hx, rfl⟩
  have f1 := sub_AttributeError
  have f3 := F.slot_list_getattribute.lookup
  have f4 := F.slot_list_getattribute.bind (.ref a)
  have f5 := am_list_getattr_none
  have hname : (["__module__", "__name__", "__qualname__", "__doc__", "__annotations__"] : List Str).contains "keys" = false := by decide +kernel
  unfold getAttr? getAttrBy? getAttrBy
  repeat (any_goals (first | assumption | exact hT _ | ((with_reducible show wpAny _ _ (call (Value.builtin "list.__getattribute__") _ _) _ _ _); refine call_meets F.slot_list_getattribute (hT _) am_entry_list_getattribute (F.args_list_getattribute_2 _ _) (meets_getattribute_miss_list a vs n #[] "keys" _ dp_keys_miss hname (by size_fits)) ⟨hx, hA, fun h' tk' e hx' => ?_⟩) | wp_step))
  obtain ⟨t', u', he⟩ := hx'.there
  have hE : ∀ tk'', (⟨h', g, d, tk'', os⟩ : Shared).TypeIs (.ref e) "AttributeError" := fun _ => ⟨_, he, rfl⟩
  have hk := fun tk'' => h h' tk'' hx'.keeps
  show wpAny _ _ (getattributeRaised _ _ (Value.type "list") _ _ _ _) _ _ _
  unfold getattributeRaised
  repeat (any_goals (first | assumption | exact hE _ | exact hk _ | wp_step))
end

section
variable {prog : Program} {w : World} {A : Around} {E : Value → Shared → Prop} {μ : List Addr}
theorem dp_pair {a : Addr} {vs : Array Value} {n : Nat} {s : Shared} {Q : List Value → Shared → Prop} (hx : s.heap.get? a = some (tupObj vs n)) (h : Q vs.toList s) : wpAny (model prog w) A (Builtin.Dict.pairItems (.ref a)) Q E s := by
  unfold Builtin.Dict.pairItems
  refine wpAny_bind (wpAny_typeOf (T := "tuple") ⟨_, hx, rfl⟩ ?_)
  rw [if_pos (by decide)]
  refine wpAny_bind (wpAny_seqItems hx rfl ?_)
  exact wpAny_pure h
theorem on_pair {γ : Type} {h : Heap} {f : Key × V → Option γ} {r : γ} {x : V} {z : Value} {P : Value → Prop} (e : obn (pairOf x) f = some r) (ra : Rel h μ x z)
    (k : ∀ k v ta zk zv n, h.get? ta = some (tupObj (List.toArray [zk, zv]) n) → keyIs k zk = true → Rel h μ v zv → f (k, v) = some r → P (.ref ta)) : P z :=
  obn_elim e fun p hp e => ca_tup (P := fun _ z => P z) hp ra (fun l ta vs n hg rs _ hp => by
    cases rs with
    | nil => cases hp
    | cons a rs =>
      cases rs with
      | nil => cases hp
      | cons b rs =>
        refine gua_elim hp fun he hp => ?_
        cases rs with
        | cons _ _ => cases he
        | nil => exact on_key hp a fun j hj hp => k j _ ta _ _ n hg hj b (Option.some.inj hp ▸ e)) fun q => nomatch q
theorem pairsOf_len (l : List V) : ∀ qs : List (Key × V), pairsOf l = some qs → qs.length = l.length := by
  induction l with
  | nil => intro qs e; exact Option.some.inj e ▸ rfl
  | cons v l ih => intro qs e; exact obn_elim (o := pairOf v) e fun p _ e => obn_elim e fun m hm e => by rw [← Option.some.inj e, List.length_cons, ih m hm]; rfl
theorem nt2 {h : Heap} {D it a : Addr} {i : Nat} {kvs : List (Key × Value)} (hD : h.DictOf (kn prog w) D kvs) (hit : h.IsListIter it a i) : NoTup h [D, it] := by
  intro b hb vs' n' q
  rcases List.mem_cons.mp hb with rfl | hb
  · exact DictOf.noTup hD vs' n' q
  · rw [List.mem_singleton.mp hb] at q
    obtain ⟨o, ho, hc, _⟩ := hit
    cases ho.symm.trans q
    exact absurd hc (by show Value.type "tuple" ≠ Value.type "list_iterator"; decide)
theorem dp_loop {R : Result → Shared → Prop} (hA : A.handled = none) {a D it : Addr} {l : List V} {vs : List Value} {m : Nat} (hDi : D ≠ it) (hal : a ≠ D) (hai : a ≠ it) (todo : List V) :
    ∀ (rest : List (Key × V)) (i : Nat) (s : Shared) (t : Tok) (l₀ : List (Key × V)) (kvs : List (Key × Value)), l.drop i = todo → pairsOf todo = some rest → s.heap.IsListIter it a i → s.heap.get? a = some (lstObj vs.toArray m) → Rels s.heap μ l vs →
      s.heap.DictOf (kn prog w) D kvs → RelD s.heap μ l₀ kvs → l₀.length + todo.length ≤ lineN →
      (∀ h' tk kvs', Mv [D, it] s.heap h' → h'.DictOf (kn prog w) D kvs' → RelD h' μ (rest.foldl (fun d p => setK d p.1 p.2) l₀) kvs' → R (.ok (.ret .none)) { s with heap := h', toks := tk }) →
      codeAny (model prog w) A (.builtin "dict.update.loop" ⟨[.ref D, .ref it, .int (i : Int) t, .none], []⟩) R s := by
  induction todo with
  | nil =>
    intro rest i s t l₀ kvs hd hp hit hl rs hD rd hln hR
    cases hp
    refine codeAny_builtin dp_entry ?_
    rw [Around.under_plainId dp_plain _]
    show wpAny _ A.in1 (pyNext (.ref it) >>= _) _ _ _
    have e' : vs.toArray[i]? = none := by
      rw [List.getElem?_toArray]
      exact List.getElem?_eq_none (by rw [rs.length]; exact List.drop_eq_nil_iff.mp hd)
    refine wpAny_bind (wpAny_pyNext_list_end hA hit ⟨_, hl, rfl, m, rfl⟩ e' fun h' x => ?_)
    show wpAny _ _ (Builtin.Dict.addKeywords D [] >>= fun _ => ret Value.none) _ _ _
    have mv : Mv [D, it] s.heap h' := fun b o n e => x b o (fun q => n (q ▸ .tail _ (.head _))) e
    exact wpAny_bind (wpAny_pure (wpAny_pure (hR h' s.toks kvs mv (hD.at fun o e => x D o hDi e) (rd.mvw mv (nt2 hD hit)))))
  | cons x todo ih =>
    intro rest i s t l₀ kvs hd hp hit hl rs hD rd hln hR
    have hx : l[i]? = some x := by
      have : (l.drop i)[0]? = some x := by rw [hd]; rfl
      rw [List.getElem?_drop] at this; exact this
    have hd' : l.drop (i + 1) = todo := by
      have : (l.drop i).drop 1 = todo := by rw [hd]; rfl
      rw [List.drop_drop] at this; exact this
    obtain ⟨z, hz, rz⟩ := rs.get hx
    have nt := nt2 hD hit
    refine on_pair (P := fun z => vs[i]? = some z → _) hp rz (fun pk v ta zk zv wn hta hk rv hp hz => obn_elim hp fun rest hp' hp => ?_) hz
    cases hp
    refine codeAny_builtin dp_entry ?_
    rw [Around.under_plainId dp_plain _]
    show wpAny _ A.in1 (pyNext (.ref it) >>= _) _ _ _
    refine wpAny_bind (wpAny_pyNext_list_item hit ⟨_, hl, rfl, m, rfl⟩ (x := .ref ta) ((List.getElem?_toArray ..).trans hz) fun h' hit' sb => ?_)
    have mv : Mv [D, it] s.heap h' := fun b o n e => (sb.2 b (fun q => n (q ▸ .tail _ (.head _)))).trans e
    have hD' : h'.DictOf (kn prog w) D kvs := hD.at fun o e => (sb.2 D hDi).trans e
    have nt' := nt2 hD' hit'
    refine wpAny_bind (wpAny_holding (wpAny_bind (wpAny_tryCatch (dp_pair (s := { s with heap := h' }) (mv ta _ (fun q => nt ta q _ _ hta) hta) ?_))))
    show wpAny _ _ (holding [zk, zv] (dictSet D zk zv)) _ _ _
    refine wpAny_holding ?_
    have klen : kvs.length ≤ lineN := by rw [rd.length]; omega
    refine wpAny_dictSet_pairs (knd := kn prog w) (k := pk) hk hD' (fun h'' hd'' sb'' => ?_) (line_le klen)
    have mv2 : Mv [D, it] h' h'' := fun b o n e => (sb''.2 b (fun q => n (q ▸ .head _))).trans e
    have hit'' : h''.IsListIter it a (i + 1) := by
      obtain ⟨o, ho, hc⟩ := hit'
      exact ⟨o, (sb''.2 it hDi.symm).trans ho, hc⟩
    refine wpAny_pure ⟨plainId_quiet dp_plain _, ?_⟩
    have ent : a ∉ [D, it] := fun q => by
      rcases List.mem_cons.mp q with q | q
      · exact hal q
      · exact hai (List.mem_singleton.mp q)
    exact ih rest (i + 1) { s with heap := h'', toks := s.toks + 1 } 0 (setK l₀ pk v) (stored kvs pk zv) hd' hp' hit'' (mv2 a _ ent (mv a _ ent hl)) ((rs.mvw mv nt).mvw mv2 nt') hd'' (((rd.mvw mv nt).stored pk (rv.mvw mv nt)).mvw mv2 nt')
      (Nat.le_trans (Nat.add_le_add_right (setK_len l₀ pk v) _) (by rw [List.length_cons] at hln; omega)) fun h₃ tk kvs' m3 d3 r3 => hR h₃ tk kvs' ((mv.trans mv2).trans m3) d3 r3
theorem dict_snd {base : Heap} {os : OsState} {s : Shared} {H H' : AH} {a v : V} {x : Value} (hA : A.handled = none) (I : Inv prog w base os s H μ) (e : dictV a H = some (v, H')) (ra : Rel s.heap μ a x) :
    wpAny (model prog w) A (call (.type "dict") [x]) (Post prog w base os s.heap μ H' v true) E s := by
  refine on_lst (P := fun _ x => wpAny (model prog w) A (call (.type "dict") [x]) (Post prog w base os s.heap μ H' v true) E s) I e ra fun j l b vs n hb hj h1 rs hlen e => obn_elim e fun ps hp e => fin e ?_
  refine callType_codes (Q₁ := fun obj s₁ => obj = .ref s.heap.objs.size ∧ s₁ = { s with heap := s.heap.push { cls := .type "dict", data := .dict #[] } }) PySem.F.kt_called_dict (PySem.F.kt_typeCall_dict_1 _) PySem.F.entry_dict_init (kt_code_dict_new _ ⟨rfl, rfl⟩) ?_
  rintro obj s₁ ⟨rfl, rfl⟩
  have hnew : (s.heap.push { cls := .type "dict", data := .dict #[] }).DictOf (kn prog w) s.heap.objs.size [] := Heap.DictOf.new s.heap
  have h1' : (s.heap.push { cls := .type "dict", data := .dict #[] }).get? b = some (lstObj vs.toArray n) := Heap.get?_push_of_some _ h1
  have hnone : s.heap.get? s.heap.objs.size = none := by
    cases q : s.heap.get? s.heap.objs.size with
    | none => rfl
    | some o => exact absurd (Heap.lt_size q) (Nat.lt_irrefl _)
  have hbD : b ≠ s.heap.objs.size := fun q => by rw [q, hnone] at h1; cases h1
  have k0 : Keep s.heap (s.heap.push { cls := .type "dict", data := .dict #[] }) := fun b o e => Heap.get?_push_of_some _ e
  refine ⟨hnew.typeIs, PySem.F.args_dict_init_2 _ _, ?_⟩
  unfold Builtin.«dict.__init__»
  refine wpAny_bind ?_
  unfold Builtin.Dict.selfAndRest
  refine wpAny_bind (wpAny_notOrdered_dict hnew.typeIs ?_)
  show wpAny _ _ (pure (s.heap.objs.size, [Value.ref b])) _ _ _
  refine wpAny_pure ?_
  show wpAny _ _ (Builtin.Dict.updateFrom "dict.__init__" s.heap.objs.size (.ref b) [] .none) _ _ _
  unfold Builtin.Dict.updateFrom
  refine wpAny_bind (wpAny_typeOf (T := "list") ⟨_, h1', rfl⟩ ?_)
  rw [if_pos (by decide)]
  refine wpAny_bind (keys_none (vs := vs.toArray) (n := n) h1' hA fun h2 tk k2 => ?_)
  rw [if_pos (show (Option.isNone (α := Value) none) = true from rfl)]
  have h1₂ := k2 _ _ h1'
  have hD₂ : h2.DictOf (kn prog w) s.heap.objs.size [] := hnew.at fun o e => k2 _ o e
  refine wpAny_bind (wpAny_rule ?_)
  refine wpAny_bind (wpAny_pyIter_list ⟨_, h1₂, rfl, n, rfl⟩ ?_)
  refine wpAny_pure ⟨plainId_quiet dp_plain _, ?_⟩
  have hDs : s.heap.objs.size < h2.objs.size := by
    obtain ⟨o, _, _, e, _⟩ := hD₂
    exact Heap.lt_size e
  have hbs : b < h2.objs.size := Heap.lt_size h1₂
  let h3 := h2.push { cls := .type "list_iterator", data := .fields #[.ref b, .int 0 0] }
  have k3 : Keep s.heap h3 := fun b o e => Heap.get?_push_of_some _ (k2 _ o (k0 _ o e))
  have hit : h3.IsListIter h2.objs.size b 0 := ⟨_, Heap.get?_push_size _ rfl, rfl, rfl⟩
  have rs' : Rels h3 μ l vs := rs.ext (Ext.of_keep k3 μ []) I.noTup fun _ q => nomatch q
  have hD₃ : h3.DictOf (kn prog w) s.heap.objs.size [] := hD₂.push _
  refine dp_loop (μ := μ) (A := A.in1) (l := l) (vs := vs) (m := n) hA (Nat.ne_of_lt hDs) hbD (Nat.ne_of_lt hbs) l ps 0 _ 0 [] [] rfl hp hit (Heap.get?_push_of_some _ h1₂) rs' hD₃ .nil (by rw [List.length_nil, Nat.zero_add]; exact hlen) (fun h' tk' kvs' mv hd' rd' => ?_)
  refine ⟨rfl, ?_⟩
  have kk : Keep s.heap h' := fun c o e => by
    have hc : c < s.heap.objs.size := Heap.lt_size e
    exact mv c o (by
      simp only [List.mem_cons, List.not_mem_nil, or_false]
      rintro (q | q)
      · exact Nat.ne_of_lt hc q
      · exact Nat.ne_of_lt (Nat.lt_trans hc hDs) q) (k3 c o e)
  have nμ : NoTup h' μ := fun c hc vs' n' q => by
    obtain ⟨o, ho⟩ := I.live hc
    rw [kk c o ho] at q
    injection q with q
    subst q
    exact I.noTup c hc _ _ ho
  refine Post.new I (p := s.heap.objs.size) (sm := true) kk (Nat.le_refl _) (.dict hd' (rd'.ext0 (F := []) (fun _ _ e _ _ => e) nμ noF) (Nat.le_trans (foldK_len ps []) ?_))
  rw [List.length_nil, Nat.zero_add, pairsOf_len l ps hp]
  exact hlen
end
end Mine
/-! Snd12 -/
namespace Mine
open PySem PySem.Calls PyProof.Rows PySem.SeqAt PySem.W

noncomputable def EvpOk (prog : Program) (w : World) (base : Heap) (os : OsState) (G : GTab) (F : Calls) (n : Nat) (names : Nms) (pe : PE) (o : Option Expr) : Prop :=
  ∀ (A : Around) (env : Env) (s : Shared) (H : AH) (μ : List Addr) (ρ : Loc) (v : V) (H' : AH) (E : Value → Shared → Prop), Room n A → env.scope.names = names → Inv prog w base os s H μ → FrameOk base s.heap μ env ρ →
    ev G F pe ρ H = some (v, H') → wpAny (model prog w) A (evalPart o env) (Post prog w base os s.heap μ H' v (calm pe)) E s
noncomputable def fnTab (b : Bi) : Option (Str × Value) := match b with
  | .len => some ("len", .builtin "len")
  | .abs => some ("abs", .builtin "abs")
  | .sorted => some ("sorted", .builtin "sorted")
  | .tuple => some ("tuple", .type "tuple")
  | .list => some ("list", .type "list")
  | .dict => some ("dict", .type "dict")
  | .str => some ("str", .type "str")
  | .items => none
theorem fnTab_bi {b : Bi} {x : Str} {y : Value} (h : fnTab b = some (x, y)) : biTab.lookup x = some y := by
  cases b <;> cases h <;> decide +kernel
theorem fnTab_val {b : Bi} {x : Str} {y : Value} (h : fnTab b = some (x, y)) : (∃ id, y = .builtin id) ∨ ∃ T, y = .type T := by
  cases b <;> cases h <;> first | exact .inl ⟨_, rfl⟩ | exact .inr ⟨_, rfl⟩

section
variable {prog : Program} {w : World} {base : Heap} {os : OsState} {nm : NT} {G : GTab} {F : Calls} {mg mb : Str → Option Value} {n : Nat} {names : Nms}
variable {A : Around} {E : Value → Shared → Prop} {s s' : Shared} {H H' : AH} {μ : List Addr} {ρ : Loc} {env : Env} {v a : V} {x y z : Value} {Q : Value → Shared → Prop}

theorem evp_none {c : V} (hc : isNone c = true) : EvpOk prog w base os G F n names (.c c) none := by
  intro A env s H μ ρ v H' E hA hn I f he
  cases he
  rw [evalPart_none]
  refine wpAny_pure (Post.same I ?_ rfl)
  cases c with
  | none => exact .none
  | _ => cases hc
theorem evp_some {pe : PE} {e : Expr} (h : EvOk prog w base os G F n names pe e) : EvpOk prog w base os G F n names pe (some e) :=
  fun A env s H μ ρ v H' E hA hn I f he => by rw [evalPart_some]; exact h A env s H μ ρ v H' E hA hn I f he
theorem EvpOk.run {pe : PE} {e : Option Expr} (h : EvpOk prog w base os G F n names pe e) (hA : Room n A) (hn : env.scope.names = names) (I : Inv prog w base os s H μ) (f : FrameOk base s.heap μ env ρ) (he : ev G F pe ρ H = some (v, H'))
    (k : ∀ x s₁ μ₁, Inv prog w base os s₁ H' μ₁ → Ext s.heap s₁.heap μ μ₁ [] → Rel s₁.heap μ₁ v x → FrameOk base s₁.heap μ₁ env ρ → Q x s₁) : wpAny (model prog w) A (evalPart e env) Q E s :=
  mono (h A env s H μ ρ v H' E hA hn I f he) fun x s₁ p => p.elim fun μ₁ a b c d => k x s₁ μ₁ a b c (f.ext b I.noTup)
theorem ev_slice {a lo hi : PE} {x : Expr} {l u : Option Expr} {p pos : Pos} (ha : EvOk prog w base os G F n names a x) (h1 : EvpOk prog w base os G F n names lo l) (h2 : EvpOk prog w base os G F n names hi u) :
    EvOk prog w base os G F n names (.slice a lo hi) (.Subscript x (.Slice l u none p) pos) :=
  fun A env s H μ ρ v H' E hA hn I f he => bnd_elim (o := ev G F a ρ H) he fun va H1 e1 he => bnd_elim he fun vl H2 e2 he => bnd_elim he fun vu H3 e3 he =>
    Subscript_ (ha.run hA hn I f e1 fun x s₁ μ₁ I₁ X₁ r₁ _ f₁ => wpAny_Slice (h1.run hA hn I₁ f₁ e2 fun yl s₂ μ₂ I₂ X₂ r₂ f₂ => h2.run hA hn I₂ f₂ e3 fun yu s₃ μ₃ I₃ X₃ r₃ f₃ => by
      rw [evalPart_none]
      refine wpAny_pure ?_
      have K := Keep.push s₃.heap { cls := .type "slice", data := .fields #[yl, yu, .none] }
      have I₄ : Inv prog w base os { s₃ with heap := s₃.heap.push { cls := .type "slice", data := .fields #[yl, yu, .none] } } H3 μ₃ := I₃.keep K
      have X₄ : Ext s₃.heap (s₃.heap.push { cls := .type "slice", data := .fields #[yl, yu, .none] }) μ₃ μ₃ [] := Ext.of_keep K _ _
      have X₃₄ := X₃.trans X₄
      obtain ⟨T, id, hT, hl, hg⟩ := slice_snd (A := A) I₄ he (r₁.mv (X₂.trans X₃₄) I₁.noTup) (r₂.mv X₃₄ I₂.noTup) (r₃.mv X₄ I₃.noTup) ⟨_, Heap.get?_push_size _ rfl, rfl, rfl⟩
      exact tail_snd hT hl (mono (hg E) fun z s₅ t => t.behind ((X₁.trans X₂).trans X₃₄))))

theorem ev_rev {a : PE} {x : Expr} {k : Nat} {p p1 p2 pos : Pos} (ha : EvOk prog w base os G F n names a x) : EvOk prog w base os G F n names (.rev a) (.Subscript x (.Slice none none (some (.UnaryOp .USub (.Constant (.int 1) k p1) p2)) p) pos) :=
  fun A env s H μ ρ v H' E hA hn I f he => bnd_elim (o := ev G F a ρ H) he fun va H1 e1 he => Subscript_ (ha.run hA hn I f e1 fun x s₁ μ₁ I₁ X₁ r₁ _ f₁ => wpAny_Slice (by
    rw [evalPart_none, evalPart_some]
    refine wpAny_pure (wpAny_pure (PySem.wpAny_UnaryOp (wpAny_Constant_int (PyProof.Rows.neg_int ?_))))
    have K := Keep.push s₁.heap { cls := .type "slice", data := .fields #[Value.none, Value.none, Value.int (-1) (s₁.toks + 1)] }
    have X₄ : Ext s₁.heap (s₁.heap.push { cls := .type "slice", data := .fields #[Value.none, Value.none, Value.int (-1) (s₁.toks + 1)] }) μ₁ μ₁ [] := Ext.of_keep K _ _
    have I₄ : Inv prog w base os { s₁ with heap := s₁.heap.push { cls := .type "slice", data := .fields #[Value.none, Value.none, Value.int (-1) (s₁.toks + 1)] }, toks := s₁.toks + 1 + 1 } H1 μ₁ := I₁.keep K
    obtain ⟨T, id, hT, hl, hg⟩ := rev_snd (A := A) (t := s₁.toks + 1) I₄ he (r₁.mv X₄ I₁.noTup) ⟨_, Heap.get?_push_size _ rfl, rfl, rfl⟩
    exact tail_snd hT hl (mono (hg E) fun z s₅ t => t.behind (X₁.trans X₄))))

/-! dicts of the module -/
theorem ev_gsub (gl : Gl prog w base nm G mg mb) {g : Nat} {i : PE} {d : Str} {y : Expr} {p pos : Pos} (hd : globOk names d = true) (hg : nm.gds[g]? = some d) (hi : EvOk prog w base os G F n names i y) :
    EvOk prog w base os G F n names (.gsub g i) (.Subscript (.Name d p) y pos) :=
  fun A env s H μ ρ v H' E hA hn I f he => bnd_elim (o := ev G F i ρ H) he fun u H1 e1 he => obn_elim he fun l' hl he => obn_elim he fun k hk he => obn_elim he fun v' hv he => by
    obtain ⟨a, l, kvs, g1, g2, g3, g4, g5⟩ := gl.gd g d hg
    cases hl.symm.trans g1
    refine Subscript_ (glob_snd gl I f (hn ▸ hd) g2 (hi.run hA hn I f e1 fun z s₁ μ₁ I₁ X₁ r₁ k₁ _ => ?_))
    have hm : s₁.heap.DictOf (kn prog w) a kvs := g3.at fun o e => I₁.old _ _ e
    refine tail_snd hm.typeIs PySem.F.slot_dict_getitem.lookup ?_
    rcases (g5 s₁.heap μ₁).get k with ⟨q1, q2⟩ | ⟨t, z', q1, q2, rz⟩
    · cases hv.symm.trans q1
    · cases hv.symm.trans q1
      exact wpAny_getItem_of (knd := kn prog w) (key_rel hk r₁) hm.mapOf q2 (Post.at he (Post.andThen X₁ k₁ (Post.same (sm := true) I₁ rz rfl) fun h => ⟨h, rfl⟩))
theorem gin_ok (gl : Gl prog w base nm G mg mb) {g : Nat} {i : PE} {d : Str} {y : Expr} {p : Pos} (hd : globOk names d = true) (hg : nm.gds[g]? = some d) (hi : EvOk prog w base os G F n names i y) :
    CmpOk prog w base os G F n names (.gin i g) .In y (.Name d p) :=
  fun A env s H μ ρ v H' E Q hA hn I f he hQ => bnd_elim (o := ev G F i ρ H) he fun u H1 e1 he => obn_elim he fun l' hl he => obn_elim he fun k hk he => by
    obtain ⟨a, l, kvs, g1, g2, g3, g4, g5⟩ := gl.gd g d hg
    cases hl.symm.trans g1
    cases he
    refine hi.run hA hn I f e1 fun z s₁ μ₁ I₁ X₁ r₁ k₁ f₁ => glob_snd gl I₁ f₁ (hn ▸ hd) g2 ?_
    have hm : s₁.heap.DictOf (kn prog w) a kvs := g3.at fun o e => I₁.old _ _ e
    refine wpAny_in_of (knd := kn prog w) (key_rel hk r₁) g4 hm.mapOf ?_
    have key : (valueAt kvs k).isSome = (getK l' k).isSome := by
      rcases (g5 s₁.heap μ₁).get k with ⟨q1, q2⟩ | ⟨t, z', q1, q2, rz⟩ <;> rw [q1, q2] <;> rfl
    rw [key]
    exact hQ _ _ rfl (Post.andThen X₁ k₁ (Post.same (sm := true) I₁ (.bool _) rfl) fun h => ⟨h, rfl⟩)

/-! a chain of two comparisons -/
/-- what is left behind the first of the two -/
theorem chain_rest (gl : Gl prog w base nm G mg mb) {o1 o2 : CmpOp} {c : PE} {ez : Expr} (hc : EvOk prog w base os G F n names c ez) (hA : Room n A) (hn : env.scope.names = names) {h : Heap} {μ₁ : List Addr} {va vb : V} {r : Bool} (X : Ext h s.heap μ μ₁ []) (I : Inv prog w base os s H μ₁) (f : FrameOk base s.heap μ₁ env ρ)
    (hr : cmpV o1 va vb H = some r) (ra : Rel s.heap μ₁ va x) (rb : Rel s.heap μ₁ vb y) (he : cond r (bnd (ev G F c ρ H) fun z H3 => obn (cmpV o2 vb z H3) fun r => some (V.bool r, H3)) (some (.bool false, H)) = some (v, H'))
    {Q : Value → Shared → Prop} (k0 : ∀ s', r = false → v = .bool false → Post prog w base os h μ H' v false (.bool false) s' → Q (.bool false) s')
    (k1 : ∀ s₃, r = true → wpAny (model prog w) A (eval ez env) (fun z s₄ => wpAny (model prog w) A (compareOp o2 y z) (fun t s' => ∃ r', t = .bool r' ∧ v = .bool r' ∧ Post prog w base os h μ H' v false t s') E s₄) E s₃ → Q (.bool true) s₃) : wpAny (model prog w) A (compareOp o1 x y) Q E s := by
  have hu : A.units + 80 < cLine := by have := hA.units; omega
  refine cmp_snd gl.sys I hr ra rb hu fun s₃ h3 h4 h5 => ?_
  have K : Keep s.heap s₃.heap := fun b o e => by rw [h3]; exact e
  have I₃ := I.keep K h4 h5
  have X₃ : Ext s.heap s₃.heap μ₁ μ₁ [] := Ext.of_keep K _ _
  cases r with
  | false => exact k0 s₃ rfl (Prod.mk.inj (Option.some.inj he)).1.symm (Post.at he (Post.behind X (Post.same (sm := true) I (.bool _) h3 h4 h5)))
  | true =>
    replace he : (bnd (ev G F c ρ H) fun z H3 => obn (cmpV o2 vb z H3) fun r => some (V.bool r, H3)) = some (v, H') := he
    refine k1 s₃ rfl (bnd_elim (o := ev G F c ρ H) he fun vc H3 e3 he => obn_elim he fun r' hr' he => hc.run hA hn I₃ (f.ext X₃ I.noTup) e3 fun z s₄ μ₄ I₄ X₄ r₄ _ _ => ?_)
    refine cmp_snd gl.sys I₄ hr' ((rb.mv X₃ I.noTup).mv X₄ I₃.noTup) r₄ hu fun s₅ h3 h4 h5 => ⟨r', rfl, (Prod.mk.inj (Option.some.inj he)).1.symm, ?_⟩
    exact Post.at he (Post.behind ((X.trans X₃).trans X₄) (Post.same (sm := true) I₄ (.bool _) h3 h4 h5))
theorem ev_cmp2 (gl : Gl prog w base nm G mg mb) {o1 o2 : CmpOp} {a b c : PE} {x y z : Expr} {pos : Pos} (hm : lastMarks [o1, o2] [y, z] = false) (ha : EvOk prog w base os G F n names a x) (hb : EvOk prog w base os G F n names b y) (hc : EvOk prog w base os G F n names c z) :
    EvOk prog w base os G F n names (.cmp2 o1 o2 a b c) (.Compare x [o1, o2] [y, z] pos) :=
  fun A env s H μ ρ v H' E hA hn I f he => bnd_elim (o := ev G F a ρ H) he fun va H1 e1 he => bnd_elim he fun vb H2 e2 he => obn_elim he fun r hr he =>
    Compare_chain (ha.run hA hn I f e1 fun x s₁ μ₁ I₁ X₁ r₁ _ f₁ => chain_link (hb.run hA hn I₁ f₁ e2 fun y s₂ μ₂ I₂ X₂ r₂ _ f₂ =>
      chain_rest gl hc hA hn (X₁.trans X₂) I₂ f₂ hr (r₁.mv X₂ I₁.noTup) r₂ he (fun s' _ _ p => wpAny_truthy_bool p) fun s₃ _ p => wpAny_truthy_bool (chain_last (mono p fun _ _ p => mono p fun _ _ p => p.elim fun _ p => p.2.2)))) hm
theorem tr_cmp2 (gl : Gl prog w base nm G mg mb) {o1 o2 : CmpOp} {a b c : PE} {x y z : Expr} {pos : Pos} (hm : lastMarks [o1, o2] [y, z] = false) (ha : EvOk prog w base os G F n names a x) (hb : EvOk prog w base os G F n names b y) (hc : EvOk prog w base os G F n names c z) :
    TrOk prog w base os G F n names (.cmp2 o1 o2 a b c) (.Compare x [o1, o2] [y, z] pos) :=
  fun A env s H μ ρ v bb H' E hA hn I f he hv => bnd_elim (o := ev G F a ρ H) he fun va H1 e1 he => bnd_elim he fun vb H2 e2 he => obn_elim he fun r hr he =>
    isTrue_chain (ha.run hA hn I f e1 fun x s₁ μ₁ I₁ X₁ r₁ _ f₁ => test_link (hb.run hA hn I₁ f₁ e2 fun y s₂ μ₂ I₂ X₂ r₂ _ f₂ =>
      chain_rest gl hc hA hn (X₁.trans X₂) I₂ f₂ hr (r₁.mv X₂ I₁.noTup) r₂ he (fun s' _ hq p => by
        subst hq
        cases hv
        exact wpAny_truthy_bool ⟨rfl, p⟩) fun s₃ _ p => wpAny_truthy_bool (test_last (mono p fun _ _ p => mono p fun t s' p => by
        obtain ⟨r', rfl, hq, p⟩ := p
        subst hq
        cases hv
        exact wpAny_truthy_bool ⟨rfl, p⟩)))) hm

/-! calls -/
theorem plain_any {es : List Expr} (hs : es.all notStar = true) (pos : Pos) (env : Env) : (backTo pos (starEach es env)).any (·.1) = false := by
  induction es with
  | nil => rfl
  | cons e es ih =>
    simp only [List.all_cons, Bool.and_eq_true] at hs
    rw [starEach_cons hs.1]
    show (false || (backTo pos (starEach es env)).any (·.1)) = false
    rw [ih hs.2]; rfl
theorem evalArgs_row {M : Model} {f : Value} {es : List Expr} {pos : Pos} {Q : Args → Shared → Prop} (h0 : es ≠ []) (hs : es.all notStar = true) (h : wpAny M A (spliced (backTo pos (starEach es env))) (fun vs s' => Q ⟨vs, []⟩ s') E s) :
    wpAny M A (evalArgs f true (backTo pos (starEach es env)) []) Q E s := by
  cases es with
  | nil => exact absurd rfl h0
  | cons e es =>
    simp only [List.all_cons, Bool.and_eq_true] at hs
    rw [starEach_cons hs.1] at h ⊢
    exact evalArgs_plain h
theorem ev_call (gl : Gl prog w base nm G mg mb) (hF : CallOk prog w base os nm mg n F) {k : Nat} {d : Str} {pes : PEs} {es : List Expr} {p pos : Pos} (hd : globOk names d = true) (hg : nm.fns[k]? = some d) (h0 : es ≠ []) (hs : es.all notStar = true)
    (h : EvsOk prog w base os G F n names pes es) : EvOk prog w base os G F n names (.call k pes) (.Call (.Name d p) es [] pos) :=
  fun A env s H μ ρ v H' E hA hn I f he => bnd_elim (o := evs G F pes ρ H) he fun vs H1 e1 he => by
    obtain ⟨a, o, fd, g1, g2, g3⟩ := gl.fn k d hg
    exact Call_ (glob_snd gl I f (hn ▸ hd) g1 (callWith_function (o := o) (fd := fd) (evalArgs_row h0 hs (h.run hA hn I f e1 fun xs s₁ μ₁ _ I₁ X₁ r₁ _ _ =>
      ⟨⟨I₁.old _ _ g2, g3⟩, mono (hF A hA k d a hg g1 s₁ H1 μ₁ vs xs v H' I₁ r₁ he E) fun z s₂ q => q.behind X₁⟩))))
theorem fn_snd (hA : Room n A) {b : Bi} {d : Str} {f : Value} (ht : fnTab b = some (d, f)) (I : Inv prog w base os s H μ) (e : fnV b a H = some (v, H')) (ra : Rel s.heap μ a x) :
    wpAny (model prog w) A (call f [x]) (Post prog w base os s.heap μ H' v true) E s := by
  cases b <;> cases ht
  · exact len_snd I e ra
  · exact abs_snd I e ra
  · exact sorted_snd I e ra
  · exact tuple_snd I e ra
  · exact list_snd I e ra
  · exact dict_snd hA.handled I e ra
  · exact str_snd I e ra
theorem ev_fn (gl : Gl prog w base nm G mg mb) {b : Bi} {d : Str} {f : Value} {a : PE} {y : Expr} {p pos : Pos} (ht : fnTab b = some (d, f)) (hd : globOk names d = true) (hs : notStar y = true) (ha : EvOk prog w base os G F n names a y) :
    EvOk prog w base os G F n names (.fn b a) (.Call (.Name d p) [y] [] pos) :=
  fun A env s H μ ρ v H' E hA hn I f' he => bnd_elim (o := ev G F a ρ H) he fun u H1 e1 he => by
    have hst := starEach_cons hs [] env
    have fin : wpAny (model prog w) A (spliced (backTo pos (starEach [y] env))) (fun vs s₁ => wpAny (model prog w) A (call f vs) (Post prog w base os s.heap μ H' v false) E s₁) E s :=
      args_cons (ha.run hA hn I f' e1 fun z s₁ μ₁ I₁ X₁ r₁ k₁ f₁ => args_nil (mono (fn_snd hA ht I₁ he r₁) fun z s₂ q => q.behind X₁)) hst
    refine Call_ (bi_snd gl I f' (hn ▸ hd) (fnTab_bi ht) ?_)
    have hpl : (backTo pos (starEach ([] : List Expr) env)).any (·.1) = false := rfl
    rcases fnTab_val ht with ⟨id, rfl⟩ | ⟨T, rfl⟩
    · exact PyProof.Rows.callWith_builtin1 fin hst hpl
    · exact PyProof.Rows.callWith_type1 fin hst hpl

/-! methods -/
noncomputable def RecP (s : Shared) (m : Me) (x : Value) : Prop := s.TypeIs x (meId m).1 ∧ ∀ q, x = .ref q → ∃ ob, s.heap.get? q = some ob ∧ ob.dict = none
theorem rec_snd {m : Me} {u : Unit} (I : Inv prog w base os s H μ) (h : recOk m a H = some u) (ra : Rel s.heap μ a x) : RecP s m x := by
  have hd : ∀ {m : Me}, (meId m).1 = "dict" → onD H a (fun _ _ => some ()) = some u → RecP s m x := fun e h => on_dct (P := fun _ x => RecP s _ x) I h ra fun j l p kvs _ _ hd _ _ _ => ⟨by rw [e]; exact hd.typeIs, hd.mapOf.noDict⟩
  have hl : ∀ {m : Me}, (meId m).1 = "list" → onL H a (fun _ _ => some ()) = some u → RecP s m x := fun e h => on_lst (P := fun _ x => RecP s _ x) I h ra fun j l p vs k _ _ h1 _ _ _ => ⟨by rw [e]; exact ⟨_, h1, rfl⟩, fun q e => by cases e; exact ⟨_, h1, rfl⟩⟩
  cases m with
  | get => exact hd rfl h
  | pop => exact hd rfl h
  | append => exact hl rfl h
  | pop0 => exact hl rfl h
  | pop1 => exact hd rfl h
  | count => exact ca_tup (P := fun _ x => RecP s _ x) h ra (fun l p vs k h1 _ _ _ => ⟨⟨_, h1, rfl⟩, fun q e => by cases e; exact ⟨_, h1, rfl⟩⟩) fun h => nomatch h
noncomputable def notCall : Expr → Bool
  | .Call .. => false
  | _ => true
theorem base_of {o : Expr} (h : notCall o = true) (nm : Str) (env : Env) : attributeBase o nm env (eval o env) = eval o env := by
  cases o <;> first | rfl | cases h
theorem few_of {es : List Expr} (hs : es.all notStar = true) (hl : es.length < 20) (pos : Pos) (env : Env) :
    ((backTo pos (starEach es env)).all (fun x => !x.1) && (backToKw pos (keywordEach [] env)).all (fun x => x.1.isSome)
      && decide (es.length + ([] : List Keyword).length + (if ([] : List Keyword).isEmpty then 0 else 1) < 30)) = true := by
  have h1 : (backTo pos (starEach es env)).all (fun x => !x.1) = true := by
    have := plain_any hs pos env
    rw [List.any_eq_false] at this
    rw [List.all_eq_true]
    intro x hx
    have := this x hx
    simpa using this
  rw [h1]
  simp only [List.length_nil, List.isEmpty_nil, if_true, Nat.add_zero, Bool.true_and]
  rw [show (backToKw pos (keywordEach [] env)).all (fun x => x.1.isSome) = true from rfl]
  simp; omega
theorem meCall {m : Me} {o : Expr} {apos pos : Pos} {es : List Expr} {Q : Value → Shared → Prop} (hb : notCall o = true) (hs : es.all notStar = true) (hl : es.length < 20) (hp : (apos.endLine == pos.line) = true)
    (h : wpAny (model prog w) A (eval o env) (fun ov s₁ => s₁.TypeIs ov (meId m).1 ∧ (∀ a, ov = .ref a → ∃ ob, s₁.heap.get? a = some ob ∧ ob.dict = none) ∧
      wpAny (model prog w) A (callWith pos (.builtin (meId m).2.2) [ov] (backTo pos (starEach es env)) []) Q E s₁) E s) :
    wpAny (model prog w) A (eval (.Call (.Attribute o (meId m).2.1 apos) es [] pos) env) Q E s := by
  cases m
  · exact wpAny_Call_method (T := "dict") (id := "dict.get") (base_of hb _ _) (few_of hs hl _ _) hp PySem.F.plainAttrs_dict PySem.F.slot_dict_get PySem.F.type_dict_get h
  · exact wpAny_Call_method (T := "dict") (id := "dict.pop") (base_of hb _ _) (few_of hs hl _ _) hp PySem.F.plainAttrs_dict PySem.F.slot_dict_pop PySem.F.type_dict_pop h
  · exact wpAny_Call_method (T := "list") (id := "list.append") (base_of hb _ _) (few_of hs hl _ _) hp PySem.F.plainAttrs_list PySem.F.slot_list_append PySem.F.type_list_append h
  · exact wpAny_Call_method (T := "list") (id := "list.pop") (base_of hb _ _) (few_of hs hl _ _) hp PySem.F.plainAttrs_list PySem.F.slot_list_pop PySem.F.type_list_pop h
  · exact wpAny_Call_method (T := "dict") (id := "dict.pop") (base_of hb _ _) (few_of hs hl _ _) hp PySem.F.plainAttrs_dict PySem.F.slot_dict_pop PySem.F.type_dict_pop h
  · exact wpAny_Call_method (T := "tuple") (id := "tuple.count") (base_of hb _ _) (few_of hs hl _ _) hp PySem.F.plainAttrs_tuple PySem.F.slot_tuple_count PySem.F.type_tuple_count h
theorem ev_meth (gl : Gl prog w base nm G mg mb) {m : Me} {o : PE} {pes : PEs} {x : Expr} {es : List Expr} {apos pos : Pos} (hb : notCall x = true) (h0 : es ≠ []) (hs : es.all notStar = true) (hl : es.length < 20) (hp : (apos.endLine == pos.line) = true)
    (ho : EvOk prog w base os G F n names o x) (h : EvsOk prog w base os G F n names pes es) : EvOk prog w base os G F n names (.meth m o pes) (.Call (.Attribute x (meId m).2.1 apos) es [] pos) :=
  fun A env s H μ ρ v H' E hA hn I f he => bnd_elim (o := ev G F o ρ H) he fun u H1 e1 he => obn_elim he fun _ hrec he => bnd_elim he fun vs H2 e2 he =>
    meCall hb hs hl hp (ho.run hA hn I f e1 fun z s₁ μ₁ I₁ X₁ r₁ k₁ f₁ =>
      have t := rec_snd I₁ hrec r₁
      ⟨t.1, t.2, callWith_builtin (plain_any hs _ _) (evalArgs_row h0 hs (h.run hA hn I₁ f₁ e2 fun xs s₂ μ₂ _ I₂ X₂ r₂ _ _ => mono (meth_snd gl.sys I₂ he (r₁.mv X₂ I₁.noTup) r₂) fun z s₃ q => q.behind (X₁.trans X₂)))⟩)
end
end Mine
/-! Snd13 -/
namespace Mine
open PySem PySem.Calls PyProof.Rows PySem.SeqAt PySem.W

section
variable {prog : Program} {w : World} {base : Heap} {os : OsState} {s s' : Shared} {H : AH} {μ wr : List Addr} {h h' h₀ : Heap} {env : Env} {ρ : Loc} {v : V} {y : Value}
theorem ObjR.mvw (k : Mv wr h h') (n : NoTup h wr) {a : Addr} {m : MO} (ha : a ∉ wr) (o : ObjR prog w h μ a m) : ObjR prog w h' μ a m := o.map (fun o q => k _ o ha q) fun r => r.mvw k n
theorem Inv.mvw (I : Inv prog w base os s H μ) (k : Mv wr s.heap s'.heap) (n : NoTup s.heap wr) (a : ∀ b ∈ wr, b ∉ μ) (f : ∀ b ∈ wr, base.get? b = none) (hg : s'.gens = s.gens := by rfl) (ho : s'.os = s.os := by rfl) : Inv prog w base os s' H μ :=
  ⟨I.len, I.nd, fun j p m h1 h2 => (I.obj j p m h1 h2).mvw k n fun q => a p q (List.mem_of_getElem? h1), fun b o e => k b o (fun q => by rw [f b q] at e; cases e) (I.old b o e), I.fresh, hg.trans I.gens, ho.trans I.os, I.big⟩
theorem Ext.mvw {μ₀ F : List Addr} (x : Ext h₀ h μ₀ μ F) (k : Mv wr h h') (f : ∀ b ∈ wr, h₀.get? b = none) : Ext h₀ h' μ₀ μ F := by
  refine ⟨x.pre, fun a o e => ?_, fun a o e h1 h2 => ?_⟩
  · obtain ⟨o', e'⟩ := x.live a o e
    exact ⟨o', k a o' (fun q => by rw [f a q] at e; cases e) e'⟩
  · exact k a o (fun q => by rw [f a q] at e; cases e) (x.keep a o e h1 h2)
theorem FrameOk.mvw (f : FrameOk base h μ env ρ) (k : Mv wr h h') (n : NoTup h wr) (a : ∀ b ∈ wr, b ∉ own env) : FrameOk base h' μ env ρ := by
  have aL : env.locals ∉ wr := fun q => a _ q (.head _)
  have aC : ∀ x c, (x, c) ∈ env.cells → c ∉ wr := fun x c hm q => a _ q (.tail _ (List.mem_map.mpr ⟨(x, c), hm, rfl⟩))
  refine ⟨f.kind, f.glob, f.bi, f.len, f.nd, ?_, fun i y kd h1 h2 => ?_, f.apart, fun x c hm => ?_, f.out⟩
  · obtain ⟨m, hn, hv⟩ := f.ns
    exact ⟨m, hn.at' fun o e => k _ _ aL e, fun i y v h1 h2 => let ⟨z, h3, h4⟩ := hv i y v h1 h2; ⟨z, h3, h4.mvw k n⟩⟩
  · obtain ⟨c, ov, h3, ⟨o, ho, hd⟩, h5⟩ := f.cell i y kd h1 h2
    exact ⟨c, ov, h3, ⟨o, k _ _ (aC _ _ (mem_of_lookup h3)) ho, hd⟩, fun v hv => let ⟨z, h6, h7⟩ := h5 v hv; ⟨z, h6, h7.mvw k n⟩⟩
  · obtain ⟨a1, a2, a3, ov, o, ho, hd⟩ := f.away x c hm
    exact ⟨a1, a2, a3, ov, o, k _ _ (aC _ _ hm) ho, hd⟩
/-- less is claimed -/
theorem FrameOk.less {ρ' : Loc} (f : FrameOk base h μ env ρ) (hl : ρ'.length = ρ.length) (le : ∀ (i : Nat) (v : V), ρ'[i]? = some (some v) → ρ[i]? = some (some v)) : FrameOk base h μ env ρ' := by
  refine ⟨f.kind, f.glob, f.bi, hl.trans f.len, f.nd, ?_, fun i y kd h1 h2 => ?_, f.apart, f.away, f.out⟩
  · obtain ⟨m, hn, hv⟩ := f.ns
    exact ⟨m, hn, fun i y v h1 h2 => hv i y v h1 (le i v h2)⟩
  · obtain ⟨c, ov, h3, h4, h5⟩ := f.cell i y kd h1 h2
    exact ⟨c, ov, h3, h4, fun v hv => h5 v (le i v hv)⟩
theorem FrameOk.live (f : FrameOk base h μ env ρ) : ∀ b ∈ own env, ∃ o, h.get? b = some o := by
  intro b hb
  rcases List.mem_cons.mp hb with rfl | hb
  · obtain ⟨m, ⟨o, es, ep, ho, _⟩, _⟩ := f.ns
    exact ⟨o, ho⟩
  · obtain ⟨⟨x, c⟩, hm, rfl⟩ := List.mem_map.mp hb
    obtain ⟨_, _, _, ov, o, ho, _⟩ := f.away x c hm
    exact ⟨o, ho⟩
theorem nd_names {names : List (Str × NameKind)} (hn : (names.map (·.1)).Nodup) {i j : Nat} {x : Str} {k k' : NameKind} (h1 : names[i]? = some (x, k)) (h2 : names[j]? = some (x, k')) : i = j :=
  idx_uniq hn (a := x) (by rw [List.getElem?_map, h1]; rfl) (by rw [List.getElem?_map, h2]; rfl)
theorem set_get {ρ : Loc} {i j : Nat} {v v' : V} (h : (ρ.set i (some v))[j]? = some (some v')) : (j = i ∧ v' = v) ∨ (j ≠ i ∧ ρ[j]? = some (some v')) := by
  by_cases e : j = i
  · subst e
    have hl : j < ρ.length := by have := lt_of_some h; simpa using this
    rw [List.getElem?_set_self hl] at h
    cases h; exact .inl ⟨rfl, rfl⟩
  · rw [List.getElem?_set_ne (Ne.symm e)] at h
    exact .inr ⟨e, h⟩
/-- a name is bound -/
theorem FrameOk.setL (f : FrameOk base h μ env ρ) {i : Nat} {x : Str} (hn : env.scope.names[i]? = some (x, .local)) {m : Str → Option Value} (hm : h.Ns env.locals m)
    (hmv : ∀ (i : Nat) (x : Str) (v : V), env.scope.names[i]? = some (x, .local) → ρ[i]? = some (some v) → ∃ y, m x = some y ∧ Rel h μ v y)
    (hm' : h'.Ns env.locals (fun z => if z = x then some y else m z)) (sb : Heap.SameBut env.locals h h') (r : Rel h μ v y) : FrameOk base h' μ env (ρ.set i (some v)) := by
  have nt : NoTup h [env.locals] := fun a ha => f.noTup a (by have : a = env.locals := by simpa using ha
                                                              rw [this]; exact .head _)
  have k := Mv.sameBut sb
  refine ⟨f.kind, f.glob, f.bi, by simpa using f.len, f.nd, ⟨_, hm', fun j z v' h1 h2 => ?_⟩, fun j z kd h1 h2 => ?_, f.apart, fun z c hc => ?_, f.out⟩
  · rcases set_get h2 with ⟨rfl, rfl⟩ | ⟨hne, h2⟩
    · rw [hn] at h1; cases h1
      exact ⟨y, by simp, r.mvw k nt⟩
    · obtain ⟨u, h3, h4⟩ := hmv j z v' h1 h2
      refine ⟨u, ?_, h4.mvw k nt⟩
      rw [if_neg (fun e => by subst e; exact hne (nd_names f.nd h1 hn))]
      exact h3
  · obtain ⟨c, ov, h3, ⟨o, ho, hd⟩, h5⟩ := f.cell j z kd h1 h2
    have hcl := (f.away z c (mem_of_lookup h3)).1
    refine ⟨c, ov, h3, ⟨o, k _ _ (by simpa using hcl) ho, hd⟩, fun v' hv' => ?_⟩
    rcases set_get hv' with ⟨rfl, rfl⟩ | ⟨hne, hv'⟩
    · rw [hn] at h1; cases h1; rcases h2 with h2 | h2 <;> cases h2
    · obtain ⟨u, h6, h7⟩ := h5 v' hv'
      exact ⟨u, h6, h7.mvw k nt⟩
  · obtain ⟨a1, a2, a3, ov, o, ho, hd⟩ := f.away z c hc
    exact ⟨a1, a2, a3, ov, o, k _ _ (by simpa using a1) ho, hd⟩
theorem FrameOk.setC (f : FrameOk base h μ env ρ) {i : Nat} {x : Str} {kd : NameKind} (hn : env.scope.names[i]? = some (x, kd)) (hkd : kd = .cell ∨ kd = .free) {c : Addr} (hc : env.cells.lookup x = some c)
    (hc' : h'.IsCell c (some y)) (sb : Heap.SameBut c h h') (r : Rel h μ v y) : FrameOk base h' μ env (ρ.set i (some v)) := by
  have cm := mem_of_lookup hc
  have nt : NoTup h [c] := fun a ha => f.noTup a (by have : a = c := by simpa using ha
                                                     rw [this]; exact .tail _ (List.mem_map.mpr ⟨(x, c), cm, rfl⟩))
  have k := Mv.sameBut sb
  obtain ⟨m, hm, hmv⟩ := f.ns
  have hcl := (f.away x c cm).1
  refine ⟨f.kind, f.glob, f.bi, by simpa using f.len, f.nd, ⟨m, hm.at' fun o e => k _ _ (by simpa using hcl.symm) e, fun j z v' h1 h2 => ?_⟩, fun j z kd' h1 h2 => ?_, f.apart, fun z c' hz => ?_, f.out⟩
  · rcases set_get h2 with ⟨rfl, rfl⟩ | ⟨hne, h2⟩
    · rw [hn] at h1; cases h1; rcases hkd with h2 | h2 <;> cases h2
    · obtain ⟨u, h3, h4⟩ := hmv j z v' h1 h2
      exact ⟨u, h3, h4.mvw k nt⟩
  · by_cases hji : j = i
    · subst hji
      rw [hn] at h1; cases h1
      refine ⟨c, some y, hc, hc', fun v' hv' => ?_⟩
      rcases set_get hv' with ⟨_, rfl⟩ | ⟨hne, _⟩
      · exact ⟨y, rfl, r.mvw k nt⟩
      · exact absurd rfl hne
    · obtain ⟨c', ov, h3, ⟨o, ho, hd⟩, h5⟩ := f.cell j z kd' h1 h2
      have hcc : c' ≠ c := fun e => by
        subst e
        have := name_of_addr f.apart (mem_of_lookup h3) cm
        subst this
        exact hji (nd_names f.nd h1 hn)
      refine ⟨c', ov, h3, ⟨o, k _ _ (by simpa using hcc) ho, hd⟩, fun v' hv' => ?_⟩
      rcases set_get hv' with ⟨rfl, _⟩ | ⟨_, hv'⟩
      · exact absurd rfl hji
      · obtain ⟨u, h6, h7⟩ := h5 v' hv'
        exact ⟨u, h6, h7.mvw k nt⟩
  · obtain ⟨a1, a2, a3, ov, o, ho, hd⟩ := f.away z c' hz
    by_cases hcc : c' = c
    · subst hcc; exact ⟨a1, a2, a3, some y, hc'⟩
    · exact ⟨a1, a2, a3, ov, o, k _ _ (by simpa using hcc) ho, hd⟩
end

/-! storing under a name -/
/-- what may be written: the locals alone, or the cells too -/
noncomputable def wrOf (loc : Bool) (env : Env) : List Addr := if loc then [env.locals] else own env
theorem wrOf_sub (loc : Bool) (env : Env) : ∀ b ∈ wrOf loc env, b ∈ own env := by
  intro b hb
  cases loc
  · exact hb
  · have : b = env.locals := by simpa [wrOf] using hb
    rw [this]; exact .head _
theorem wrOf_loc (loc : Bool) (env : Env) : env.locals ∈ wrOf loc env := by
  cases loc
  · exact .head _
  · exact .head _
/-- what a store leaves -/
structure Stp (base : Heap) (s : Shared) (μ : List Addr) (env : Env) (loc : Bool) (ρ' : Loc) (s' : Shared) : Prop where
  mv : Mv (wrOf loc env) s.heap s'.heap
  lv : ∀ b ∈ own env, ∃ o, s'.heap.get? b = some o
  fr : FrameOk base s'.heap μ env ρ'
  gens : s'.gens = s.gens
  os : s'.os = s.os
section
variable {prog : Program} {w : World} {base : Heap} {os : OsState} {A : Around} {E : Value → Shared → Prop} {s s' : Shared} {H : AH} {μ : List Addr} {env : Env} {ρ : Loc} {v : V} {y : Value} {loc : Bool}
theorem Stp.of {ρ' : Loc} (mv : Mv (wrOf loc env) s.heap s'.heap) (fr : FrameOk base s'.heap μ env ρ') (hg : s'.gens = s.gens := by rfl) (ho : s'.os = s.os := by rfl) : Stp base s μ env loc ρ' s' := ⟨mv, fr.live, fr, hg, ho⟩
theorem Stp.inv {ρ' : Loc} (t : Stp base s μ env loc ρ' s') (f : FrameOk base s.heap μ env ρ) (I : Inv prog w base os s H μ) : Inv prog w base os s' H μ := I.mvw t.mv (fun a ha => f.noTup a (wrOf_sub _ _ a ha)) (fun a ha => f.apartμ a (wrOf_sub _ _ a ha)) (fun a ha => f.fresh a (wrOf_sub _ _ a ha)) t.gens t.os
theorem Stp.trans {ρ' ρ'' : Loc} {s'' : Shared} (t : Stp base s μ env loc ρ' s') (u : Stp base s' μ env loc ρ'' s'') : Stp base s μ env loc ρ'' s'' := ⟨t.mv.trans u.mv, u.lv, u.fr, u.gens.trans t.gens, u.os.trans t.os⟩
noncomputable def stOk (loc : Bool) (names : Nms) (i : Nat) (x : Str) : Bool :=
  (obn names[i]? fun p => some (decide (x = p.1) && (decide (names.lookup x = some p.2) && (decide (p.2 = .local) || (!loc && decide (p.2 = .cell)))))).getD false
theorem store_name (f : FrameOk base s.heap μ env ρ) {i : Nat} {x : Str} (hs : stOk loc env.scope.names i x = true) (r : Rel s.heap μ v y) :
    wpAny (model prog w) A (storeName env x y) (fun _ s' => Stp base s μ env loc (ρ.set i (some v)) s') E s :=
  obd_elim hs fun p hn hs => dec2k hs fun hx hs => dec2k hs fun h1 hs => by
    obtain ⟨z, k⟩ := p
    have hx : x = z := hx
    subst hx
    refine or2 hs (fun h2 => ?_) fun h2 => and2k h2 fun hloc h2 => ?_
    · cases of_decide_eq_true h2
      obtain ⟨m, hm, hmv⟩ := f.ns
      exact wpAny_storeName_local h1 hm (fun h' hm' sb => Stp.of ((Mv.sameBut sb).weaken fun p hp => List.mem_singleton.mp hp ▸ wrOf_loc _ _) (f.setL hn hm hmv hm' sb r)) (by rw [f.kind]; rfl)
    · cases of_decide_eq_true h2
      obtain ⟨c, ov, h3, h4, _⟩ := f.cell i x _ hn (.inl rfl)
      refine wpAny_storeName_cell f.kind h1 h3 h4 fun h' hc' sb => ?_
      cases loc with
      | true => exact no hloc
      | false => exact Stp.of ((Mv.sameBut sb).weaken fun p hp => List.mem_singleton.mp hp ▸ .tail _ (List.mem_map.mpr ⟨(x, c), mem_of_lookup h3, rfl⟩)) (f.setC hn (.inl rfl) h3 hc' sb r)
theorem bind_name (f : FrameOk base s.heap μ env ρ) {i : Nat} {x : Str} (hs : stOk loc env.scope.names i x = true) (r : Rel s.heap μ v y) :
    wpAny (model prog w) A (bindName env x y) (fun _ s' => Stp base s μ env loc (ρ.set i (some v)) s') E s := wpAny_bindName (store_name f hs r)

/-! targets -/
noncomputable def chkMany (loc : Bool) (names : Nms) : List Nat → List Expr → Bool
  | [], es => es.isEmpty
  | i :: is, es => onC es fun e r => (isN e fun x _ => stOk loc names i x) && chkMany loc names is r
noncomputable def chkT (loc : Bool) (names : Nms) (t : Tgt) (e : Expr) : Bool := match t with
  | .one i => isN e fun x _ => stOk loc names i x
  | .many is => isTup e fun es _ _ => chkMany loc names is es
theorem order_names (is : List Nat) : ∀ {es : List Expr} {l : List V} {xs : List Value} {s : Shared} {ρ : Loc}, chkMany loc env.scope.names is es = true → FrameOk base s.heap μ env ρ → Rels s.heap μ l xs → is.length = l.length →
    wpAny (model prog w) A (assignInOrder ((assignEach es env).map (·.2)) xs) (fun _ s' => Stp base s μ env loc ((is.zip l).foldl (fun r p => r.set p.1 (some p.2)) ρ) s') E s := by
  induction is with
  | nil =>
    intro es l xs s ρ hc f rs hl
    cases l with
    | cons _ _ => cases hl
    | nil => exact emp (P := fun es => wpAny (model prog w) A (assignInOrder ((assignEach es env).map (·.2)) xs) (fun _ s' => Stp base s μ env loc ρ s') E s) hc (rs.nil_inv (P := fun xs => wpAny (model prog w) A (assignInOrder ((assignEach [] env).map (·.2)) xs) (fun _ s' => Stp base s μ env loc ρ s') E s) (wpAny_pure (Stp.of (Mv.refl _ _) f)))
  | cons i is ih =>
    intro es l xs s ρ hc f rs hl
    cases l with
    | nil => cases hl
    | cons v l =>
      cases rs with | @cons _ y _ ys a r =>
      refine onC_elim (P := fun es => wpAny (model prog w) A (assignInOrder ((assignEach es env).map (·.2)) (y :: ys)) (fun _ s' => Stp base s μ env loc ((is.zip l).foldl (fun r p => r.set p.1 (some p.2)) (ρ.set i (some v))) s') E s) hc fun e es hc => and2k hc fun h1 h2 =>
        isN_elim (P := fun e => wpAny (model prog w) A (assignInOrder ((assignEach (e :: es) env).map (·.2)) (y :: ys)) (fun _ s' => Stp base s μ env loc ((is.zip l).foldl (fun r p => r.set p.1 (some p.2)) (ρ.set i (some v))) s') E s) h1 fun x p h1 => ?_
      show wpAny _ _ (holding ys (assign (.Name x p) env y) >>= fun _ => assignInOrder ((assignEach es env).map (·.2)) ys) _ _ s
      exact wpAny_bind (wpAny_holding (PySem.wpAny_assign_Name (mono (store_name f h1 a) fun _ s' t => mono (ih h2 t.fr (r.mvw t.mv fun a ha => f.noTup a (wrOf_sub _ _ a ha)) (Nat.succ.inj hl)) fun _ s'' u => t.trans u)))
theorem each_len (is : List Nat) : ∀ {es : List Expr} {names : Nms}, chkMany loc names is es = true → (assignEach es env).length = is.length ∧ (assignEach es env).findIdx? (·.1) = none := by
  induction is with
  | nil => intro es names hc; exact emp (P := fun es => (assignEach es env).length = 0 ∧ (assignEach es env).findIdx? (·.1) = none) hc ⟨rfl, rfl⟩
  | cons i is ih =>
    intro es names hc
    refine onC_elim (P := fun es => (assignEach es env).length = is.length + 1 ∧ (assignEach es env).findIdx? (·.1) = none) hc fun e es hc => and2k hc fun h1 h2 =>
      isN_elim (P := fun e => (assignEach (e :: es) env).length = is.length + 1 ∧ (assignEach (e :: es) env).findIdx? (·.1) = none) h1 fun x p _ => ⟨congrArg (· + 1) (ih h2).1, ?_⟩
    show List.findIdx? _ ((false, assign (.Name x p) env) :: assignEach es env) = none
    rw [List.findIdx?_cons, (ih h2).2]
    rfl
theorem asg_snd (hh : A.handled = none) (f : FrameOk base s.heap μ env ρ) {t : Tgt} {e : Expr} {ρ' : Loc} (hc : chkT loc env.scope.names t e = true) (hp : putV t v ρ = some ρ') (r : Rel s.heap μ v y) :
    wpAny (model prog w) A (assign e env y) (fun _ s' => ∃ s₁, Keep s.heap s₁.heap ∧ s₁.gens = s.gens ∧ s₁.os = s.os ∧ Stp base s₁ μ env loc ρ' s') E s := by
  cases t with
  | one i =>
    exact isN_elim (P := fun e => wpAny (model prog w) A (assign e env y) (fun _ s' => ∃ s₁, Keep s.heap s₁.heap ∧ s₁.gens = s.gens ∧ s₁.os = s.os ∧ Stp base s₁ μ env loc ρ' s') E s) hc fun x p hc => gua_elim hp fun _ hp =>
      Option.some.inj hp ▸ PySem.wpAny_assign_Name (mono (store_name f hc r) fun _ s' t => ⟨s, fun _ _ e => e, rfl, rfl, t⟩)
  | many is =>
    refine isTup_elim (P := fun e => wpAny (model prog w) A (assign e env y) (fun _ s' => ∃ s₁, Keep s.heap s₁.heap ∧ s₁.gens = s.gens ∧ s₁.os = s.os ∧ Stp base s₁ μ env loc ρ' s') E s) hc fun es k p hc =>
      ca_tup (P := fun _ y => wpAny (model prog w) A (assign (.Tuple es k p) env y) (fun _ s' => ∃ s₁, Keep s.heap s₁.heap ∧ s₁.gens = s.gens ∧ s₁.os = s.os ∧ Stp base s₁ μ env loc ρ' s') E s) hp r (fun l q vs m hq rs hlen hp => gud_elim hp fun hl hp => ?_) fun q => nomatch q
    have e12 := each_len (env := env) is hc
    refine PySem.wpAny_assign_Tuple hh ⟨_, hq, rfl, m, rfl⟩ (by rw [e12.1, hl.1, List.size_toArray, rs.length]) e12.2 fun h' hx => ?_
    have K : Keep s.heap h' := fun b o e => hx b o (Nat.ne_of_lt (Heap.lt_size e)) e
    have f' := f.mvw (Mv.of_keep (wr := []) K) noF (fun _ q => nomatch q)
    exact Option.some.inj hp ▸ mono (order_names (s := { s with heap := h' }) is hc f' (rs.mvw (Mv.of_keep (wr := []) K) noF) hl.1) fun _ s' t => ⟨{ s with heap := h' }, K, rfl, rfl, t⟩
end
end Mine
/-! Snd14 -/
namespace Mine
open PySem PySem.Calls PyProof.Rows PySem.SeqAt PySem.W

noncomputable abbrev nxI (items : List V) : AH → Nat → Option (Option V) := fun _ i => some items[i]?
noncomputable abbrev nxL (j : Nat) : AH → Nat → Option (Option V) := fun H i => obn (lst H j) fun l => some l[i]?
/-- items drawn one by one: what the interpreter draws, the iterator draws -/
structure ItOk (prog : Program) (w : World) (A : Around) (base : Heap) (os : OsState) (target : Expr) (it : Addr) (wl wr : List Addr) (nx : AH → Nat → Option (Option V)) (St : Nat → Heap → List Addr → Prop) : Prop where
  sub : ∀ b ∈ wr, b ∈ wl
  frame : ∀ (i : Nat) (h h' : Heap) (μ μ' : List Addr), St i h μ → (∀ b ∈ wl, ∀ o, h.get? b = some o → h'.get? b = some o) → (∀ v y, Rel h μ v y → Rel h' μ' v y) → (∀ (j : Nat) (a : Addr), μ[j]? = some a → μ'[j]? = some a) → St i h' μ'
  nt : ∀ (i : Nat) (h : Heap) (μ : List Addr), St i h μ → NoTup h wr
  live : ∀ (i : Nat) (h : Heap) (μ : List Addr), St i h μ → ∀ b ∈ wl, ∃ o, h.get? b = some o
  self : ∀ (i : Nat) (s : Shared) (μ : List Addr) (Q : Value → Shared → Prop) (E : Value → Shared → Prop), St i s.heap μ → Q (.ref it) s → wpAny (model prog w) A (pyIter (.ref it)) Q E s
  item : ∀ (i : Nat) (s : Shared) (H : AH) (μ : List Addr) (v : V) (Q : Value → Shared → Prop) (E : Value → Shared → Prop), Inv prog w base os s H μ → (∀ b ∈ wr, b ∉ μ) → St i s.heap μ → nx H i = some (some v) →
    (∀ y s₂, Mv wr s.heap s₂.heap → s₂.gens = s.gens → s₂.os = s.os → St (i + 1) s₂.heap μ → Rel s₂.heap μ v y → Q y s₂) →
    wpAny (model prog w) A (pyNext (.ref it)) (fun r s₁ => ∃ y, r = some y ∧ wpAny (model prog w) A (letOwnedTupleGo target (.ref it) y) (fun _ s₂ => Q y s₂) E s₁) E s
  done : ∀ (i : Nat) (s : Shared) (H : AH) (μ : List Addr) (Q : Shared → Prop) (E : Value → Shared → Prop), Inv prog w base os s H μ → St i s.heap μ → nx H i = some none →
    (∀ s₂, Mv wr s.heap s₂.heap → s₂.gens = s.gens → s₂.os = s.os → Q s₂) → wpAny (model prog w) A (pyNext (.ref it)) (fun r s₁ => r = none ∧ Q s₁) E s

noncomputable def owned : List String := ["enumerate", "zip", "dict_itemiterator", "dict_reverseitemiterator", "odict_iterator", "itertools.zip_longest", "itertools.pairwise"]
section
variable {prog : Program} {w : World} {A : Around} {E : Value → Shared → Prop} {base : Heap} {os : OsState} {s : Shared} {H : AH} {μ : List Addr} {Q : Unit → Shared → Prop}
theorem letOwned_other {target : Expr} {it : Addr} {y : Value} {o : Obj} {T : String} (ho : s.heap.get? it = some o) (hc : o.cls = .type T) (hT : owned.contains T = false) (h : Q () s) :
    wpAny (model prog w) A (letOwnedTupleGo target (.ref it) y) Q E s := by
  have key : ∀ a : Addr, wpAny (model prog w) A (do
      let o ← load it
      match o.cls, o.data with
      | .type n, .fields vs =>
        if owned.contains n && vs[0]? == some (rawInt a) then
          rule "for.unpacks-the-owned-tuple"
          updateField it 0 .none
      | _, _ => pure ()) Q E s := fun a => by
    refine wpAny_bind (wpAny_load ho ?_)
    rw [hc]
    cases o.data <;> first | exact wpAny_pure h | skip
    dsimp only
    rw [hT]
    simp only [Bool.false_and, Bool.false_eq_true, if_false]
    exact wpAny_pure h
  unfold letOwnedTupleGo
  cases target <;> first
    | exact wpAny_pure h
    | (cases y <;> first
        | exact wpAny_pure h
        | exact key _)
theorem Rels.gone {h : Heap} {l : List V} {vs : List Value} (rs : Rels h μ l vs) {i : Nat} (e : l[i]? = none) : vs[i]? = none := List.getElem?_eq_none (rs.length ▸ List.getElem?_eq_none_iff.mp e)
theorem Mv.extBut {a : Addr} {h h' : Heap} (x : Heap.ExtBut a h h') : Mv [a] h h' := fun b o n e => x b o (by simpa using n) e
theorem nt_one {h : Heap} {a : Addr} {o : Obj} (ho : h.get? a = some o) (hc : o.cls ≠ .type "tuple") : NoTup h [a] := fun b hb vs n e => by
  have : b = a := by simpa using hb
  subst this
  rw [ho] at e; cases e; exact hc rfl

theorem it_tuple (hh : A.handled = none) (target : Expr) (it : Addr) (l : List V) : ItOk prog w A base os target it [it] [it] (nxI l) (fun i h μ => ∃ t, h.IsTupleIter it t i ∧ Rel h μ (.tup l) (.ref t)) where
  sub := fun _ h => h
  frame := fun i h h' μ μ' st k kr _ => by
    obtain ⟨t, ⟨o, ho, r⟩, rt⟩ := st
    exact ⟨t, ⟨o, k it (.head _) o ho, r⟩, kr _ _ rt⟩
  nt := fun i h μ st => by
    obtain ⟨t, ⟨o, ho, hc, _⟩, _⟩ := st
    exact nt_one ho (by rw [hc]; decide)
  live := fun i h μ st b hb => by
    obtain ⟨t, ⟨o, ho, _⟩, _⟩ := st
    exact ⟨o, List.mem_singleton.mp hb ▸ ho⟩
  self := fun i s μ Q E st h => by
    obtain ⟨t, hit, _⟩ := st
    exact wpAny_pyIter_tupleiter hit h
  item := fun i s H μ v Q E I hd st e hQ => by
    obtain ⟨t, hit, rt⟩ := st
    obtain ⟨p, vs, n, hp, h1, rs, hlen⟩ := rt.inj_tup
    cases hp
    obtain ⟨z, hz, rz⟩ := rs.get (Option.some.inj e)
    refine wpAny_pyNext_tuple_item hit ⟨_, h1, rfl, n, rfl⟩ (x := z) ((List.getElem?_toArray ..).trans hz) fun h' hit' sb => ⟨z, rfl, ?_⟩
    obtain ⟨o', ho', hc', _⟩ := id hit'
    obtain ⟨o, ho, hc, _⟩ := id hit
    have nt : NoTup s.heap [it] := nt_one ho (by rw [hc]; decide)
    exact letOwned_other (s := { s with heap := h' }) ho' hc' (by decide) (hQ z { s with heap := h' } (Mv.sameBut sb) rfl rfl ⟨t, hit', rt.mvw (Mv.sameBut sb) nt⟩ (rz.mvw (Mv.sameBut sb) nt))
  done := fun i s H μ Q E I st e hQ => by
    obtain ⟨t, hit, rt⟩ := st
    obtain ⟨p, vs, n, hp, h1, rs, hlen⟩ := rt.inj_tup
    cases hp
    exact wpAny_pyNext_tuple_end hh hit ⟨_, h1, rfl, n, rfl⟩ ((List.getElem?_toArray ..).trans (rs.gone (Option.some.inj e))) fun h' x => ⟨rfl, hQ { s with heap := h' } (Mv.extBut x) rfl rfl⟩

theorem it_list (hh : A.handled = none) (target : Expr) (it : Addr) (j : Nat) :
    ItOk prog w A base os target it [it] [it] (nxL j) (fun i h μ => ∃ a, h.IsListIter it a i ∧ μ[j]? = some a) where
  sub := fun _ h => h
  frame := fun i h h' μ μ' st k _ km => by
    obtain ⟨t, ⟨o, ho, r⟩, rt⟩ := st
    exact ⟨t, ⟨o, k it (.head _) o ho, r⟩, km _ _ rt⟩
  nt := fun i h μ st => by
    obtain ⟨t, ⟨o, ho, hc, _⟩, _⟩ := st
    exact nt_one ho (by rw [hc]; decide)
  live := fun i h μ st b hb => by
    obtain ⟨t, ⟨o, ho, _⟩, _⟩ := st
    exact ⟨o, List.mem_singleton.mp hb ▸ ho⟩
  self := fun i s μ Q E st h => by
    obtain ⟨t, hit, _⟩ := st
    exact wpAny_pyIter_listiter hit h
  item := fun i s H μ v Q E I hd st e hQ => by
    obtain ⟨t, hit, ht⟩ := st
    refine obn_elim e fun l hl e => ?_
    obtain ⟨vs, n, h1, rs, hlen⟩ := I.list ht (lst_eq hl)
    obtain ⟨z, hz, rz⟩ := rs.get (Option.some.inj e)
    refine wpAny_pyNext_list_item hit ⟨_, h1, rfl, n, rfl⟩ (x := z) ((List.getElem?_toArray ..).trans hz) fun h' hit' sb => ⟨z, rfl, ?_⟩
    obtain ⟨o', ho', hc', _⟩ := id hit'
    obtain ⟨o, ho, hc, _⟩ := id hit
    have nt : NoTup s.heap [it] := nt_one ho (by rw [hc]; decide)
    exact letOwned_other (s := { s with heap := h' }) ho' hc' (by decide) (hQ z { s with heap := h' } (Mv.sameBut sb) rfl rfl ⟨t, hit', ht⟩ (rz.mvw (Mv.sameBut sb) nt))
  done := fun i s H μ Q E I st e hQ => by
    obtain ⟨t, hit, ht⟩ := st
    refine obn_elim e fun l hl e => ?_
    obtain ⟨vs, n, h1, rs, hlen⟩ := I.list ht (lst_eq hl)
    exact wpAny_pyNext_list_end hh hit ⟨_, h1, rfl, n, rfl⟩ ((List.getElem?_toArray ..).trans (rs.gone (Option.some.inj e))) fun h' x => ⟨rfl, hQ { s with heap := h' } (Mv.extBut x) rfl rfl⟩

theorem rangeI_get (n : Int) (i : Nat) : (rangeI n)[i]? = if i < n.toNat then some (.int (i : Int)) else none := by
  unfold rangeI
  rw [List.getElem?_map]
  by_cases h : i < n.toNat
  · rw [List.getElem?_range h, if_pos h]; rfl
  · rw [if_neg h, List.getElem?_eq_none (by simpa using h)]; rfl
theorem it_range (hh : A.handled = none) (target : Expr) (it : Addr) (n : Int) :
    ItOk prog w A base os target it [it] [it] (nxI (rangeI n)) (fun i h _ => IsRangeIter h it (i : Int) ((n.toNat : Int) - i) 1) where
  sub := fun _ h => h
  frame := fun i h h' μ μ' st k _ _ => k it (.head _) _ st
  nt := fun i h μ st => nt_one st (by show Value.type "range_iterator" ≠ Value.type "tuple"; decide)
  live := fun i h μ st b hb => by
    have : b = it := by simpa using hb
    exact ⟨_, this ▸ st⟩
  self := fun i s μ Q E st h => wpAny_pyIter_rangeiter st h
  item := fun i s H μ v Q E I hd st e hQ => by
    replace e : (rangeI n)[i]? = _ := Option.some.inj e
    rw [rangeI_get] at e
    split at e
    · rename_i hi
      first | apply some2 e | cases e
      refine wpAny_pyNext_range_item st (by omega) fun h' hit' sb => ⟨_, rfl, ?_⟩
      refine letOwned_other (s := { s with heap := h', toks := s.toks + 1 }) hit' rfl (by decide) (hQ _ { s with heap := h', toks := s.toks + 1 } (Mv.sameBut sb) rfl rfl ?_ (.int _ _))
      have e1 : ((i + 1 : Nat) : Int) = (i : Int) + 1 := by omega
      have e2 : (n.toNat : Int) - ((i + 1 : Nat) : Int) = (n.toNat : Int) - i - 1 := by omega
      rw [e1] at *
      first
        | exact e2 ▸ hit'
        | (show IsRangeIter h' it ((i : Int) + 1) ((n.toNat : Int) - ((i : Int) + 1)) 1
           have e3 : (n.toNat : Int) - ((i : Int) + 1) = (n.toNat : Int) - i - 1 := by omega
           rw [e3]; exact hit')
    · cases e
  done := fun i s H μ Q E I st e hQ => by
    replace e : (rangeI n)[i]? = _ := Option.some.inj e
    rw [rangeI_get] at e
    split at e
    · cases e
    · rename_i hi
      exact wpAny_pyNext_range_end hh st (by omega) fun h' x => ⟨rfl, hQ { s with heap := h' } (Mv.extBut x) rfl rfl⟩

theorem RelD.getI {h : Heap} {l : List (Key × V)} {kvs : List (Key × Value)} (d : RelD h μ l kvs) {i : Nat} {p : Key × V} (e : l[i]? = some p) : ∃ y, kvs[i]? = some (p.1, y) ∧ Rel h μ p.2 y := by
  induction d generalizing i with
  | nil => simp at e
  | cons a _ ih =>
    cases i with
    | zero => simp at e; subst e; exact ⟨_, by simp, a⟩
    | succ i =>
      obtain ⟨y, h1, h2⟩ := ih (i := i) (by simpa using e)
      exact ⟨y, by simpa using h1, h2⟩
theorem it_dict (hh : A.handled = none) (target : Expr) (it d : Addr) (hne : d ≠ it) (l : List (Key × V)) (kvs : List (Key × Value)) (ep : Nat) (hk : kvs.map (·.1) = l.map (·.1)) :
    ItOk prog w A base os target it [it, d] [it] (nxI (l.map fun p => keyV p.1)) (fun i h _ => h.IsKeyIter it d i kvs.length ep ∧ h.DictAt (kn prog w) d kvs ep) where
  sub := fun _ h => by have := List.mem_singleton.mp h; subst this; exact .head _
  frame := fun i h h' μ μ' st k _ _ => ⟨st.1.at fun o e => k it (.head _) o e, st.2.at' fun o e => k d (.tail _ (.head _)) o e⟩
  nt := fun i h μ st => by
    obtain ⟨⟨o, ho, hc, _⟩, _⟩ := st
    exact nt_one ho (by rw [hc]; decide)
  live := fun i h μ st b hb => by
    obtain ⟨⟨o, ho, _⟩, od, es, hd, _⟩ := st
    rcases List.mem_cons.mp hb with rfl | hb
    · exact ⟨o, ho⟩
    · have : b = d := by simpa using hb
      exact ⟨od, this ▸ hd⟩
  self := fun i s μ Q E st h => wpAny_pyIter_keyiter st.1 h
  item := fun i s H μ v Q E I hd st e hQ => by
    have hl : kvs.length = l.length := by simpa using congrArg List.length hk
    have e' : (l.map fun p => keyV p.1)[i]? = some v := by simpa using e
    rw [List.getElem?_map] at e'
    cases e2 : l[i]? with
    | none => rw [e2] at e'; cases e'
    | some p =>
      rw [e2] at e'; cases e'
      have e3 : (kvs.map (·.1))[i]? = some p.1 := by rw [hk, List.getElem?_map, e2]; rfl
      rw [List.getElem?_map] at e3
      cases e4 : kvs[i]? with
      | none => rw [e4] at e3; cases e3
      | some q =>
        rw [e4] at e3
        obtain ⟨qk, qv⟩ := q
        have e5 : qk = p.1 := by simpa using e3
        subst e5
        refine wpAny_pyNext_dict_item st.1 st.2 e4 fun key h' hkey hit' sb => ⟨key, rfl, ?_⟩
        obtain ⟨o', ho', hc', _⟩ := id hit'
        exact letOwned_other (s := { s with heap := h' }) ho' hc' (by decide) (hQ key { s with heap := h' } (Mv.sameBut sb) rfl rfl ⟨hit', st.2.at' fun o e => (sb.2 d hne).trans e⟩ (keyV_rel hkey))
  done := fun i s H μ Q E I st e hQ => by
    have e2 : (l.map fun p => keyV p.1)[i]? = none := by simpa using e
    have e' : kvs[i]? = none := by
      have hl : kvs.length = l.length := by simpa using congrArg List.length hk
      rw [List.getElem?_eq_none_iff] at e2 ⊢
      rw [hl]; simpa using e2
    exact wpAny_pyNext_dict_end hh st.1 st.2 e' fun h' x => ⟨rfl, hQ { s with heap := h' } (Mv.extBut x) rfl rfl⟩

theorem enumI_get (l : List V) (i : Nat) : (enumI l)[i]? = (l[i]?).map fun v => .tup [.int (i : Int), v] := by
  unfold enumI
  rw [List.getElem?_zipWith]
  by_cases h : i < l.length
  · rw [List.getElem?_range h, List.getElem?_eq_getElem h]; rfl
  · rw [List.getElem?_eq_none (by simpa using h)]
    cases e : l[i]? with
    | none => rfl
    | some v => exact absurd (lt_of_some e) h
theorem it_enum (hh : A.handled = none) (elts : List Expr) (k : Nat) (pos : Pos) (e it a : Addr) (hei : e ≠ it) (hea : a ≠ e) (hia : a ≠ it) (l : List V) (vs : List Value) (n : Nat) :
    ItOk prog w A base os (.Tuple elts k pos) e [e, it, a] [e, it] (nxI (enumI l))
      (fun i h μ => (∃ old, IsEnum h e it (i : Int) old) ∧ h.IsListIter it a i ∧ h.get? a = some (lstObj vs.toArray n) ∧ Rels h μ l vs) where
  sub := fun b hb => by rcases List.mem_cons.mp hb with rfl | hb
                        · exact .head _
                        · have := List.mem_singleton.mp hb; subst this; exact .tail _ (.head _)
  frame := fun i h h' μ μ' st k kr _ => by
    obtain ⟨⟨old, he⟩, hi, ha, rs⟩ := st
    exact ⟨⟨old, k e (.head _) _ he⟩, hi.at fun o q => k it (.tail _ (.head _)) o q, k a (.tail _ (.tail _ (.head _))) _ ha, rs.all fun q => kr _ _ q⟩
  nt := fun i h μ st => by
    obtain ⟨⟨old, he⟩, ⟨o, ho, hc, _⟩, _⟩ := st
    intro b hb xs m q
    rcases List.mem_cons.mp hb with rfl | hb
    · exact nt_one he (by show Value.type "enumerate" ≠ Value.type "tuple"; decide) _ (.head _) _ _ q
    · have := List.mem_singleton.mp hb; subst this
      exact nt_one ho (by rw [hc]; decide) _ (.head _) _ _ q
  live := fun i h μ st b hb => by
    obtain ⟨⟨old, he⟩, ⟨o, ho, _⟩, ha, _⟩ := st
    rcases List.mem_cons.mp hb with rfl | hb
    · exact ⟨_, he⟩
    · rcases List.mem_cons.mp hb with rfl | hb
      · exact ⟨_, ho⟩
      · have : b = a := by simpa using hb
        exact ⟨_, this ▸ ha⟩
  self := fun i s μ Q E st h => by
    obtain ⟨⟨old, he⟩, _⟩ := st
    exact wpAny_pyIter_enum he h
  item := fun i s H μ v Q E I hd st ee hQ => by
    obtain ⟨⟨old, he⟩, hit, ha, rs⟩ := st
    have e1 : (enumI l)[i]? = some v := by simpa using ee
    rw [enumI_get] at e1
    cases e2 : l[i]? with
    | none => rw [e2] at e1; cases e1
    | some u =>
      rw [e2] at e1; cases e1
      obtain ⟨z, hz, rz⟩ := rs.get e2
      have hil : i < vs.length := lt_of_some hz
      have hel : e < s.heap.objs.size := Heap.lt_size he
      have hitl : it < s.heap.objs.size := by obtain ⟨o, ho, _⟩ := hit; exact Heap.lt_size ho
      have hal : a < s.heap.objs.size := Heap.lt_size ha
      have hL : s.heap.IsList a vs.toArray := ⟨_, ha, rfl, n, rfl⟩
      refine wpAny_pyNext_enum_itemD (Draws.list (A := A.in1) hh it a hia vs.toArray) he ⟨hit, hL⟩ (by simpa using hil) hei (by simp; exact ⟨hei, hea.symm⟩) fun x h' tk hP ho hst hT hsz hk => ⟨_, rfl, ?_⟩
      have hx : x = z := by
        have h1 : vs[i]? = some x := by simpa using hP
        rw [hz] at h1; exact (Option.some.inj h1).symm
      subst hx
      refine wpAny_letOwnedTupleGo_enum ho fun h₂ he₂ sb₂ => ?_
      have K : Mv [e, it] s.heap h₂ := fun b o nb q => by
        have nb1 : b ≠ e := fun q => nb (q ▸ .head _)
        have nb2 : b ≠ it := fun q => nb (q ▸ .tail _ (.head _))
        exact (sb₂.2 b nb1).trans (hk b o nb1 nb2 q)
      have nt : NoTup s.heap [e, it] := by
        intro b hb xs m q
        rcases List.mem_cons.mp hb with rfl | hb
        · exact nt_one he (by show Value.type "enumerate" ≠ Value.type "tuple"; decide) _ (.head _) _ _ q
        · have := List.mem_singleton.mp hb; subst this
          obtain ⟨o, ho, hc, _⟩ := hit
          exact nt_one ho (by rw [hc]; decide) _ (.head _) _ _ q
      have hT₂ : h₂.get? s.heap.objs.size = some (tupObj #[.int i tk, x] 0) := (sb₂.2 _ (Nat.ne_of_gt hel)).trans hT
      have rz₂ := rz.mvw K nt
      refine hQ _ { s with heap := h₂, toks := tk + 1 } K rfl rfl ⟨⟨x, ?_⟩, ?_, (sb₂.2 _ hea).trans (hk a _ hea hia ha), rs.mvw K nt⟩ (.tup (vs := [.int i tk, x]) (n := 0) hT₂ (.cons (.int _ _) (.cons rz₂ .nil)) (by show 2 ≤ lineN; decide))
      · have e4 : ((i + 1 : Nat) : Int) = (i : Int) + 1 := by omega
        rw [e4]; exact he₂
      · exact hst.1.at fun o q => (sb₂.2 it hei.symm).trans q
  done := fun i s H μ Q E I st ee hQ => by
    obtain ⟨⟨old, he⟩, hit, ha, rs⟩ := st
    have e1 : (enumI l)[i]? = none := by simpa using ee
    have hge : l.length ≤ i := by
      rw [enumI_get] at e1
      cases e2 : l[i]? with
      | none => exact List.getElem?_eq_none_iff.mp e2
      | some u => rw [e2] at e1; cases e1
    have hL : s.heap.IsList a vs.toArray := ⟨_, ha, rfl, n, rfl⟩
    have hT : s.TypeIs (.ref e) "enumerate" := ⟨_, he, rfl⟩
    unfold pyNext
    refine wpAny_bind (wpAny_attempt (wpAny_callSpecial?_slot (name := Str.ofString "__next__") hT F.slot_enumerate_next
      (wpAny_call_entry F.slot_enumerate_next hT F.entry_enumerate_next ?_ (F.args_enumerate_next_1 _))))
    show wpAny _ _ (field (.ref e) 2 >>= _) _ _ _
    refine wpAny_bind (wpAny_field he rfl (x := .ref it) rfl ?_)
    refine wpAny_bind (wpAny_nextOf_list_end (A := A.in1) hh hit hL (by simp; rw [rs.length]; exact hge) fun h' x xe hx' => ?_)
    obtain ⟨o, ho, hc⟩ := hx'
    refine wpAny_bind (wpAny_isInstance (T := "StopIteration") (b := true) ⟨o, ho, hc⟩ isSubtype_stop ?_)
    refine wpAny_pure ⟨rfl, hQ { s with heap := h' } (fun b ob nb q => xe b ob (fun q => nb (q ▸ .tail _ (.head _))) q) rfl rfl⟩
end
end Mine
/-! Snd15 -/
namespace Mine
open PySem PySem.Calls PyProof.Rows PySem.SeqAt PySem.W

/-! the interpreter's loops as one -/
noncomputable def compG {β : Type} (run : V → AH → Option (Option β × AH)) (nx : AH → Nat → Option (Option V)) : Nat → Nat → AH → Option (List β × AH)
  | 0, _, _ => none
  | n + 1, i, H => obn (nx H i) fun o => caO o (some ([], H)) fun v => bnd (run v H) fun y H' => bnd (compG run nx n (i + 1) H') fun ys H'' => some (y.toList ++ ys, H'')
theorem compI_G {β : Type} (run : V → AH → Option (Option β × AH)) (items todo : List V) : ∀ (i : Nat) (H : AH), items.drop i = todo → compI run todo H = compG run (nxI items) (todo.length + 1) i H := by
  induction todo with
  | nil =>
    intro i H hd
    have e : items[i]? = none := List.getElem?_eq_none (List.drop_eq_nil_iff.mp hd)
    show some ([], H) = caO items[i]? _ _
    rw [e]; rfl
  | cons x todo ih =>
    intro i H hd
    have hx : items[i]? = some x := by
      have : (items.drop i)[0]? = some x := by rw [hd]; rfl
      rw [List.getElem?_drop] at this; exact this
    have hd' : items.drop (i + 1) = todo := by
      have : (items.drop i).drop 1 = todo := by rw [hd]; rfl
      rw [List.drop_drop] at this; exact this
    have e : compI run todo = compG run (nxI items) (todo.length + 1) (i + 1) := funext fun H => ih (i + 1) H hd'
    show bnd (run x H) (fun y H' => bnd (compI run todo H') _) = caO items[i]? _ _
    rw [hx, e]; rfl
theorem compI_G0 {β : Type} (run : V → AH → Option (Option β × AH)) (items : List V) (H : AH) : compI run items H = compG run (nxI items) (items.length + 1) 0 H := compI_G run items items 0 H rfl
theorem compL_G {β : Type} (run : V → AH → Option (Option β × AH)) (j : Nat) (n : Nat) : ∀ (i : Nat) (H : AH), compL run j n i H = compG run (nxL j) n i H := by
  induction n with
  | zero => exact fun _ _ => rfl
  | succ n ih =>
    intro i H
    have e : compL run j n = compG run (nxL j) n := funext fun i => funext fun H => ih i H
    show obn (lst H j) (fun l => caO l[i]? _ fun v => bnd (run v H) fun y H' => bnd (compL run j n (i + 1) H') _) = obn (obn (lst H j) _) _
    rw [e]
    cases lst H j <;> rfl
theorem caO_elim {α γ : Type} {o : Option α} {e : γ} {f : α → γ} {r : γ} {P : Prop} (h : caO o e f = r) (k1 : o = none → e = r → P) (k2 : ∀ a, o = some a → f a = r → P) : P := by
  cases o with
  | none => exact k1 rfl h
  | some a => exact k2 a rfl h
theorem compG_step {β : Type} {run : V → AH → Option (Option β × AH)} {nx : AH → Nat → Option (Option V)} {n i : Nat} {H Hf : AH} {rest : List β} {P : Prop} (h : compG run nx (n + 1) i H = some (rest, Hf)) (k1 : nx H i = some none → [] = rest → H = Hf → P)
    (k2 : ∀ v y H1 zs, nx H i = some (some v) → run v H = some (y, H1) → compG run nx n (i + 1) H1 = some (zs, Hf) → y.toList ++ zs = rest → P) : P :=
  obn_elim (o := nx H i) h fun o hx h => caO_elim h (fun ho h => have e := Prod.mk.inj (Option.some.inj h); k1 (hx.trans (congrArg some ho)) e.1 e.2) fun v ho h => bnd_elim h fun y H1 hr h => bnd_elim h fun zs H2 hz h =>
    have e := Prod.mk.inj (Option.some.inj h); k2 v y H1 zs (hx.trans (congrArg some ho)) hr (e.2 ▸ hz) e.1
theorem lrun_elim {t : Tgt} {ρ : Loc} {cond elt : Ev} {v : V} {H H1 : AH} {y : Option V} {P : Prop} (h : lrun t ρ cond elt v H = some (y, H1))
    (k1 : ∀ ρ' H2 u, putV t v ρ = some ρ' → cond ρ' H = some (.bool true, H2) → elt ρ' H2 = some (u, H1) → some u = y → P) (k0 : ∀ ρ', putV t v ρ = some ρ' → cond ρ' H = some (.bool false, H1) → none = y → P) : P :=
  obn_elim h fun ρ' hp h => bnd_elim h fun b H2 hc h => brn_elim h (fun hb h => bnd_elim h fun u H3 he h => have e := Prod.mk.inj (Option.some.inj h); k1 ρ' H2 u hp (boolV_eq hb ▸ hc) (e.2 ▸ he) e.1)
    fun hb h => have e := Prod.mk.inj (Option.some.inj h); k0 ρ' hp (boolV_eq hb ▸ e.2 ▸ hc) e.1
theorem drun_elim {t : Nat} {ρ : Loc} {cond key val : Ev} {v : V} {H H1 : AH} {y : Option (Key × V)} {P : Prop} (h : drun t ρ cond key val v H = some (y, H1))
    (k1 : ∀ ρ' H2 uk H3 uv u, putV (.one t) v ρ = some ρ' → cond ρ' H = some (.bool true, H2) → key ρ' H2 = some (uk, H3) → val ρ' H3 = some (uv, H1) → keyOf uk = some u → some (u, uv) = y → P) (k0 : ∀ ρ', putV (.one t) v ρ = some ρ' → cond ρ' H = some (.bool false, H1) → none = y → P) : P :=
  obn_elim h fun ρ' hp h => bnd_elim h fun b H2 hc h => brn_elim h (fun hb h => bnd_elim h fun uk H3 he h => bnd_elim h fun uv H4 he' h => obn_elim h fun u hu h => have e := Prod.mk.inj (Option.some.inj h); k1 ρ' H2 uk H3 uv u hp (boolV_eq hb ▸ hc) he (e.2 ▸ he') hu e.1)
    fun hb h => have e := Prod.mk.inj (Option.some.inj h); k0 ρ' hp (boolV_eq hb ▸ e.2 ▸ hc) e.1
theorem compG_len {β : Type} {run : V → AH → Option (Option β × AH)} {nx : AH → Nat → Option (Option V)} (n : Nat) : ∀ {i : Nat} {H H' : AH} {ys : List β}, compG run nx n i H = some (ys, H') → ys.length + 1 ≤ n := by
  induction n with
  | zero => intro i H H' ys e; cases e
  | succ n ih =>
    intro i H H' ys e
    refine compG_step e (fun _ e _ => e ▸ Nat.succ_le_succ (Nat.zero_le _)) fun v y H1 zs _ _ e2 e => ?_
    rw [← e]
    cases y with
    | none => exact Nat.le_succ_of_le (ih e2)
    | some u => exact Nat.succ_le_succ (ih e2)

section
variable {prog : Program} {w : World} {A : Around} {R : Result → Shared → Prop} {s : Shared}
/-- a turn's head: the next item, its name, the tests -/
noncomputable def HT (prog : Program) (w : World) (A : Around) (target : Expr) (it : Addr) (ifs : List Expr) (cenv : Env) (Q : Bool → Shared → Prop) (E : Value → Shared → Prop) (s : Shared) : Prop :=
  wpAny (model prog w) A (pyNext (.ref it)) (fun r s₁ => ∃ y, r = some y ∧ wpAny (model prog w) A (letOwnedTupleGo target (.ref it) y) (fun _ s₁' => wpAny (model prog w) A (assign target cenv y) (fun _ s₂ =>
      wpAny (model prog w) A (forIn ifs true fun c r => if r = true then do let ok ← isTrue c cenv (eval c cenv); pure (ForInStep.yield ok) else pure (ForInStep.yield r)) Q E s₂) E s₁') E s₁) E s
noncomputable abbrev EE (prog : Program) (w : World) (A : Around) (env : Env) (R : Result → Shared → Prop) : Value → Shared → Prop := notedBy (model prog w) A env fun e s' => R (.error e) s'
theorem codeAny_compLoop_own {elt target iter : Expr} {ifs : List Expr} {scope : Scope} {pos : Pos} {it : Addr} {acc : Value} {env : Env} (I : Nat → Shared → Prop)
    (turn : ∀ n s, I n s → wpAny (model prog w) A (pyNext (.ref it)) (fun r s₁ => r = none ∧ R (.ok .next) s₁) (EE prog w A env R) s ∨
      HT prog w A target it ifs env (fun ok s₃ => (ok = true → wpAny (model prog w) A (eval elt env) (fun x s₄ =>
              wpAny (model prog w) A (call (.builtin "list.append") [acc, x]) (fun _ s₅ => ∃ m, m < n ∧ I m s₅) (EE prog w A env R) s₄) (EE prog w A env R) s₃) ∧ (ok = false → ∃ m, m < n ∧ I m s₃)) (EE prog w A env R) s)
    (n : Nat) (h : I n s) : codeAny (model prog w) A (.compLoop (.ListComp elt [⟨target, iter, ifs, 0⟩] scope pos) 0 (.ref it) acc env) R s := by
  refine codeAny_loop rfl I (fun n s hI => ?_) n h
  show wpAny _ A ((compTurn (.ListComp elt [⟨target, iter, ifs, 0⟩] scope pos) 0 (.ref it) acc env).onRaise (fun x => do noteFrame x env; theTreesLotGoes x)) _ _ s
  refine wpAny_noted ?_
  rw [compTurn_list]
  refine wpAny_bind (wpAny_standAt (wpAny_bind ?_))
  rcases turn n s hI with h | h
  · exact mono h fun r s₁ q => by rw [q.1]; exact wpAny_pure q.2
  · refine mono h fun r s₁ q => ?_
    obtain ⟨y, rfl, q⟩ := q
    refine wpAny_bind (mono q fun _ s₁' h₁' => wpAny_bind (mono h₁' fun _ s₂ h₂ => wpAny_bind (mono h₂ fun ok s₃ h₃ => ?_)))
    cases ok with
    | false => exact wpAny_pure ⟨rfl, h₃.2 rfl⟩
    | true => exact wpAny_bind (wpAny_bind (mono (h₃.1 rfl) fun x s₄ h₄ => wpAny_bind (mono h₄ fun _ s₅ h₅ => wpAny_pure (wpAny_pure ⟨rfl, h₅⟩))))
theorem codeAny_compLoop_ownD {kx vx target iter : Expr} {ifs : List Expr} {scope : Scope} {pos : Pos} {it D : Addr} {env : Env} (I : Nat → Shared → Prop)
    (turn : ∀ n s, I n s → wpAny (model prog w) A (pyNext (.ref it)) (fun r s₁ => r = none ∧ R (.ok .next) s₁) (EE prog w A env R) s ∨
      HT prog w A target it ifs env (fun ok s₃ => (ok = true → wpAny (model prog w) A (eval kx env) (fun kv s₄ => wpAny (model prog w) A (eval vx env) (fun vv s₅ =>
              wpAny (model prog w) A (dictSet D kv vv) (fun _ s₆ => ∃ m, m < n ∧ I m s₆) (EE prog w A env R) s₅) (EE prog w A env R) s₄) (EE prog w A env R) s₃) ∧ (ok = false → ∃ m, m < n ∧ I m s₃)) (EE prog w A env R) s)
    (n : Nat) (h : I n s) : codeAny (model prog w) A (.compLoop (.DictComp kx vx [⟨target, iter, ifs, 0⟩] scope pos) 0 (.ref it) (.ref D) env) R s := by
  refine codeAny_loop rfl I (fun n s hI => ?_) n h
  show wpAny _ A ((compTurn (.DictComp kx vx [⟨target, iter, ifs, 0⟩] scope pos) 0 (.ref it) (.ref D) env).onRaise (fun x => do noteFrame x env; theTreesLotGoes x)) _ _ s
  refine wpAny_noted ?_
  rw [compTurn_dict]
  refine wpAny_bind (wpAny_standAt (wpAny_bind ?_))
  rcases turn n s hI with h | h
  · exact mono h fun r s₁ q => by rw [q.1]; exact wpAny_pure q.2
  · refine mono h fun r s₁ q => ?_
    obtain ⟨y, rfl, q⟩ := q
    refine wpAny_bind (mono q fun _ s₁' h₁' => wpAny_bind (mono h₁' fun _ s₂ h₂ => wpAny_bind (mono h₂ fun ok s₃ h₃ => ?_)))
    cases ok with
    | false => exact wpAny_pure ⟨rfl, h₃.2 rfl⟩
    | true => exact wpAny_bind (wpAny_bind (mono (h₃.1 rfl) fun kv s₄ h₄ => wpAny_bind (wpAny_holding (mono h₄ fun vv s₅ h₅ => wpAny_bind (wpAny_standAt (wpAny_holding (mono h₅ fun _ s₆ h₆ => wpAny_pure ⟨rfl, h₆⟩)))))))
end

theorem Ext.notin {h h' : Heap} {μ μ' F : List Addr} (x : Ext h h' μ μ' F) {a : Addr} {o : Obj} (e : h.get? a = some o) (n : a ∉ μ) : a ∉ μ' := by
  obtain ⟨ν, rfl, hν⟩ := x.pre
  intro q
  rcases List.mem_append.mp q with q | q
  · exact n q
  · rw [hν a q] at e; cases e

/-- what holds at a comprehension's head: outside (h₀, μ₀), the new list D, the names C -/
structure Head (prog : Program) (w : World) (base : Heap) (os : OsState) (h₀ : Heap) (μ₀ : List Addr) (cenv : Env) (ρ0 : Loc) (D : Addr) (wl wr : List Addr) (H : AH) (μ : List Addr) (s : Shared) : Prop where
  inv : Inv prog w base os s H μ
  ext : Ext h₀ s.heap μ₀ μ []
  fr : FrameOk base s.heap μ cenv ρ0
  dμ : D ∉ μ
  wμ : ∀ b ∈ wr, b ∉ μ
  dl : ∃ o, s.heap.get? D = some o
/-- what never moves -/
structure Fixed (base h₀ : Heap) (cenv : Env) (D : Addr) (wl wr : List Addr) : Prop where
  dn : h₀.get? D = none
  cn : h₀.get? cenv.locals = none
  wn : ∀ b ∈ wr, h₀.get? b = none
  db : base.get? D = none
  wb : ∀ b ∈ wr, base.get? b = none
  dl : D ∉ wl
  dc : D ∉ own cenv
  lc : ∀ b ∈ wl, b ∉ own cenv
  sub : ∀ b ∈ wr, b ∈ wl

section
variable {prog : Program} {w : World} {base : Heap} {os : OsState} {nm : NT} {G : GTab} {F : Calls} {mg mb : Str → Option Value} {n : Nat} {names : Nms}
variable {A : Around} {E : Value → Shared → Prop} {s s' : Shared} {H H' : AH} {μ : List Addr} {env : Env} {v : V} {x y z : Value} {Q : Value → Shared → Prop}
variable {h₀ : Heap} {μ₀ : List Addr} {cenv : Env} {ρ0 : Loc} {D : Addr} {wl wr : List Addr} {St : Nat → Heap → List Addr → Prop}

/-- the tests of a comprehension -/
noncomputable def TestsOk (prog : Program) (w : World) (base : Heap) (os : OsState) (G : GTab) (F : Calls) (n : Nat) (names : Nms) (pe : PE) (ifs : List Expr) : Prop :=
  ∀ (A : Around) (env : Env) (s : Shared) (H : AH) (μ : List Addr) (ρ : Loc) (b : Bool) (H' : AH) (E : Value → Shared → Prop), Room n A → env.scope.names = names → Inv prog w base os s H μ → FrameOk base s.heap μ env ρ →
    ev G F pe ρ H = some (.bool b, H') → wpAny (model prog w) A (forIn ifs true fun c r => if r = true then do let ok ← isTrue c env (eval c env); pure (ForInStep.yield ok) else pure (ForInStep.yield r))
      (fun r s' => r = b ∧ Post prog w base os s.heap μ H' (.bool b) (calm pe) (.bool b) s') E s
theorem tests_nil : TestsOk prog w base os G F n names (.c (.bool true)) [] := by
  intro A env s H μ ρ b H' E hA hn I f he
  cases he
  exact wpAny_tests_nil ⟨rfl, Post.same I (.bool _) rfl⟩
theorem tests_one {pe : PE} {e : Expr} (h : TrOk prog w base os G F n names pe e) : TestsOk prog w base os G F n names pe [e] :=
  fun A env s H μ ρ b H' E hA hn I f he => wpAny_tests_one (h A env s H μ ρ (.bool b) b H' E hA hn I f he rfl)

/-- one turn up to the test, whatever is made of the item then -/
theorem head_turn {target : Expr} {it : Addr} {nx : AH → Nat → Option (Option V)} (K : ItOk prog w A base os target it wl wr nx St) (hh : Room n A) (hn : cenv.scope.names = names) (fx : Fixed base h₀ cenv D wl wr)
    {t : Tgt} (ht : chkT true names t target = true) (hl0 : ∀ ρ', putV t v ρ0 = some ρ' → ∀ (i : Nat) (u : V), ρ0[i]? = some (some u) → ρ'[i]? = some (some u)) (hlen : ∀ ρ', putV t v ρ0 = some ρ' → ρ'.length = ρ0.length)
    {cond : PE} {ifs : List Expr} (hc : TestsOk prog w base os G F n names cond ifs) (hw : (∀ b ∈ wl, b ∈ wr) ∨ calm cond = true)
    (hd : Head prog w base os h₀ μ₀ cenv ρ0 D wl wr H μ s) {i : Nat} (st : St i s.heap μ) (hx : nx H i = some (some v)) {ρ' : Loc} (hp : putV t v ρ0 = some ρ') {b : Bool} {H2 : AH} (he : ev G F cond ρ' H = some (.bool b, H2))
    {Q : Bool → Shared → Prop} (hQ : ∀ s₃ μ₃, Head prog w base os h₀ μ₀ cenv ρ0 D wl wr H2 μ₃ s₃ → FrameOk base s₃.heap μ₃ cenv ρ' → St (i + 1) s₃.heap μ₃ → (∀ o, s.heap.get? D = some o → s₃.heap.get? D = some o) → (∀ v y, Rel s.heap μ v y → Rel s₃.heap μ₃ v y) → Q b s₃) :
    HT prog w A target it ifs cenv Q E s := by
  have hC : cenv.locals ∉ wl := fun q => fx.lc _ q (.head _)
  refine K.item i s H μ v _ E hd.inv hd.wμ st hx fun y s₁ mv hg ho st₁ ry => ?_
  have nt := K.nt _ _ _ st
  have wrl : ∀ b ∈ wr, b ∉ own cenv := fun b hb => fx.lc b (fx.sub b hb)
  have I₁ : Inv prog w base os s₁ H μ := hd.inv.mvw mv nt hd.wμ fx.wb hg ho
  have f₁ : FrameOk base s₁.heap μ cenv ρ0 := hd.fr.mvw mv nt wrl
  have e₁ : Ext h₀ s₁.heap μ₀ μ [] := hd.ext.mvw mv fx.wn
  have d₁ : ∀ o, s.heap.get? D = some o → s₁.heap.get? D = some o := fun o e => mv D o (fun q => fx.dl (fx.sub D q)) e
  refine mono (asg_snd hh.handled f₁ (loc := true) (by rw [hn]; exact ht) hp ry) fun _ s₂ q => ?_
  obtain ⟨s₁', k1, g1, o1, tt⟩ := q
  have isL : ∀ {b}, b ∈ [cenv.locals] → b = cenv.locals := List.mem_singleton.mp
  have mv₂ : Mv [cenv.locals] s₁.heap s₂.heap := fun b o nb e => tt.mv b o nb (k1 b o e)
  have nt₂ : NoTup s₁.heap [cenv.locals] := fun a ha => f₁.noTup a (isL ha ▸ .head _)
  have I₂ : Inv prog w base os s₂ H μ := I₁.mvw mv₂ nt₂ (fun b hb => isL hb ▸ f₁.out.1) (fun b hb => isL hb ▸ f₁.out.2) (tt.gens.trans g1) (tt.os.trans o1)
  have e₂ : Ext h₀ s₂.heap μ₀ μ [] := e₁.mvw mv₂ fun b hb => isL hb ▸ fx.cn
  have dC : D ≠ cenv.locals := fun q => fx.dc (by rw [q]; exact .head _)
  have d₂ : ∀ o, s.heap.get? D = some o → s₂.heap.get? D = some o := fun o e => mv₂ D o (fun q => dC (isL q)) (d₁ o e)
  have r₂ : ∀ v y, Rel s.heap μ v y → Rel s₂.heap μ v y := fun v y r => (r.mvw mv nt).mvw mv₂ nt₂
  have wk₂ : ∀ b ∈ wl, ∀ o, s₁.heap.get? b = some o → s₂.heap.get? b = some o := fun b hb o e => mv₂ b o (fun q => hC (isL q ▸ hb)) e
  have st₂ : St (i + 1) s₂.heap μ := K.frame _ _ _ _ _ st₁ wk₂ (fun v y r => r.mvw mv₂ nt₂) (fun _ _ e => e)
  refine mono (hc A cenv s₂ H μ ρ' b H2 E hh hn I₂ tt.fr he) fun r s₃ p => ?_
  obtain ⟨rfl, p⟩ := p
  refine p.elim fun μ₃ I₃ X₃ r₃ k₃ => ?_
  have f₃ := tt.fr.ext X₃ I₂.noTup
  have ll₂ := K.live _ _ _ st₂
  have wk₃ : ∀ b ∈ wl, ∀ o, s₂.heap.get? b = some o → s₃.heap.get? b = some o := fun b hb o e => by
    rcases hw with hw | hw
    · exact X₃.keep b o e (hd.wμ b (hw b hb)) List.not_mem_nil
    · exact k₃ hw b o e
  refine hQ s₃ μ₃ ⟨I₃, e₂.trans X₃, f₃.less (hlen _ hp).symm (hl0 _ hp), ?_, fun b hb => ?_, ?_⟩ f₃ ?_ (fun o e => X₃.keep D o (d₂ o e) hd.dμ List.not_mem_nil) fun v y r => (r₂ v y r).mv X₃ I₂.noTup
  · obtain ⟨o, e⟩ := hd.dl
    exact X₃.notin (d₂ o e) hd.dμ
  · obtain ⟨o, e⟩ := ll₂ b (fx.sub b hb)
    exact X₃.notin e (hd.wμ b hb)
  · obtain ⟨o, e⟩ := hd.dl
    exact ⟨o, X₃.keep D o (d₂ o e) hd.dμ List.not_mem_nil⟩
  · exact K.frame _ _ _ _ _ st₂ wk₃ (fun v y r => r.mv X₃ I₂.noTup) (fun j a e => X₃.get e)

/-- what the loop leaves behind -/
structure Left (prog : Program) (w : World) (base : Heap) (os : OsState) (h₀ : Heap) (μ₀ : List Addr) (C D : Addr) (Hf : AH) (μ : List Addr) (s : Shared) : Prop where
  inv : Inv prog w base os s Hf μ
  ext : Ext h₀ s.heap μ₀ μ []
  dμ : D ∉ μ
  cμ : C ∉ μ
  dc : D ≠ C
  cb : base.get? C = none
  ns : ∃ m, s.heap.Ns C m
theorem done_left {target : Expr} {it : Addr} {nx : AH → Nat → Option (Option V)} (K : ItOk prog w A base os target it wl wr nx St) (fx : Fixed base h₀ cenv D wl wr) (hd : Head prog w base os h₀ μ₀ cenv ρ0 D wl wr H μ s)
    {i : Nat} (st : St i s.heap μ) {s₂ : Shared} (mv : Mv wr s.heap s₂.heap) (hg : s₂.gens = s.gens) (ho : s₂.os = s.os) : Left prog w base os h₀ μ₀ cenv.locals D H μ s₂ := by
  have nt := K.nt _ _ _ st
  have f₂ := hd.fr.mvw mv nt (fun b hb => fx.lc b (fx.sub b hb))
  exact ⟨hd.inv.mvw mv nt hd.wμ fx.wb hg ho, hd.ext.mvw mv fx.wn, hd.dμ, f₂.out.1, fun e => fx.dc (by rw [e]; exact .head _), f₂.out.2, let ⟨m, h, _⟩ := f₂.ns; ⟨m, h⟩⟩

/-- the list grown so far -/
noncomputable def LInv (prog : Program) (w : World) (base : Heap) (os : OsState) (h₀ : Heap) (μ₀ : List Addr) (cenv : Env) (ρ0 : Loc) (D : Addr) (wl wr : List Addr) (St : Nat → Heap → List Addr → Prop) (run : V → AH → Option (Option V × AH)) (nx : AH → Nat → Option (Option V)) (all : List V) (Hf : AH) (fuel : Nat) (s : Shared) : Prop :=
  ∃ i H μ ys vs k rest, Head prog w base os h₀ μ₀ cenv ρ0 D wl wr H μ s ∧ s.heap.get? D = some (lstObj (List.toArray vs) k) ∧ Rels s.heap μ ys vs ∧ St i s.heap μ ∧ compG run nx fuel i H = some (rest, Hf) ∧ ys ++ rest = all
theorem Head.goes {target : Expr} {it : Addr} {nx : AH → Nat → Option (Option V)} (K : ItOk prog w A base os target it wl wr nx St) (fx : Fixed base h₀ cenv D wl wr) {ρ' : Loc} (hl : ρ'.length = ρ0.length) (hl0 : ∀ (i : Nat) (u : V), ρ0[i]? = some (some u) → ρ'[i]? = some (some u))
    (hd : Head prog w base os h₀ μ₀ cenv ρ0 D wl wr H μ s) {i : Nat} (st : St i s.heap μ) {μ₄ : List Addr} (I₄ : Inv prog w base os s' H' μ₄) (X₄ : Ext s.heap s'.heap μ μ₄ []) (f₄ : FrameOk base s'.heap μ₄ cenv ρ') (wk₄ : (∀ b ∈ wl, b ∈ wr) ∨ Keep s.heap s'.heap)
    {s'' : Shared} (sb : Heap.SameBut D s'.heap s''.heap) (ho : ∃ o, s''.heap.get? D = some o) (nt : ∀ vs k, s'.heap.get? D ≠ some (tupObj vs k)) (hg : s''.gens = s'.gens) (hos : s''.os = s'.os) : Head prog w base os h₀ μ₀ cenv ρ0 D wl wr H' μ₄ s'' ∧ St i s''.heap μ₄ ∧ (∀ v y, Rel s'.heap μ₄ v y → Rel s''.heap μ₄ v y) := by
  have isD : ∀ {b}, b ∈ [D] → b = D := List.mem_singleton.mp
  obtain ⟨o₃, e₃⟩ := hd.dl
  have hdμ₄ := X₄.notin e₃ hd.dμ
  have mv : Mv [D] s'.heap s''.heap := Mv.sameBut sb
  have ntD : NoTup s'.heap [D] := fun b hb => isD hb ▸ nt
  have wk : ∀ b ∈ wl, ∀ o, s.heap.get? b = some o → s'.heap.get? b = some o := fun b hb o e => by
    rcases wk₄ with hw | hw
    · exact X₄.keep b o e (hd.wμ b (hw b hb)) List.not_mem_nil
    · exact hw b o e
  have st₄ := K.frame _ _ _ _ _ st wk (fun v y r => r.mv X₄ hd.inv.noTup) (fun j a e => X₄.get e)
  refine ⟨⟨I₄.mvw mv ntD (fun b hb => isD hb ▸ hdμ₄) (fun b hb => isD hb ▸ fx.db) hg hos, (hd.ext.trans X₄).mvw mv (fun b hb => isD hb ▸ fx.dn), (f₄.mvw mv ntD fun b hb => isD hb ▸ fx.dc).less hl.symm hl0, hdμ₄, fun b hb => ?_, ho⟩,
    K.frame _ _ _ _ _ st₄ (fun b hb o e => mv b o (fun q => fx.dl (isD q ▸ hb)) e) (fun v y r => r.mvw mv ntD) (fun _ _ e => e), fun v y r => r.mvw mv ntD⟩
  obtain ⟨o, e⟩ := K.live _ _ _ st b (fx.sub b hb)
  exact X₄.notin e (hd.wμ b hb)
theorem list_loop {elt target iter : Expr} {ifs : List Expr} {scope : Scope} {pos : Pos} {R : Result → Shared → Prop} {it : Addr} {nx : AH → Nat → Option (Option V)} (K : ItOk prog w A base os target it wl wr nx St) (hh : Room n A) (hn : cenv.scope.names = names) (fx : Fixed base h₀ cenv D wl wr)
    {t : Tgt} (ht : chkT true names t target = true) (hl0 : ∀ v ρ', putV t v ρ0 = some ρ' → ∀ (i : Nat) (u : V), ρ0[i]? = some (some u) → ρ'[i]? = some (some u)) (hlen : ∀ v ρ', putV t v ρ0 = some ρ' → ρ'.length = ρ0.length)
    {cond pe : PE} (hc : TestsOk prog w base os G F n names cond ifs) (hel : EvOk prog w base os G F n names pe elt) (hw : (∀ b ∈ wl, b ∈ wr) ∨ (calm cond = true ∧ calm pe = true)) {all : List V} (hall : all.length ≤ lineN) {Hf : AH}
    (hR : ∀ s' μ' vs k, Left prog w base os h₀ μ₀ cenv.locals D Hf μ' s' → s'.heap.get? D = some (lstObj (List.toArray vs) k) → Rels s'.heap μ' all vs → R (.ok .next) s')
    (fuel : Nat) (s : Shared) (h : LInv prog w base os h₀ μ₀ cenv ρ0 D wl wr St (lrun t ρ0 (ev G F cond) (ev G F pe)) nx all Hf fuel s) :
      codeAny (model prog w) A (.compLoop (.ListComp elt [⟨target, iter, ifs, 0⟩] scope pos) 0 (.ref it) (.ref D) cenv) R s := by
  refine codeAny_compLoop_own (LInv prog w base os h₀ μ₀ cenv ρ0 D wl wr St (lrun t ρ0 (ev G F cond) (ev G F pe)) nx all Hf) ?_ fuel h
  clear h fuel s
  rintro fuel s ⟨i, H, μ, ys, vs, k, rest, hd, hD, rs, st, hg, hall2⟩
  cases fuel with
  | zero => cases hg
  | succ fuel =>
    refine compG_step hg (fun hx er eH => .inl (mono (K.done i s _ μ (fun s₂ => R (.ok .next) s₂) _ hd.inv st hx fun s₂ mv hg ho => ?_) fun r s₁ q => q)) fun v y H1 zs hx hr hrest er => .inr (lrun_elim hr
      (fun ρ' H2 u hp he hee ey => head_turn (b := true) (E := EE prog w A cenv R) K hh hn fx ht (hl0 v) (hlen v) hc (hw.imp id And.left) hd st hx hp he fun s₃ μ₃ hd₃ f₃ st₃ dk rk => ⟨fun _ => ?_, fun q => nomatch q⟩)
      fun ρ' hp he ey => head_turn (b := false) (E := EE prog w A cenv R) K hh hn fx ht (hl0 v) (hlen v) hc (hw.imp id And.left) hd st hx hp he fun s₃ μ₃ hd₃ f₃ st₃ dk rk => ⟨fun q => (nomatch q), fun _ => ?_⟩)
    · refine hR s₂ μ vs k (eH ▸ done_left K fx hd st mv hg ho) (mv D _ (fun q => fx.dl (fx.sub D q)) hD) ?_
      rw [← hall2, ← er, List.append_nil]
      exact rs.mvw mv (K.nt _ _ _ st)
    · refine hel.run hh hn hd₃.inv f₃ hee fun x s₄ μ₄ I₄ X₄ r₄ k₄ f₄ => ?_
      have hD₄ := X₄.keep D _ (dk _ hD) hd₃.dμ List.not_mem_nil
      have rs₄ : Rels s₄.heap μ₄ ys vs := (rs.all fun q => rk _ _ q).ext X₄ hd₃.inv.noTup noF
      have hall3 : (ys ++ [u]) ++ zs = all := by rw [← hall2, ← er, ← ey, List.append_assoc]; rfl
      refine wpAny_list_append_plain (items := vs.toArray) ⟨k, hD₄⟩ (fun h' ho sb => ?_) (by
        rw [List.size_toArray, rs.length]
        refine line_le (Nat.le_trans ?_ hall)
        rw [← hall2, List.length_append]
        exact Nat.le_add_right _ _)
      have ho := ho.choose_spec
      have g := hd₃.goes K fx (hlen v ρ' hp) (hl0 v ρ' hp) st₃ I₄ X₄ f₄ (hw.imp id fun q => k₄ q.2) (s'' := { s₄ with heap := h' }) sb ⟨_, ho⟩ (fun vs m => nt_one hD₄ (by show Value.type "list" ≠ Value.type "tuple"; decide) _ (.head _) vs m) rfl rfl
      exact ⟨fuel, Nat.lt_succ_self _, i + 1, H1, μ₄, ys ++ [u], vs ++ [x], _, zs, g.1, by rw [← List.push_toArray]; exact ho, (rs₄.append (.cons r₄ .nil)).all fun q => g.2.2 _ _ q, g.2.1, hrest, hall3⟩
    · exact ⟨fuel, Nat.lt_succ_self _, i + 1, H1, μ₃, ys, vs, k, zs, hd₃, dk _ hD, rs.all fun q => rk _ _ q, st₃, hrest, by rw [← hall2, ← er, ← ey]; rfl⟩
/-- the dict grown so far -/
noncomputable def DInv (prog : Program) (w : World) (base : Heap) (os : OsState) (h₀ : Heap) (μ₀ : List Addr) (cenv : Env) (ρ0 : Loc) (D : Addr) (wl wr : List Addr) (St : Nat → Heap → List Addr → Prop) (run : V → AH → Option (Option (Key × V) × AH)) (nx : AH → Nat → Option (Option V)) (all : List (Key × V)) (Hf : AH) (fuel : Nat) (s : Shared) : Prop :=
  ∃ i H μ ys kvs rest, Head prog w base os h₀ μ₀ cenv ρ0 D wl wr H μ s ∧ s.heap.DictOf (kn prog w) D kvs ∧ RelD s.heap μ (List.foldl (fun d p => setK d p.1 p.2) [] ys) kvs ∧ St i s.heap μ ∧ compG run nx fuel i H = some (rest, Hf) ∧ ys ++ rest = all
theorem dict_loop {kx vx target iter : Expr} {ifs : List Expr} {scope : Scope} {pos : Pos} {R : Result → Shared → Prop} {it : Addr} {nx : AH → Nat → Option (Option V)} (K : ItOk prog w A base os target it wl wr nx St) (hh : Room n A) (hn : cenv.scope.names = names) (fx : Fixed base h₀ cenv D wl wr)
    {t : Nat} (ht : chkT true names (.one t) target = true) (hl0 : ∀ v ρ', putV (.one t) v ρ0 = some ρ' → ∀ (i : Nat) (u : V), ρ0[i]? = some (some u) → ρ'[i]? = some (some u)) (hlen : ∀ v ρ', putV (.one t) v ρ0 = some ρ' → ρ'.length = ρ0.length)
    {cond pk pv : PE} (hc : TestsOk prog w base os G F n names cond ifs) (hek : EvOk prog w base os G F n names pk kx) (hev : EvOk prog w base os G F n names pv vx) (hw : calm cond = true ∧ calm pk = true ∧ calm pv = true) {all : List (Key × V)} (hall : all.length ≤ lineN) {Hf : AH}
    (hR : ∀ s' μ' kvs, Left prog w base os h₀ μ₀ cenv.locals D Hf μ' s' → s'.heap.DictOf (kn prog w) D kvs → RelD s'.heap μ' (all.foldl (fun d p => setK d p.1 p.2) []) kvs → R (.ok .next) s')
    (fuel : Nat) (s : Shared) (h : DInv prog w base os h₀ μ₀ cenv ρ0 D wl wr St (drun t ρ0 (ev G F cond) (ev G F pk) (ev G F pv)) nx all Hf fuel s) :
      codeAny (model prog w) A (.compLoop (.DictComp kx vx [⟨target, iter, ifs, 0⟩] scope pos) 0 (.ref it) (.ref D) cenv) R s := by
  refine codeAny_compLoop_ownD (DInv prog w base os h₀ μ₀ cenv ρ0 D wl wr St (drun t ρ0 (ev G F cond) (ev G F pk) (ev G F pv)) nx all Hf) ?_ fuel h
  clear h fuel s
  rintro fuel s ⟨i, H, μ, ys, kvs, rest, hd, hD, rs, st, hg, hall2⟩
  cases fuel with
  | zero => cases hg
  | succ fuel =>
    refine compG_step hg (fun hx er eH => .inl (mono (K.done i s _ μ (fun s₂ => R (.ok .next) s₂) _ hd.inv st hx fun s₂ mv hg ho => ?_) fun r s₁ q => q)) fun v y H1 zs hx hr hrest er => .inr (drun_elim hr
      (fun ρ' H2 uk H3 uv u hp he hek' hev' hku ey => head_turn (b := true) (E := EE prog w A cenv R) K hh hn fx ht (hl0 v) (hlen v) hc (.inr hw.1) hd st hx hp he fun s₃ μ₃ hd₃ f₃ st₃ dk rk => ⟨fun _ => ?_, fun q => nomatch q⟩)
      fun ρ' hp he ey => head_turn (b := false) (E := EE prog w A cenv R) K hh hn fx ht (hl0 v) (hlen v) hc (.inr hw.1) hd st hx hp he fun s₃ μ₃ hd₃ f₃ st₃ dk rk => ⟨fun q => (nomatch q), fun _ => ?_⟩)
    · refine hR s₂ μ kvs (eH ▸ done_left K fx hd st mv hg ho) (hD.at fun o e => mv D _ (fun q => fx.dl (fx.sub D q)) e) ?_
      rw [← hall2, ← er, List.append_nil]
      exact rs.mvw mv (K.nt _ _ _ st)
    · refine hek.run hh hn hd₃.inv f₃ hek' fun xk s₄ μ₄ I₄ X₄ r₄ k₄ f₄ => hev.run hh hn I₄ f₄ hev' fun xv s₅ μ₅ I₅ X₅ r₅ k₅ f₅ => ?_
      have X := X₄.trans X₅
      have hD₅ : s₅.heap.DictOf (kn prog w) D kvs := (hD.at fun o e => dk o e).at fun o e => X.keep D o e hd₃.dμ List.not_mem_nil
      have rs₅ : RelD s₅.heap μ₅ (List.foldl (fun d p => setK d p.1 p.2) [] ys) kvs := (rs.all fun q => rk _ _ q).ext X hd₃.inv.noTup noF
      refine wpAny_dictSet_pairs (knd := kn prog w) (k := u) (key_rel hku (r₄.mv X₅ I₄.noTup)) hD₅ (fun h' hd' sb => ?_) (by
        rw [rs.length]
        refine line_le (Nat.le_trans (foldK_len ys []) (Nat.le_trans ?_ hall))
        rw [← hall2, List.length_append, List.length_nil, Nat.zero_add]
        exact Nat.le_add_right _ _)
      have g := hd₃.goes K fx (hlen v ρ' hp) (hl0 v ρ' hp) st₃ I₅ X f₅ (.inr fun b o e => k₅ hw.2.2 b o (k₄ hw.2.1 b o e)) (s'' := { s₅ with heap := h', toks := s₅.toks + 1 }) sb (let ⟨o, _, _, e, _⟩ := hd'; ⟨o, e⟩) (DictOf.noTup hD₅) rfl rfl
      exact ⟨fuel, Nat.lt_succ_self _, i + 1, H1, μ₅, ys ++ [(u, uv)], _, zs, g.1, hd', by rw [List.foldl_append]; exact (rs₅.stored u r₅).all fun q => g.2.2 _ _ q, g.2.1, hrest, by rw [← hall2, ← er, ← ey, List.append_assoc]; rfl⟩
    · exact ⟨fuel, Nat.lt_succ_self _, i + 1, H1, μ₃, ys, kvs, zs, hd₃, hD.at fun o e => dk o e, rs.all fun q => rk _ _ q, st₃, hrest, by rw [← hall2, ← er, ← ey]; rfl⟩
end
end Mine
/-! Snd17 -/
namespace Mine
open PySem PySem.Calls PyProof.Rows PySem.SeqAt PySem.W

/-! the cells that a comprehension takes along -/
noncomputable def clFree (names : Nms) (env : Env) : List (Str × Addr) := (names.filter (fun p => p.2 == .free)).map fun p => (p.1, (env.cells.lookup p.1).getD 0)
theorem closure_eq {scope : Scope} {env : Env} (h : ∀ p ∈ scope.names, p.2 = .free → ∃ c, env.cells.lookup p.1 = some c) : closureFor scope env = pure (clFree scope.names env).reverse := by
  have key : ∀ (names : Nms) (acc : List (Str × Addr)) (f : Str × NameKind → List (Str × Addr) → Sem (ForInStep (List (Str × Addr)))),
      (∀ name kind cs, f (name, kind) cs = if kind == .free then (do let c ← cellOf env name; pure (.yield ((name, c) :: cs))) else pure (.yield cs)) →
      (∀ p ∈ names, p.2 = .free → ∃ c, env.cells.lookup p.1 = some c) → forIn names acc f = pure ((clFree names env).reverse ++ acc) := by
    intro names
    induction names with
    | nil => intro acc f _ _; rfl
    | cons p names ih =>
      intro acc f hf hp
      obtain ⟨x, k⟩ := p
      rw [List.forIn_cons, hf]
      have ih' := fun acc => ih acc f hf fun q hq => hp q (.tail _ hq)
      by_cases hk : (k == NameKind.free) = true
      · obtain ⟨c, hc⟩ := hp (x, k) (.head _) (by simpa using hk)
        have hc' : env.cells.lookup x = some c := hc
        rw [if_pos hk]
        unfold cellOf
        rw [hc']
        simp only [pure_bind]
        rw [ih']
        simp only [clFree, List.filter_cons, hk, if_true, List.map_cons, List.reverse_cons, List.append_assoc, hc', Option.getD_some]
        rfl
      · rw [if_neg hk]
        simp only [pure_bind]
        rw [ih']
        simp only [clFree, List.filter_cons, hk, Bool.false_eq_true, if_false]
  simp only [closureFor]
  rw [key scope.names [] _ (fun name kind cs => by first | rfl | (cases hk : (kind == NameKind.free) <;> simp [hk])) h, List.append_nil, pure_bind]
theorem lookup_of_mem {α : Type} : ∀ {l : List (Str × α)} {x : Str} {c : α}, (x, c) ∈ l → ∃ d, l.lookup x = some d
  | p :: l, x, c, h => by
    obtain ⟨y, d⟩ := p
    rw [List.lookup_cons]
    by_cases e : (x == y) = true
    · rw [e]; exact ⟨d, rfl⟩
    · have e' : (x == y) = false := by simpa using e
      rw [e']
      rcases List.mem_cons.mp h with q | q
      · cases q; simp at e
      · exact lookup_of_mem q
theorem mem_clFree {names : Nms} {env : Env} {x : Str} {c : Addr} (h : (x, c) ∈ (clFree names env).reverse) : (x, NameKind.free) ∈ names ∧ c = (env.cells.lookup x).getD 0 := by
  rw [List.mem_reverse] at h
  obtain ⟨⟨y, k⟩, hm, he⟩ := List.mem_map.mp h
  obtain ⟨h1, h2⟩ := List.mem_filter.mp hm
  first | apply some2 he | cases he
  have : k = .free := by simpa using h2
  subst this
  exact ⟨h1, rfl⟩
theorem lookup_clFree {names : Nms} {env : Env} {x : Str} {c : Addr} (hm : (x, NameKind.free) ∈ names) (hc : env.cells.lookup x = some c) : (clFree names env).reverse.lookup x = some c := by
  have : (x, (env.cells.lookup x).getD 0) ∈ (clFree names env).reverse := by
    rw [List.mem_reverse]
    exact List.mem_map.mpr ⟨(x, .free), List.mem_filter.mpr ⟨hm, rfl⟩, rfl⟩
  obtain ⟨d, hd⟩ := lookup_of_mem this
  have := (mem_clFree (mem_of_lookup hd)).2
  rw [hd, this, hc]; rfl
theorem pw_rev {α : Type} {P : α → α → Prop} (hs : ∀ a b, P a b → P b a) {l : List α} (h : l.Pairwise P) : l.reverse.Pairwise P := by
  rw [List.pairwise_reverse]; exact h.imp fun q => hs _ _ q
theorem apart_clFree {names : Nms} {env : Env} (hn : (names.map (·.1)).Nodup) (ha : env.cells.Pairwise fun x y => x.2 ≠ y.2) (h : ∀ p ∈ names, p.2 = .free → ∃ c, env.cells.lookup p.1 = some c) :
    (clFree names env).reverse.Pairwise fun x y => x.2 ≠ y.2 := by
  refine pw_rev (fun a b q => Ne.symm q) ?_
  unfold clFree
  rw [List.pairwise_map]
  have h1 : (names.filter (fun p => p.2 == .free)).Pairwise fun a b => a.1 ≠ b.1 := by
    have := List.pairwise_map.mp (show (names.map (·.1)).Pairwise (· ≠ ·) from hn)
    exact this.sublist List.filter_sublist
  refine List.Pairwise.imp_of_mem ?_ h1
  intro a b hma hmb hab e
  obtain ⟨ma, ka⟩ := List.mem_filter.mp hma
  obtain ⟨mb, kb⟩ := List.mem_filter.mp hmb
  obtain ⟨c, hc⟩ := h a ma (by simpa using ka)
  obtain ⟨d, hd⟩ := h b mb (by simpa using kb)
  rw [hc, hd] at e
  have : c = d := e
  subst this
  exact hab (name_of_addr ha (mem_of_lookup hc) (mem_of_lookup hd))

/-! the frame of a comprehension -/
noncomputable def relN (inn out : Nms) : Nms := inn.map fun (n, k) => if (k == .free && out.lookup n == some .cell) then (n, .cell) else (n, k)
/-- inner names, outer names, where the free ones come from -/
noncomputable def chkFr (inn out : Nms) (fr : List (Nat × Nat)) : Bool :=
  decide ((inn.map (·.1)).Nodup) && inn.all (fun p => !(p.2 == .cell) && (!(p.2 == .local) || decide (inn.lookup p.1 = some .local))) &&
  fr.all (fun p => match inn[p.1]?, out[p.2]? with
    | some (x, .free), some (y, k) => decide (x = y) && (decide (k = .cell) || decide (k = .free))
    | _, _ => false) &&
  (List.range inn.length).all (fun i => match inn[i]? with
    | some (_, .free) => fr.any (fun p => p.1 == i)
    | _ => true)
theorem frame_get {k : Nat} {fr : List (Nat × Nat)} {ρ : Loc} {i : Nat} {v : V} (h : (frameOf k fr ρ)[i]? = some (some v)) : ∃ j, (i, j) ∈ fr ∧ ρ[j]? = some (some v) := by
  have key : ∀ (fr : List (Nat × Nat)) (r : Loc), (fr.foldl (fun r p => r.set p.1 (ρ.getD p.2 none)) r)[i]? = some (some v) → r[i]? = some (some v) ∨ ∃ j, (i, j) ∈ fr ∧ ρ[j]? = some (some v) := by
    intro fr
    induction fr with
    | nil => intro r h; exact .inl h
    | cons p fr ih =>
      intro r h
      rw [List.foldl_cons] at h
      rcases ih _ h with h | ⟨j, h1, h2⟩
      · by_cases e : i = p.1
        · subst e
          have hl : p.1 < r.length := by have := lt_of_some h; simpa using this
          rw [List.getElem?_set_self hl] at h
          refine .inr ⟨p.2, .head _, ?_⟩
          cases q : ρ[p.2]? with
          | none => rw [List.getD_eq_getElem?_getD, q] at h; simp at h
          | some o => rw [List.getD_eq_getElem?_getD, q] at h; simpa using h
        · rw [List.getElem?_set_ne (Ne.symm e)] at h
          exact .inl h
      · exact .inr ⟨j, .tail _ h1, h2⟩
  rcases key fr _ h with h | h
  · rw [List.getElem?_replicate] at h
    split at h <;> simp at h
  · exact h
theorem frame_len (k : Nat) (fr : List (Nat × Nat)) (ρ : Loc) : (frameOf k fr ρ).length = k := by
  have key : ∀ (fr : List (Nat × Nat)) (r : Loc), (fr.foldl (fun r p => r.set p.1 (ρ.getD p.2 none)) r).length = r.length := by
    intro fr
    induction fr with
    | nil => intro r; rfl
    | cons p fr ih => intro r; rw [List.foldl_cons, ih]; simp
  unfold frameOf
  rw [key]; simp
theorem relabel_names (scope : Scope) (env : Env) (hk : env.scope.kind = .function) : (relabel scope env).names = relN scope.names env.scope.names := by
  unfold relabel relN Env.kindOf
  simp [hk]
theorem relN_fst (inn out : Nms) : (relN inn out).map (·.1) = inn.map (·.1) := by
  unfold relN
  rw [List.map_map]
  congr 1
  funext p
  obtain ⟨x, k⟩ := p
  simp only [Function.comp]
  split <;> rfl
theorem relN_get {inn out : Nms} {i : Nat} {x : Str} {k : NameKind} (h : (relN inn out)[i]? = some (x, k)) : ∃ k', inn[i]? = some (x, k') ∧ (k = k' ∨ (k = .cell ∧ k' = .free)) := by
  unfold relN at h
  rw [List.getElem?_map] at h
  cases e : inn[i]? with
  | none => rw [e] at h; cases h
  | some p =>
    obtain ⟨y, k'⟩ := p
    rw [e] at h
    simp only [Option.map_some] at h
    split at h
    · rename_i hc
      cases h
      simp only [Bool.and_eq_true, beq_iff_eq] at hc
      exact ⟨k', rfl, .inr ⟨rfl, hc.1⟩⟩
    · cases h
      exact ⟨_, rfl, .inl rfl⟩

section
variable {prog : Program} {w : World} {base : Heap} {os : OsState} {s s' : Shared} {H : AH} {μ : List Addr} {env : Env} {ρ : Loc}
theorem chkFr_free {inn out : Nms} {fr : List (Nat × Nat)} (hc : chkFr inn out fr = true) {i j : Nat} (hm : (i, j) ∈ fr) : ∃ x k, inn[i]? = some (x, .free) ∧ out[j]? = some (x, k) ∧ (k = .cell ∨ k = .free) := by
  unfold chkFr at hc
  simp only [Bool.and_eq_true] at hc
  have := List.all_eq_true.mp hc.1.2 _ hm
  dsimp only at this
  split at this
  · rename_i x y k h1 h2
    simp only [Bool.and_eq_true, Bool.or_eq_true, decide_eq_true_eq] at this
    obtain ⟨rfl, h3⟩ := this
    exact ⟨x, k, h1, h2, h3⟩
  · cases this
theorem chkFr_has {inn out : Nms} {fr : List (Nat × Nat)} (hc : chkFr inn out fr = true) {i : Nat} {x : Str} (h : inn[i]? = some (x, .free)) : ∃ j, (i, j) ∈ fr := by
  unfold chkFr at hc
  simp only [Bool.and_eq_true] at hc
  have := List.all_eq_true.mp hc.2 i (List.mem_range.mpr (lt_of_some h))
  rw [h] at this
  dsimp only at this
  obtain ⟨p, hp, he⟩ := List.any_eq_true.mp this
  obtain ⟨a, b⟩ := p
  have : a = i := by simpa using he
  subst this
  exact ⟨b, hp⟩
theorem chkFr_nd {inn out : Nms} {fr : List (Nat × Nat)} (hc : chkFr inn out fr = true) : (inn.map (·.1)).Nodup := by
  unfold chkFr at hc
  simp only [Bool.and_eq_true, decide_eq_true_eq] at hc
  exact hc.1.1.1
theorem chkFr_loc {inn out : Nms} {fr : List (Nat × Nat)} (hc : chkFr inn out fr = true) : ∀ p ∈ inn, p.2 ≠ .cell ∧ (p.2 = .local → inn.lookup p.1 = some .local) := by
  unfold chkFr at hc
  simp only [Bool.and_eq_true] at hc
  intro p hp
  have := List.all_eq_true.mp hc.1.1.2 p hp
  simp only [Bool.and_eq_true, Bool.or_eq_true, Bool.not_eq_true', beq_eq_false_iff_ne, decide_eq_true_eq] at this
  refine ⟨this.1, fun h => ?_⟩
  rcases this.2 with h' | h'
  · exact absurd h h'
  · exact h'
theorem cells_there (f : FrameOk base s.heap μ env ρ) {inn : Nms} {fr : List (Nat × Nat)} (hc : chkFr inn env.scope.names fr = true) : ∀ p ∈ inn, p.2 = .free → ∃ c, env.cells.lookup p.1 = some c := by
  intro p hp hk
  obtain ⟨i, hi⟩ := List.mem_iff_getElem?.mp hp
  obtain ⟨x, k⟩ := p
  dsimp only at hk
  subst hk
  obtain ⟨j, hj⟩ := chkFr_has hc hi
  obtain ⟨y, k, h1, h2, h3⟩ := chkFr_free hc hj
  rw [hi] at h1; cases h1
  obtain ⟨c, ov, h4, _⟩ := f.cell j _ _ h2 h3
  exact ⟨c, h4⟩
theorem comp_frame {h' : Heap} (f : FrameOk base s.heap μ env ρ) (I : Inv prog w base os s H μ) {scope : Scope} {fr : List (Nat × Nat)} {k : Nat} (hk : scope.kind = .function) (hc : chkFr scope.names env.scope.names fr = true) (hl : scope.names.length = k)
    {C : Addr} (hC : s.heap.get? C = none) {m : Str → Option Value} (hm : h'.Ns C m) (kp : Keep s.heap h') : FrameOk base h' μ (compEnvC scope (clFree scope.names env).reverse C env) (frameOf k fr ρ) := by
  have hnm : (compEnvC scope (clFree scope.names env).reverse C env).scope.names = relN scope.names env.scope.names := relabel_names scope env f.kind
  have f' := f.mvw (Mv.of_keep (wr := []) kp) noF (fun _ q => nomatch q)
  refine ⟨hk, f.glob, f.bi, ?_, ?_, ⟨m, hm, fun i x v h1 h2 => ?_⟩, fun i x kd h1 h2 => ?_, apart_clFree (chkFr_nd hc) f.apart (cells_there f hc), fun x c hm => ?_, ?_⟩
  · rw [frame_len, hnm]
    have := congrArg List.length (relN_fst scope.names env.scope.names)
    simp at this; omega
  · rw [hnm, relN_fst]; exact chkFr_nd hc
  · exfalso
    rw [hnm] at h1
    obtain ⟨j, h3, h4⟩ := frame_get h2
    obtain ⟨y, k', h5, h6, _⟩ := chkFr_free hc h3
    obtain ⟨k2, h7, h8⟩ := relN_get h1
    rw [h5] at h7; cases h7
    rcases h8 with h8 | h8 <;> cases h8
    rename_i q _; cases q
  · rw [hnm] at h1
    obtain ⟨k2, h3, h4⟩ := relN_get h1
    have hm0 := List.mem_of_getElem? h3
    have hk2 : k2 = .free := by
      rcases h4 with rfl | ⟨_, rfl⟩
      · rcases h2 with rfl | rfl
        · exact absurd rfl (chkFr_loc hc _ hm0).1
        · rfl
      · rfl
    subst hk2
    obtain ⟨j, hj⟩ := chkFr_has hc h3
    obtain ⟨y, kd', h5, h6, h7⟩ := chkFr_free hc hj
    rw [h3] at h5; cases h5
    obtain ⟨c, ov, h8, h9, h10⟩ := f'.cell j _ _ h6 h7
    refine ⟨c, ov, lookup_clFree hm0 h8, h9, fun v hv => ?_⟩
    obtain ⟨j', h11, h12⟩ := frame_get hv
    obtain ⟨y', kd'', h13, h14, _⟩ := chkFr_free hc h11
    rw [h3] at h13; cases h13
    have : j' = j := nd_names f.nd h14 h6
    subst this
    exact h10 v h12
  · obtain ⟨h1, h2⟩ := mem_clFree hm
    obtain ⟨d, hd⟩ := cells_there f hc _ h1 rfl
    have hd' : env.cells.lookup x = some d := hd
    rw [hd'] at h2
    have : c = d := h2
    subst this
    obtain ⟨a1, a2, a3, a4⟩ := f'.away x c (mem_of_lookup hd')
    obtain ⟨_, _, _, ov, o, ho, _⟩ := f.away x c (mem_of_lookup hd')
    refine ⟨fun e => ?_, a2, a3, a4⟩
    have e' : c = C := e
    subst e'
    rw [hC] at ho; cases ho
  · refine ⟨fun q => ?_, I.baseNone hC⟩
    obtain ⟨o, e⟩ := I.live q
    have e' : s.heap.get? C = some o := e
    rw [hC] at e'; cases e'
end
end Mine
/-! Snd18 -/
namespace Mine
open PySem PySem.Calls PyProof.Rows PySem.SeqAt PySem.W

/-! where the items come from -/
inductive SrcIs (H : AH) : Src → V → (AH → Nat → Option (Option V)) → Nat → Bool → Prop
  | tup (l : List V) : SrcIs H .plain (.tup l) (nxI l) (l.length + 1) false
  | list {j : Nat} {l : List V} : H[j]? = some (.list l) → SrcIs H .plain (.ref j) (nxL j) (l.length + 1) false
  | dict {j : Nat} {l : List (Key × V)} : H[j]? = some (.dict l) → SrcIs H .plain (.ref j) (nxI (l.map fun p => keyV p.1)) (l.length + 1) true
  | range {n : Int} : -1000000 ≤ n ∧ n ≤ 1000000 → SrcIs H .range (.int n) (nxI (rangeI n)) ((rangeI n).length + 1) false
  | enum {j : Nat} {l : List V} : H[j]? = some (.list l) → SrcIs H .enum (.ref j) (nxI (enumI l)) ((enumI l).length + 1) true
noncomputable def isTupE (e : Expr) : Bool := isTup e fun _ _ _ => true
noncomputable def notSet : Expr → Bool
  | .Set .. => false
  | _ => true
theorem folded_eq {e : Expr} (h : notSet e = true) (env : Env) (x : Value) : foldedSetIterable e env x = pure x := by
  cases e <;> first | rfl | cases h

section
variable {prog : Program} {w : World} {base : Heap} {os : OsState} {nm : NT} {G : GTab} {F : Calls} {mg mb : Str → Option Value} {n : Nat} {names : Nms}
variable {A : Around} {E : Value → Shared → Prop} {s s' : Shared} {H H' H1 : AH} {μ : List Addr} {ρ : Loc} {env : Env} {v a : V} {x y z : Value} {Q : Value → Shared → Prop}

theorem RelD.keys {h : Heap} {l : List (Key × V)} {kvs : List (Key × Value)} (d : RelD h μ l kvs) : kvs.map (·.1) = l.map (·.1) := by
  induction d with
  | nil => rfl
  | cons _ _ ih => simp only [List.map_cons, ih]
theorem bi_range : biTab.lookup ("range" : Str) = some (.type "range") := by decide +kernel
theorem bi_enum : biTab.lookup ("enumerate" : Str) = some (.type "enumerate") := by decide +kernel
/-- an iterator at its start: h₁ is the heap with the iterable alone -/
noncomputable def SrcP (prog : Program) (w : World) (A : Around) (base : Heap) (os : OsState) (target : Expr) (h : Heap) (μ : List Addr) (H1 : AH) (nx : AH → Nat → Option (Option V)) (nc : Bool) (itv : Value) (s₂ : Shared) : Prop :=
  ∃ (I : Addr) (wl wr : List Addr) (St : Nat → Heap → List Addr → Prop) (h₁ : Heap) (μ₁ : List Addr), itv = .ref I ∧ ItOk prog w A base os target I wl wr nx St ∧ St 0 s₂.heap μ₁ ∧ Inv prog w base os s₂ H1 μ₁ ∧ Ext h h₁ μ μ₁ [] ∧ Keep h₁ s₂.heap ∧
    (∀ b ∈ wr, h₁.get? b = none) ∧ (∀ b ∈ wr, b ∉ μ₁) ∧ (∀ b ∈ wr, base.get? b = none) ∧ (∀ b ∈ wl, b ∈ wr ∨ b ∈ μ₁) ∧ ((∀ b ∈ wl, b ∈ wr) ∨ nc = true)

/-- the iterator of a value -/
theorem iter_snd (hsys : Big base) (hh : A.handled = none) {target : Expr} {h : Heap} (X : Ext h s.heap μ μ []) (I : Inv prog w base os s H μ) {nx : AH → Nat → Option (Option V)} {fuel : Nat} {nc : Bool} (e : SrcIs H .plain a nx fuel nc) (ra : Rel s.heap μ a x) :
    wpAny (model prog w) A (pyIter x) (fun itv s₂ => fuel ≤ lineN + 1 ∧ SrcP prog w A base os target s.heap μ H nx nc itv s₂) E s := by
  have hn := get?_size s.heap
  have one : ∀ b ∈ [s.heap.objs.size], s.heap.get? b = none := fun b hb => List.mem_singleton.mp hb ▸ hn
  have oneμ : ∀ b ∈ [s.heap.objs.size], b ∉ μ := fun b hb q => by obtain ⟨o, e⟩ := I.live q
                                                                  rw [one b hb] at e; cases e
  have oneb : ∀ b ∈ [s.heap.objs.size], base.get? b = none := fun b hb => I.baseNone (one b hb)
  cases e with
  | tup l =>
    obtain ⟨p, vs, k, rfl, hp, rs, hl⟩ := ra.inj_tup
    refine wpAny_pyIter_tuple ⟨_, hp, rfl, k, rfl⟩ ?_
    have K := Keep.push s.heap { cls := .type "tuple_iterator", data := .fields #[.ref p, .int 0 0] }
    exact ⟨Nat.succ_le_succ hl, s.heap.objs.size, _, _, _, s.heap, μ, rfl, it_tuple hh target _ l, ⟨p, ⟨_, Heap.get?_push_size _ rfl, rfl, rfl⟩, ra.mvw (Mv.of_keep (wr := []) K) noF⟩, I.keep K, Ext.refl _ _ _, K, one, oneμ, oneb, fun _ q => .inl q, .inl fun _ q => q⟩
  | @list j l hl =>
    obtain ⟨p, rfl, hp⟩ := ra.inj_ref
    obtain ⟨vs, k, h1, rs, hlen⟩ := I.list hp hl
    refine wpAny_pyIter_list ⟨_, h1, rfl, k, rfl⟩ ?_
    have K := Keep.push s.heap { cls := .type "list_iterator", data := .fields #[.ref p, .int 0 0] }
    exact ⟨Nat.succ_le_succ hlen, s.heap.objs.size, _, _, _, s.heap, μ, rfl, it_list hh target _ j, ⟨p, ⟨_, Heap.get?_push_size _ rfl, rfl, rfl⟩, hp⟩, I.keep K, Ext.refl _ _ _, K, one, oneμ, oneb, fun _ q => .inl q, .inl fun _ q => q⟩
  | @dict j l hl =>
    obtain ⟨p, rfl, hp⟩ := ra.inj_ref
    obtain ⟨kvs, hd, rd, hlen⟩ := I.dict hp hl
    obtain ⟨ep, hd'⟩ := hd.dictAt
    refine wpAny_pyIter_dict (knd := kn prog w) (sysNe hsys (I.fresh _ p _ hp hl rfl)) hd' ?_
    have K := Keep.push s.heap { cls := .type "dict_keyiterator", data := .fields #[.ref p, .int 0 0, .int kvs.length 0, .int ep 0] }
    exact ⟨Nat.succ_le_succ hlen, s.heap.objs.size, _, _, _, s.heap, μ, rfl, it_dict hh target _ p (Nat.ne_of_lt hd'.lt_size) l kvs ep rd.keys, ⟨⟨_, Heap.get?_push_size _ rfl, rfl, rfl⟩, hd'.push _⟩, I.keep K, Ext.refl _ _ _, K, one, oneμ, oneb, fun b hb => by
      rcases List.mem_cons.mp hb with rfl | hb
      · exact .inl (.head _)
      · rw [List.mem_singleton.mp hb]; exact .inr (List.mem_of_getElem? hp), .inr rfl⟩

theorem src_plain (gl : Gl prog w base nm G mg mb) {it : PE} {e : Expr} (hE : EvOk prog w base os G F n names it e) {target : Expr} (hA : Room n A) (hn : env.scope.names = names) (I : Inv prog w base os s H μ) (f : FrameOk base s.heap μ env ρ)
    (he : ev G F it ρ H = some (a, H1)) {nx : AH → Nat → Option (Option V)} {fuel : Nat} {nc : Bool} (hs : SrcIs H1 .plain a nx fuel nc) :
    wpAny (model prog w) A (eval e env) (fun x s₁ => wpAny (model prog w) A (pyIter x) (fun itv s₂ => fuel ≤ lineN + 1 ∧ SrcP prog w A base os target s.heap μ H1 nx nc itv s₂) E s₁) E s := by
  refine hE.run hA hn I f he fun x s₁ μ₁ I₁ X₁ r₁ k₁ f₁ => mono (iter_snd gl.sys hA.handled (target := target) (h := s₁.heap) (Ext.refl _ _ _) I₁ hs r₁) fun itv s₂ q => ?_
  obtain ⟨q0, J, wl, wr, St, h₁, μ₂, a1, a2, a3, a4, a5, a6, a7⟩ := q
  exact ⟨q0, J, wl, wr, St, h₁, μ₂, a1, a2, a3, a4, X₁.trans a5, a6, a7⟩
theorem src_range (gl : Gl prog w base nm G mg mb) {it : PE} {e : Expr} (hE : EvOk prog w base os G F n names it e) (hst : notStar e = true) {p pos : Pos} (hd : globOk names "range" = true) {target : Expr} (hA : Room n A) (hn : env.scope.names = names) (I : Inv prog w base os s H μ) (f : FrameOk base s.heap μ env ρ)
    (he : ev G F it ρ H = some (a, H1)) {nx : AH → Nat → Option (Option V)} {fuel : Nat} {nc : Bool} (hs : SrcIs H1 .range a nx fuel nc) :
    wpAny (model prog w) A (eval (.Call (.Name "range" p) [e] [] pos) env) (fun x s₁ => wpAny (model prog w) A (pyIter x) (fun itv s₂ => fuel ≤ lineN + 1 ∧ SrcP prog w A base os target s.heap μ H1 nx nc itv s₂) E s₁) E s := by
  subst hn
  refine Call_ (bi_snd gl I f hd bi_range (PyProof.Rows.callWith_type1 ?_ (starEach_cons hst _ _) rfl))
  refine args_cons (hE.run hA rfl I f he fun x s₁ μ₁ I₁ X₁ r₁ k₁ f₁ => args_nil ?_) (starEach_cons hst _ _)
  cases hs with | @range N hN =>
  obtain ⟨t, rfl⟩ := r₁.inj_int
  have hrl : (rangeI N).length = N.toNat := by simp [rangeI]
  have hlo : lineN = 1048576 := by decide
  refine call_range_1 (wpAny_pyIter_range (IsRange.new ..) (small_one (by omega) (by omega) (by omega) (by omega)) ?_)
  have hsz : Builtin.Range.rangeSize 0 N 1 = ((N.toNat : Int)) := by rw [rangeSize_one]; split <;> omega
  rw [hsz]
  have K1 := Keep.push s₁.heap { cls := .type "range", data := .fields #[.int 0 s₁.toks, .int N t, .int 1 (s₁.toks + 1)] }
  have K2 := Keep.push (s₁.heap.push { cls := .type "range", data := .fields #[.int 0 s₁.toks, .int N t, .int 1 (s₁.toks + 1)] }) { cls := .type "range_iterator", data := .fields #[rawInt 0, rawInt (N.toNat : Int), rawInt 1] }
  have K : Keep s₁.heap ((s₁.heap.push { cls := .type "range", data := .fields #[.int 0 s₁.toks, .int N t, .int 1 (s₁.toks + 1)] }).push { cls := .type "range_iterator", data := .fields #[rawInt 0, rawInt (N.toNat : Int), rawInt 1] }) := fun b o e => K2 b o (K1 b o e)
  have hb : s₁.heap.get? (s₁.heap.push { cls := .type "range", data := .fields #[.int 0 s₁.toks, .int N t, .int 1 (s₁.toks + 1)] }).objs.size = none := Heap.get?_none_of_le (by rw [Heap.size_push]; omega)
  refine ⟨by omega, _, _, _, _, s₁.heap, μ₁, rfl, it_range hA.handled target _ N, ?_, I₁.keep K, X₁, K, ?_, ?_, ?_, fun _ q => .inl q, .inl fun _ q => q⟩
  · have := Heap.get?_push_size (s₁.heap.push { cls := .type "range", data := .fields #[.int 0 s₁.toks, .int N t, .int 1 (s₁.toks + 1)] }) (o := { cls := .type "range_iterator", data := .fields #[rawInt 0, rawInt (N.toNat : Int), rawInt 1] }) rfl
    simpa using this
  · intro b hb'
    rw [List.mem_singleton.mp hb']; exact hb
  · intro b hb' q
    obtain ⟨o, e⟩ := I₁.live q
    rw [List.mem_singleton.mp hb', hb] at e; cases e
  · intro b hb'
    rw [List.mem_singleton.mp hb']; exact I₁.baseNone hb
theorem src_enum (gl : Gl prog w base nm G mg mb) {it : PE} {e : Expr} (hE : EvOk prog w base os G F n names it e) (hst : notStar e = true) {p pos : Pos} (hd : globOk names "enumerate" = true) {elts : List Expr} {k : Nat} {tp : Pos} (hA : Room n A) (hn : env.scope.names = names) (I : Inv prog w base os s H μ) (f : FrameOk base s.heap μ env ρ)
    (he : ev G F it ρ H = some (a, H1)) {nx : AH → Nat → Option (Option V)} {fuel : Nat} {nc : Bool} (hs : SrcIs H1 .enum a nx fuel nc) :
    wpAny (model prog w) A (eval (.Call (.Name "enumerate" p) [e] [] pos) env) (fun x s₁ => wpAny (model prog w) A (pyIter x) (fun itv s₂ => fuel ≤ lineN + 1 ∧ SrcP prog w A base os (.Tuple elts k tp) s.heap μ H1 nx nc itv s₂) E s₁) E s := by
  subst hn
  refine Call_ (bi_snd gl I f hd bi_enum (PyProof.Rows.callWith_type1 ?_ (starEach_cons hst _ _) rfl))
  refine args_cons (hE.run hA rfl I f he fun x s₁ μ₁ I₁ X₁ r₁ k₁ f₁ => args_nil ?_) (starEach_cons hst _ _)
  cases hs with | @enum j l hl =>
  obtain ⟨q, rfl, hq⟩ := r₁.inj_ref
  obtain ⟨vs, m, h1, rs, hlen⟩ := I₁.list hq hl
  have hrl : (enumI l).length = l.length := by simp [enumI]
  refine call_enumerate_list (items := vs.toArray) ⟨_, h1, rfl, m, rfl⟩ fun h' hE' hI' hz K => ?_
  refine wpAny_pyIter_enum (s := { s₁ with heap := h' }) hE' ?_
  have n1 : s₁.heap.get? s₁.heap.objs.size = none := get?_size _
  have n2 : s₁.heap.get? (s₁.heap.objs.size + 1) = none := Heap.get?_none_of_le (by omega)
  have hql : q < s₁.heap.objs.size := Heap.lt_size h1
  have nn : ∀ b ∈ [s₁.heap.objs.size + 1, s₁.heap.objs.size], s₁.heap.get? b = none := fun b hb => by
    rcases List.mem_cons.mp hb with rfl | hb
    · exact n2
    · rw [List.mem_singleton.mp hb]; exact n1
  refine ⟨by omega, _, _, _, _, s₁.heap, μ₁, rfl, it_enum hA.handled elts k tp (s₁.heap.objs.size + 1) s₁.heap.objs.size q (Nat.succ_ne_self _) (Nat.ne_of_lt (Nat.lt_succ_of_lt hql)) (Nat.ne_of_lt hql) l vs m, ⟨⟨.none, hE'⟩, hI', K _ _ h1, rs.mvw (Mv.of_keep (wr := []) K) noF⟩, I₁.keep K, X₁, K, nn, ?_, fun b hb => I₁.baseNone (nn b hb), fun b hb => ?_, .inr rfl⟩
  · intro b hb q
    obtain ⟨o, e⟩ := I₁.live q
    rw [nn b hb] at e; cases e
  · rcases List.mem_cons.mp hb with rfl | hb
    · exact .inl (.head _)
    · rcases List.mem_cons.mp hb with rfl | hb
      · exact .inl (.tail _ (.head _))
      · rw [List.mem_singleton.mp hb]; exact .inr (List.mem_of_getElem? hq)
end
end Mine
/-! Snd19 -/
namespace Mine
open PySem PySem.Calls PyProof.Rows PySem.SeqAt PySem.W

/-- a comprehension has run; its names (at C) have not gone yet -/
noncomputable def CompEnd (prog : Program) (w : World) (base : Heap) (os : OsState) (h : Heap) (μ : List Addr) (H' : AH) (v : V) (x : Value) (C : Addr) (s' : Shared) : Prop :=
  ∃ μ', Inv prog w base os s' H' μ' ∧ Ext h s'.heap μ μ' [] ∧ Rel s'.heap μ' v x ∧ C ∉ μ' ∧ base.get? C = none ∧ h.get? C = none ∧ ∃ m, s'.heap.Ns C m

section
variable {prog : Program} {w : World} {base : Heap} {os : OsState} {nm : NT} {G : GTab} {F : Calls} {mg mb : Str → Option Value} {n : Nat} {names : Nms}
variable {A : Around} {E : Value → Shared → Prop} {s s' : Shared} {H H' H1 Hf : AH} {μ : List Addr} {ρ : Loc} {env : Env} {v a : V} {x y z : Value} {Q : Value → Shared → Prop}

theorem ns_nt {h : Heap} {C : Addr} {m : Str → Option Value} (hn : h.Ns C m) : NoTup h [C] := fun b hb vs k e => by
  rw [List.mem_singleton.mp hb] at e
  obtain ⟨o, es, ep, ho, hd, _⟩ := hn
  cases ho.symm.trans e
  cases hd
/-- the names go -/
theorem CompEnd.post {h : Heap} {C : Addr} (c : CompEnd prog w base os h μ H' v x C s) {h' : Heap} (sb : Heap.SameBut C s.heap h') : Post prog w base os h μ H' v false x { s with heap := h' } := by
  obtain ⟨μ', I, X, r, c1, c2, c3, m, hn⟩ := c
  have mv := Mv.sameBut sb
  have nt := ns_nt hn
  refine ⟨μ', I.mvw (s' := { s with heap := h' }) mv nt (fun b hb => ?_) (fun b hb => ?_), X.mvw mv (fun b hb => ?_), r.mvw mv nt, fun q => nomatch q⟩
  · rw [List.mem_singleton.mp hb]; exact c1
  · rw [List.mem_singleton.mp hb]; exact c2
  · rw [List.mem_singleton.mp hb]; exact c3

theorem end_of_left {h h₀ : Heap} {μ₀ : List Addr} {C D : Addr} {m : MO} (X : Ext h h₀ μ μ₀ []) (L : Left prog w base os h₀ μ₀ C D Hf μ' s) (dn : h.get? D = none) (cn : h.get? C = none) (db : base.get? D = none ∧ D ≠ sysModules) (lv : ∃ o, s.heap.get? D = some o)
    (nt : ∀ vs k, s.heap.get? D ≠ some (tupObj vs k)) (hm : ObjR prog w s.heap μ' D m) : CompEnd prog w base os h μ (Hf ++ [m]) (.ref Hf.length) (.ref D) C s := by
  have kk : ∀ a o, s.heap.get? a = some o → a ∉ μ' → a ∉ ([] : List Addr) → s.heap.get? a = some o := fun a o e _ _ => e
  have hm' : ObjR prog w s.heap (μ' ++ [D]) D m := hm.map (fun _ q => q) fun r => r.ext0 kk L.inv.noTup noF
  obtain ⟨a1, a2, a3, _⟩ := adopt4 (sm := false) (s' := s) (X.trans L.ext) (fun _ q => nomatch q) L.inv dn db L.dμ nt lv (fun b o _ e => e) (fun q => nomatch q) hm'
  refine ⟨μ' ++ [D], a1, a2, a3, fun q => ?_, L.cb, cn, L.ns⟩
  rcases List.mem_append.mp q with q | q
  · exact L.cμ q
  · exact L.dc (List.mem_singleton.mp q).symm

theorem comp_run (hA : Room n A) {e : Expr} {target iter : Expr} {ifs : List Expr} {scope : Scope} {p : Pos} {use : Option (Value → Sem Unit)} {newAcc : Sem Value} {ob : Obj} {fr : List (Nat × Nat)} {k : Nat} {nx : AH → Nat → Option (Option V)} {nc : Bool} {m : MO} {P0 : Prop}
    (I : Inv prog w base os s H μ) (f : FrameOk base s.heap μ env ρ) (hn : env.scope.names = names)
    (hcl : clausesOf e = [⟨target, iter, ifs, 0⟩]) (hset : notSet iter = true) (hk : scope.kind = .function) (hfr : chkFr scope.names names fr = true) (hlen : scope.names.length = k)
    (hacc : ∀ (Q : Value → Shared → Prop) (E : Value → Shared → Prop) (s : Shared), Q (.ref s.heap.objs.size) { s with heap := s.heap.push ob } → wpAny (model prog w) A newAcc Q E s) (hfree : ob.isFreed = false) (hcls : ob.cls ≠ .type "tuple")
    (hstart : ∀ (it acc : Value) (env : Env) (R : Result → Shared → Prop) (s : Shared), codeAny (model prog w) A (.compLoop e 0 it acc env) R s →
      wpAny (model prog w) A (pyIter it) (fun it' s' => codeAny (model prog w) A (.compLoop e 0 it' acc env) R s') (notedBy (model prog w) A env fun x s' => R (.error x) s') s → codeAny (model prog w) A (.compStart e 0 it acc env) R s)
    (hsrc : wpAny (model prog w) A (eval iter env) (fun x s₁ => wpAny (model prog w) A (pyIter x) (fun itv s₂ => P0 ∧ SrcP prog w A base os target s.heap μ H1 nx nc itv s₂) E s₁) E s)
    (hloop : P0 → ∀ (D : Addr) (cenv : Env) (h₀ : Heap) (μ₀ : List Addr) (it : Addr) (wl wr : List Addr) (St : Nat → Heap → List Addr → Prop) (s : Shared) (μ : List Addr) (R : Result → Shared → Prop), ItOk prog w A base os target it wl wr nx St → Fixed base h₀ cenv D wl wr →
      Head prog w base os h₀ μ₀ cenv (frameOf k fr ρ) D wl wr H1 μ s → s.heap.get? D = some ob → St 0 s.heap μ → cenv.scope.names = relN scope.names names → ((∀ b ∈ wl, b ∈ wr) ∨ nc = true) →
      (∀ s' μ', Left prog w base os h₀ μ₀ cenv.locals D Hf μ' s' → (∃ o, s'.heap.get? D = some o) → (∀ vs k, s'.heap.get? D ≠ some (tupObj vs k)) → ObjR prog w s'.heap μ' D m → R (.ok .next) s') → codeAny (model prog w) A (.compLoop e 0 (.ref it) (.ref D) cenv) R s)
    (hfin : ∀ (C D : Addr) (s' : Shared), CompEnd prog w base os s.heap μ (Hf ++ [m]) (.ref Hf.length) (.ref D) C s' → compPost (model prog w) A E use Q (.ref D) C (.ok .next) s') :
    wpAny (model prog w) A (comprehension e scope env p newAcc false (eval iter env) use) Q E s := by
  subst hn
  have hloc := chkFr_loc hfr
  refine wpAny_comprehension_free hcl (folded_eq hset env) (closure_eq (cells_there f hfr)) hk (fun x hx hl => (hloc x hx).2 hl) (mono hsrc fun x s₁ q => mono q fun itv s₂ q => ?_)
  obtain ⟨p0, it, wl, wr, St, h₁, μ₁, rfl, K, st, I₂, X₁, K₁, wn, wμ, wb, wlm, hwl⟩ := q
  refine hacc _ _ _ ?_
  have n2 := get?_size s₂.heap
  have KD := Keep.push s₂.heap ob
  have hD : (s₂.heap.push ob).get? s₂.heap.objs.size = some ob := Heap.get?_push_size _ hfree
  refine wpAny_newFunctionEnv (fun x hx => (hloc x hx).1) (fun y hy => by simp at hy) (fun h₃ hns hsb => ?_) hk
  have hC0 : (s₂.heap.push ob).objs.size = s₂.heap.objs.size + 1 := Heap.size_push ..
  have hns' : h₃.Ns (s₂.heap.push ob).objs.size (fun x => ([] : List (Str × Value)).reverse.lookup x) := hns
  have nC : s₂.heap.get? (s₂.heap.push ob).objs.size = none := Heap.get?_none_of_le (by rw [hC0]; omega)
  have kC : ∀ b o, (s₂.heap.push ob).get? b = some o → h₃.get? b = some o := fun b o e => by
    have hb : b < (s₂.heap.push ob).objs.size := Heap.lt_size e
    exact (hsb.2 b (Nat.ne_of_lt hb)).trans (Heap.get?_push_of_some _ e)
  have KK : Keep s₂.heap h₃ := fun b o e => kC b o (KD b o e)
  have hD₃ : h₃.get? s₂.heap.objs.size = some ob := kC _ _ hD
  have hDC : s₂.heap.objs.size ≠ (s₂.heap.push ob).objs.size := by rw [hC0]; exact Nat.ne_of_lt (Nat.lt_succ_self _)
  have none1 : ∀ b, s₂.heap.get? b = none → h₁.get? b = none := fun b hb => by
    cases q : h₁.get? b with
    | none => rfl
    | some o => rw [K₁ b o q] at hb; cases hb
  have none0 : ∀ b, h₁.get? b = none → s.heap.get? b = none := fun b hb => by
    cases q : s.heap.get? b with
    | none => rfl
    | some o => obtain ⟨o', e⟩ := X₁.live b o q; rw [hb] at e; cases e
  have X₂ : Ext h₁ s₂.heap μ₁ μ₁ [] := Ext.of_keep K₁ _ _
  have f₂ : FrameOk base s₂.heap μ₁ env ρ := f.ext (X₁.trans X₂) I.noTup
  have cf := comp_frame (fr := fr) (k := k) f₂ I₂ hk hfr hlen nC hns' KK
  have I₃ : Inv prog w base os { s₂ with heap := h₃, toks := s₂.toks + ([] : List (Str × Value)).length } H1 μ₁ := I₂.keep KK
  have live : ∀ b ∈ wl, ∃ o, s₂.heap.get? b = some o := K.live _ _ _ st
  have dl : ∀ b ∈ wl, b ≠ s₂.heap.objs.size := fun b hb e => by
    obtain ⟨o, e'⟩ := live b hb
    rw [e, n2] at e'; cases e'
  have ownC : ∀ b ∈ own (compEnvC scope (clFree scope.names env).reverse (s₂.heap.push ob).objs.size env), b = (s₂.heap.push ob).objs.size ∨ ∃ x, (x, b) ∈ env.cells := by
    intro b hb
    rcases List.mem_cons.mp hb with rfl | hb
    · exact .inl rfl
    · right
      obtain ⟨⟨x, c⟩, hm, rfl⟩ := List.mem_map.mp hb
      obtain ⟨h1, h2⟩ := mem_clFree hm
      obtain ⟨d, hd⟩ := cells_there f hfr _ h1 rfl
      have hd' : env.cells.lookup x = some d := hd
      rw [hd'] at h2
      exact ⟨x, by have : c = d := h2
                   rw [this]; exact mem_of_lookup hd'⟩
  have cellOld : ∀ x b, (x, b) ∈ env.cells → ∃ o, s.heap.get? b = some o := fun x b hm => by
    obtain ⟨_, _, _, ov, o, ho, _⟩ := f.away x b hm
    exact ⟨o, ho⟩
  have fx : Fixed base h₁ (compEnvC scope (clFree scope.names env).reverse (s₂.heap.push ob).objs.size env) s₂.heap.objs.size wl wr := by
    refine ⟨none1 _ n2, none1 _ nC, wn, I₂.baseNone n2, wb, fun q => dl _ q rfl, fun q => ?_, fun b hb q => ?_, K.sub⟩
    · rcases ownC _ q with q | ⟨x, q⟩
      · exact hDC q
      · obtain ⟨o, e⟩ := cellOld _ _ q
        rw [none0 _ (none1 _ n2)] at e; cases e
    · rcases ownC _ q with q | ⟨x, q⟩
      · obtain ⟨o, e⟩ := live b hb
        rw [q, nC] at e; cases e
      · rcases wlm b hb with hr | hm
        · obtain ⟨o, e⟩ := cellOld _ _ q
          rw [none0 _ (wn b hr)] at e; cases e
        · exact f₂.apartμ b (.tail _ (List.mem_map.mpr ⟨(x, b), q, rfl⟩)) hm
  have lpost : ∀ s₃ : Shared, s₃ = { s₂ with heap := h₃, toks := s₂.toks + ([] : List (Str × Value)).length } → codeAny (model prog w) A (.compLoop e 0 (.ref it) (.ref s₂.heap.objs.size) (compEnvC scope (clFree scope.names env).reverse (s₂.heap.push ob).objs.size env))
      (compPost (model prog w) A E use Q (.ref s₂.heap.objs.size) (s₂.heap.push ob).objs.size) s₃ := by
    rintro s₃ rfl
    refine hloop p0 _ _ h₁ μ₁ it wl wr St _ μ₁ _ K fx ⟨I₃, X₂.trans (Ext.of_keep KK _ _), cf, ?_, wμ, ⟨_, hD₃⟩⟩ hD₃ ?_ (relabel_names scope env f.kind) hwl ?_
    · intro q
      obtain ⟨o, e⟩ := I₂.live q
      rw [n2] at e; cases e
    · exact K.frame _ _ _ _ _ st (fun b _ o e => KK b o e) (fun v y r => r.mvw (Mv.of_keep (wr := []) KK) noF) (fun _ _ e => e)
    · intro s' μ' L lv nt hm
      exact hfin _ _ s' (end_of_left X₁ L (none0 _ (none1 _ n2)) (none0 _ (none1 _ nC)) ⟨I₂.baseNone n2, I₂.ne_size (Nat.le_refl _)⟩ lv nt hm)
  exact hstart _ _ _ _ _ (lpost _ rfl) (K.self 0 _ _ _ _ (K.frame _ _ _ _ _ st (fun b _ o e => KK b o e) (fun v y r => r.mvw (Mv.of_keep (wr := []) KK) noF) (fun _ _ e => e)) (lpost _ rfl))

/-! the two kinds -/
/-- what is asked of the iterable -/
noncomputable def IterOk (prog : Program) (w : World) (base : Heap) (os : OsState) (G : GTab) (F : Calls) (n : Nat) (names : Nms) (src : Src) (pe : PE) (target iter : Expr) : Prop :=
  ∀ (A : Around) (env : Env) (s : Shared) (H : AH) (μ : List Addr) (ρ : Loc) (a : V) (H1 : AH) (nx : AH → Nat → Option (Option V)) (fuel : Nat) (nc : Bool) (E : Value → Shared → Prop), Room n A → env.scope.names = names → Inv prog w base os s H μ → FrameOk base s.heap μ env ρ →
    ev G F pe ρ H = some (a, H1) → SrcIs H1 src a nx fuel nc → wpAny (model prog w) A (eval iter env) (fun x s₁ => wpAny (model prog w) A (pyIter x) (fun itv s₂ => fuel ≤ lineN + 1 ∧ SrcP prog w A base os target s.heap μ H1 nx nc itv s₂) E s₁) E s
theorem iter_plain (gl : Gl prog w base nm G mg mb) {it : PE} {e target : Expr} (h : EvOk prog w base os G F n names it e) : IterOk prog w base os G F n names .plain it target e :=
  fun A env s H μ ρ a H1 nx fuel nc E hA hn I f he hs => src_plain gl h hA hn I f he hs
theorem iter_range (gl : Gl prog w base nm G mg mb) {it : PE} {e target : Expr} {p pos : Pos} (h : EvOk prog w base os G F n names it e) (hst : notStar e = true) (hd : globOk names "range" = true) : IterOk prog w base os G F n names .range it target (.Call (.Name "range" p) [e] [] pos) :=
  fun A env s H μ ρ a H1 nx fuel nc E hA hn I f he hs => src_range gl h hst hd hA hn I f he hs
theorem iter_enum (gl : Gl prog w base nm G mg mb) {it : PE} {e : Expr} {p pos tp : Pos} {elts : List Expr} {k : Nat} (h : EvOk prog w base os G F n names it e) (hst : notStar e = true) (hd : globOk names "enumerate" = true) :
    IterOk prog w base os G F n names .enum it (.Tuple elts k tp) (.Call (.Name "enumerate" p) [e] [] pos) :=
  fun A env s H μ ρ a H1 nx fuel nc E hA hn I f he hs => src_enum gl h hst hd hA hn I f he hs

/-- the interpreter's comprehension, opened -/
theorem lsrc_open {q : Bool} {run : V → AH → Option (Option V × AH)} {src : Src} {a : V} {P : Prop} (he : lsrc q run src a H = some (v, H'))
    (k : ∀ nx fuel nc ys H2, SrcIs H src a nx fuel nc → (nc = true → q = true) → compG run nx fuel 0 H = some (ys, H2) → V.ref H2.length = v → H2 ++ [MO.list ys] = H' → P) : P := by
  have fl : ∀ {r : Option (List V × AH)} {P : Prop}, finL r = some (v, H') → (∀ ys H2, r = some (ys, H2) → V.ref H2.length = v → H2 ++ [MO.list ys] = H' → P) → P := fun h k => bnd_elim h fun ys H2 hr h => have e := Prod.mk.inj (Option.some.inj h); k ys H2 hr e.1 e.2
  cases src with
  | plain =>
    refine caT_elim (P := fun a => (∀ nx fuel nc ys H2, SrcIs H .plain a nx fuel nc → (nc = true → q = true) → compG run nx fuel 0 H = some (ys, H2) → V.ref H2.length = v → H2 ++ [MO.list ys] = H' → P) → P) he (fun l he k => ?_) (fun he k => ?_) k
    · exact fl he fun ys H2 h1 => k _ _ _ ys H2 (.tup l) (fun q => nomatch q) (compI_G0 .. ▸ h1)
    · refine caL_elim (P := fun a => (∀ nx fuel nc ys H2, SrcIs H .plain a nx fuel nc → (nc = true → q = true) → compG run nx fuel 0 H = some (ys, H2) → V.ref H2.length = v → H2 ++ [MO.list ys] = H' → P) → P) he (fun j l hl he k => ?_) (fun he k => ?_) k
      · exact fl he fun ys H2 h1 => k _ _ _ ys H2 (.list hl) (fun q => nomatch q) (compL_G .. ▸ h1)
      · refine onD_elim (P := fun a => (∀ nx fuel nc ys H2, SrcIs H .plain a nx fuel nc → (nc = true → q = true) → compG run nx fuel 0 H = some (ys, H2) → V.ref H2.length = v → H2 ++ [MO.list ys] = H' → P) → P) he (fun j l hl he k => gua_elim he fun hc he => ?_) k
        exact fl he fun ys H2 h1 => k _ _ _ ys H2 (.dict hl) (fun _ => hc) (by rw [compI_G0, List.length_map] at h1; exact h1)
  | range => exact nomatch he
  | enum =>
    refine onL_elim (P := fun a => (∀ nx fuel nc ys H2, SrcIs H .enum a nx fuel nc → (nc = true → q = true) → compG run nx fuel 0 H = some (ys, H2) → V.ref H2.length = v → H2 ++ [MO.list ys] = H' → P) → P) he (fun j l hl he k => gua_elim he fun hc he => ?_) k
    exact fl he fun ys H2 h1 => k _ _ _ ys H2 (.enum hl) (fun _ => hc) (compI_G0 .. ▸ h1)

noncomputable def tgtSlots (t : Tgt) : List Nat := match t with
  | .one i => [i]
  | .many l => l
theorem setAll_keeps (is : List Nat) : ∀ (l : List V) (ρ : Loc), ((is.zip l).foldl (fun r p => r.set p.1 (some p.2)) ρ).length = ρ.length ∧ ∀ (i : Nat), i ∉ is → ((is.zip l).foldl (fun r p => r.set p.1 (some p.2)) ρ)[i]? = ρ[i]? := by
  induction is with
  | nil => exact fun _ _ => ⟨rfl, fun _ _ => rfl⟩
  | cons i is ih =>
    intro l ρ
    cases l with
    | nil => exact ⟨rfl, fun _ _ => rfl⟩
    | cons v l =>
      have h := ih l (ρ.set i (some v))
      exact ⟨h.1.trans List.length_set, fun j hj => (h.2 j fun q => hj (.tail _ q)).trans (List.getElem?_set_ne fun e => hj (by rw [e]; exact .head _))⟩
theorem put_keeps {t : Tgt} {ρ ρ' : Loc} {v : V} (h : putV t v ρ = some ρ') : ρ'.length = ρ.length ∧ ∀ (i : Nat), i ∉ tgtSlots t → ρ'[i]? = ρ[i]? := by
  cases t with
  | one i => exact gua_elim h fun _ h => Option.some.inj h ▸ ⟨List.length_set, fun j hj => List.getElem?_set_ne fun e => hj (by rw [e]; exact .head _)⟩
  | many is => exact caT_elim (P := fun _ => ρ'.length = ρ.length ∧ ∀ (i : Nat), i ∉ is → ρ'[i]? = ρ[i]?) h (fun l h => gua_elim h fun _ h => Option.some.inj h ▸ setAll_keeps is l ρ) fun h => nomatch h
theorem put_free {t : Tgt} {k : Nat} {fr : List (Nat × Nat)} {ρ ρ' : Loc} {v : V} (hd : (tgtSlots t).all (fun i => fr.all fun p => !(p.1 == i)) = true) (h : putV t v (frameOf k fr ρ) = some ρ') :
    ∀ (i : Nat) (u : V), (frameOf k fr ρ)[i]? = some (some u) → ρ'[i]? = some (some u) := by
  intro i u hu
  rw [(put_keeps h).2 i ?_]
  · exact hu
  · intro hi
    obtain ⟨j, hj, _⟩ := frame_get hu
    have := List.all_eq_true.mp (List.all_eq_true.mp hd i hi) _ hj
    simp at this

/-- what is known of a comprehension's head -/
structure CompC (prog : Program) (w : World) (base : Heap) (os : OsState) (G : GTab) (F : Calls) (n : Nat) (names : Nms) (src : Src) (fr : List (Nat × Nat)) (k : Nat) (t : Tgt) (it cond : PE) (target iter : Expr) (ifs : List Expr) (scope : Scope) : Prop where
  set : notSet iter = true
  kind : scope.kind = .function
  frs : chkFr scope.names names fr = true
  len : scope.names.length = k
  ds : (tgtSlots t).all (fun i => fr.all fun p => !(p.1 == i)) = true
  it : IterOk prog w base os G F n names src it target iter
  tgt : chkT true (relN scope.names names) t target = true
  ts : TestsOk prog w base os G F n (relN scope.names names) cond ifs
theorem lcomp_run (gl : Gl prog w base nm G mg mb) (hA : Room n A) {elt target iter : Expr} {ifs : List Expr} {scope : Scope} {p pos : Pos} {use : Option (Value → Sem Unit)} {fr : List (Nat × Nat)} {k : Nat} {t : Tgt} {src : Src} {it cond pe : PE}
    (I : Inv prog w base os s H μ) (f : FrameOk base s.heap μ env ρ) (hn : env.scope.names = names)
    (c : CompC prog w base os G F n names src fr k t it cond target iter ifs scope) (hel : EvOk prog w base os G F n (relN scope.names names) pe elt)
    (he : ev G F (.lcomp k fr t src it cond pe) ρ H = some (v, H'))
    (hfin : ∀ (C D : Addr) (s' : Shared), CompEnd prog w base os s.heap μ H' v (.ref D) C s' → compPost (model prog w) A E use Q (.ref D) C (.ok .next) s') :
    wpAny (model prog w) A (comprehension (.ListComp elt [⟨target, iter, ifs, 0⟩] scope pos) scope env p (newList []) false (eval iter env) use) Q E s := by
  refine bnd_elim (o := ev G F it ρ H) he fun a H1 e1 he => lsrc_open he fun nx fuel nc ys H2 e2 e3 e4 ev eH => ?_
  subst ev
  subst eH
  have hlen' := compG_len fuel e4
  refine comp_run hA (P0 := fuel ≤ lineN + 1) (ob := { cls := .type "list", data := .seq ([] : List Value).toArray }) (m := .list ys) (nc := nc) (H1 := H1) (Hf := H2) (nx := nx) I f hn rfl c.set c.kind c.frs c.len (fun Q E s h => wpAny_newObj_type h) rfl (by show Value.type "list" ≠ Value.type "tuple"; decide)
    (fun it acc env R s h0 h => codeAny_compStart_list h0 h) (c.it A env s H μ ρ a H1 nx fuel nc E hA hn I f e1 e2) ?_ hfin
  intro hfl D cenv h₀ μ₀ itA wl wr St s₃ μ₃ R K fx hd hD st hcn hwl hR
  exact list_loop K hA hcn fx c.tgt (fun v ρ' hp => put_free c.ds hp) (fun v ρ' hp => (put_keeps hp).1) c.ts hel (hwl.imp id fun q => and2 (e3 q)) (by omega)
    (fun s' μ' vs kk L hD' rs => hR s' μ' L ⟨_, hD'⟩ (fun xs m q => nt_one hD' (by show Value.type "list" ≠ Value.type "tuple"; decide) _ (.head _) xs m q) (.list hD' rs (by omega))) fuel s₃ ⟨0, H1, μ₃, [], [], 0, ys, hd, hD, .nil, st, e4, rfl⟩
theorem ev_lcomp (gl : Gl prog w base nm G mg mb) {elt target iter : Expr} {ifs : List Expr} {scope : Scope} {pos : Pos} {fr : List (Nat × Nat)} {k : Nat} {t : Tgt} {src : Src} {it cond pe : PE}
    (c : CompC prog w base os G F n names src fr k t it cond target iter ifs scope) (hel : EvOk prog w base os G F n (relN scope.names names) pe elt) :
    EvOk prog w base os G F n names (.lcomp k fr t src it cond pe) (.ListComp elt [⟨target, iter, ifs, 0⟩] scope pos) := by
  intro A env s H μ ρ v H' E hA hn I f he
  rw [eval_ListComp]
  refine lcomp_run gl hA (use := none) I f hn c hel he fun C D s' ce => ?_
  obtain ⟨_, _, _, _, _, _, _, m, hm⟩ := id ce
  exact ⟨m, hm, fun h' sb => ce.post sb⟩

theorem dcomp_run (gl : Gl prog w base nm G mg mb) (hA : Room n A) {kx vx target iter : Expr} {ifs : List Expr} {scope : Scope} {p pos : Pos} {use : Option (Value → Sem Unit)} {fr : List (Nat × Nat)} {k : Nat} {t : Nat} {it cond pk pv : PE}
    (I : Inv prog w base os s H μ) (f : FrameOk base s.heap μ env ρ) (hn : env.scope.names = names)
    (c : CompC prog w base os G F n names .plain fr k (.one t) it cond target iter ifs scope) (hek : EvOk prog w base os G F n (relN scope.names names) pk kx) (hev : EvOk prog w base os G F n (relN scope.names names) pv vx)
    (he : ev G F (.dcomp k fr t it cond pk pv) ρ H = some (v, H'))
    (hfin : ∀ (C D : Addr) (s' : Shared), CompEnd prog w base os s.heap μ H' v (.ref D) C s' → compPost (model prog w) A E use Q (.ref D) C (.ok .next) s') :
    wpAny (model prog w) A (comprehension (.DictComp kx vx [⟨target, iter, ifs, 0⟩] scope pos) scope env p newDict false (eval iter env) use) Q E s := by
  refine bnd_elim (o := ev G F it ρ H) he fun a H1 e1 he => onD_elim (P := fun a => ev G F it ρ H = some (a, H1) → _) he (fun j l hl he e1 => gua_elim he fun e3 he => bnd_elim (o := compI _ _ _) he fun ys H2 e4 he => ?_) e1
  have eq := Prod.mk.inj (Option.some.inj he)
  obtain ⟨ev, eH⟩ := eq
  subst ev
  subst eH
  rw [compI_G0, List.length_map] at e4
  have e2 : SrcIs H1 .plain (.ref j) _ _ true := .dict hl
  have e3 : calm cond = true ∧ calm pk = true ∧ calm pv = true := ⟨(ite1 e3).1, (ite1 e3).2, (and2 e3).2⟩
  have hlen' := compG_len _ e4
  refine comp_run hA (P0 := l.length + 1 ≤ lineN + 1) (ob := { cls := .type "dict", data := .dict #[] }) (m := .dict (ys.foldl (fun d p => setK d p.1 p.2) [])) (nc := true) (H1 := H1) (Hf := H2) (nx := nxI (l.map fun p => keyV p.1)) I f hn rfl c.set c.kind c.frs c.len (fun Q E s h => wpAny_newObj_type h) rfl (by show Value.type "dict" ≠ Value.type "tuple"; decide)
    (fun it acc env R s h0 h => codeAny_compStart_dict h0 h) (c.it A env s H μ ρ (.ref j) H1 _ _ true E hA hn I f e1 e2) ?_ hfin
  intro hfl D cenv h₀ μ₀ itA wl wr St s₃ μ₃ R K fx hd hD st hcn hwl hR
  have hfold := foldK_len ys []
  simp only [List.length_nil, Nat.zero_add] at hfold
  have hD0 : s₃.heap.DictOf (kn prog w) D [] := by
    have h0 : (s₃.heap.push { cls := .type "dict", data := .dict #[] }).DictOf (kn prog w) s₃.heap.objs.size [] := Heap.DictOf.new s₃.heap
    obtain ⟨o, ho, hd⟩ := Heap.dictOf_iff.mp h0
    have : o = { cls := .type "dict", data := .dict #[] } := by
      have := Heap.get?_push_size s₃.heap (o := { cls := .type "dict", data := .dict #[] }) rfl
      rw [this] at ho; exact (Option.some.inj ho).symm
    subst this
    exact Heap.dictOf_iff.mpr ⟨_, hD, hd⟩
  exact dict_loop K hA hcn fx c.tgt (fun v ρ' hp => put_free c.ds hp) (fun v ρ' hp => (put_keeps hp).1) c.ts hek hev e3 (by omega)
    (fun s' μ' kvs L hD' rs => hR s' μ' L (let ⟨o, _, _, e, _⟩ := hD'; ⟨o, e⟩) (DictOf.noTup hD') (.dict hD' rs (by omega))) _ s₃ ⟨0, H1, μ₃, [], [], ys, hd, hD0, .nil, st, e4, rfl⟩
theorem ev_dcomp (gl : Gl prog w base nm G mg mb) {kx vx target iter : Expr} {ifs : List Expr} {scope : Scope} {pos : Pos} {fr : List (Nat × Nat)} {k : Nat} {t : Nat} {it cond pk pv : PE}
    (c : CompC prog w base os G F n names .plain fr k (.one t) it cond target iter ifs scope) (hek : EvOk prog w base os G F n (relN scope.names names) pk kx) (hev : EvOk prog w base os G F n (relN scope.names names) pv vx) :
    EvOk prog w base os G F n names (.dcomp k fr t it cond pk pv) (.DictComp kx vx [⟨target, iter, ifs, 0⟩] scope pos) := by
  intro A env s H μ ρ v H' E hA hn I f he
  rw [arm_eval_DictComp]
  refine dcomp_run gl hA (use := none) I f hn c hek hev he fun C D s' ce => ?_
  obtain ⟨_, _, _, _, _, _, _, m, hm⟩ := id ce
  exact ⟨m, hm, fun h' sb => ce.post sb⟩
end
end Mine
/-! It0 -/
namespace Mine
open PySem PySem.Calls PyProof.Rows PySem.SeqAt PySem.W
theorem rels_of_get {h : Heap} {μ : List Addr} (L : List V) : ∀ {X : List Value}, X.length = L.length → (∀ (j : Nat) (v : V), L[j]? = some v → ∃ x, X[j]? = some x ∧ Rel h μ v x) → Rels h μ L X := by
  induction L with
  | nil => intro X e _; rw [List.length_eq_zero_iff.mp e]; exact .nil
  | cons v L ih =>
    intro X e g
    cases X with
    | nil => cases e
    | cons x X =>
      obtain ⟨y, hy, r⟩ := g 0 v rfl
      have e2 : x = y := Option.some.inj hy
      exact .cons (e2 ▸ r) (ih (Nat.succ.inj e) fun j u hj => g (j + 1) u hj)
section
variable {prog : Program} {w : World} {base : Heap} {os : OsState} {nm : NT} {G : GTab} {F : Calls} {mg mb : Str → Option Value} {n : Nat} {names : Nms}
theorem ev_items (gl : Gl prog w base nm G mg mb) {a : PE} {o : Expr} {p apos cpos pos : Pos} (hd : globOk names "list" = true) (hb : notCall o = true) (hp : (apos.endLine == cpos.line) = true) (ha : EvOk prog w base os G F n names a o) :
    EvOk prog w base os G F n names (.fn .items a) (.Call (.Name "list" p) [.Call (.Attribute o "items" apos) [] [] cpos] [] pos) := by
  intro A env s H μ ρ v H' E hA hn I f' he
  have hst := starEach_cons (e := .Call (.Attribute o "items" apos) [] [] cpos) rfl [] env
  refine bnd_elim (o := ev G F a ρ H) he fun u H1 e1 he => Call_ (bi_snd gl I f' (hn ▸ hd) (x := "list") (y := Value.type "list") (by decide +kernel) (PyProof.Rows.callWith_type1 (args_cons (wpAny_Call_method (T := "dict") (id := "dict.items") (base_of hb _ _) rfl hp PySem.F.plainAttrs_dict PySem.F.slot_dict_items PySem.F.type_dict_items (ha.run hA hn I f' e1 fun z s₁ μ₁ I₁ X₁ r₁ k₁ f₁ => ?_)) hst) hst rfl))
  refine onD_elim (P := fun u => Rel s₁.heap μ₁ u z → _) he (fun j l hl he r₁ => ?_) r₁
  have eq := Prod.mk.inj (Option.some.inj he)
  have fin : ∀ {Q0 : Value → Shared → Prop}, Q0 = Post prog w base os s.heap μ (H1 ++ [.list (l.map fun p => .tup [keyV p.1, p.2])]) (.ref H1.length) false → Q0 = Post prog w base os s.heap μ H' v (calm (.fn .items a)) := fun e => by rw [e, eq.1, eq.2]; rfl
  rw [← fin rfl]
  clear fin eq he
  obtain ⟨d, rfl, hdμ⟩ := r₁.inj_ref
  obtain ⟨kvs, hD, rd, hlen⟩ := I₁.dict hdμ hl
  have hdS : (d == sysModules) = false := sysNe gl.sys (I₁.fresh _ d _ hdμ hl rfl)
  refine ⟨hD.typeIs, hD.mapOf.noDict, ?_⟩
  refine method_meetsIn PySem.F.slot_dict_items PySem.F.entry_dict_items rfl (PySem.evalArgs_none ⟨rfl, hD.typeIs, PySem.F.args_dict_items_1 _, _, meets_dict_items (kn prog w) d hdS, ⟨kvs, hD⟩, ?_⟩)
  refine args_nil ?_
  obtain ⟨od, es, ep, g1, g2, g3, g4, g5, g6⟩ := id hD
  let hv := s₁.heap.push { cls := .type "dict_items", data := .fields #[.ref d] }
  have hview : hv.IsItemsView s₁.heap.objs.size d := ⟨_, Heap.get?_push_size _ rfl, rfl, rfl⟩
  have hat : hv.DictAt (kn prog w) d kvs ep := ⟨od, es, Heap.get?_push_of_some _ g1, g2, g3, g4, g5, g6⟩
  have hkl : kvs.length = l.length := rd.length
  refine kdx_call (knd := kn prog w) (kvs := kvs) (ep := ep) (s := { s₁ with heap := hv }) hA.handled hview hat (line_le (by rw [hkl]; exact hlen)) (fun h' tk acc c as hk ho hal hG hacc => ?_)
  have kk : Keep s₁.heap h' := fun b o e => hk b o (Heap.get?_push_of_some _ e)
  have nμ : NoTup h' μ₁ := fun c hc vs' n' q => by
    obtain ⟨o, ho⟩ := I₁.live hc
    rw [kk c o ho] at q
    injection q with q
    subst q
    exact I₁.noTup c hc _ _ ho
  have hnone : s₁.heap.objs.size ≤ hv.objs.size := (by show s₁.heap.objs.size ≤ (s₁.heap.push _).objs.size; rw [Heap.size_push]; exact Nat.le_succ _)
  have rd' : RelD h' μ₁ l kvs := rd.ext (Ext.of_keep kk μ₁ []) I₁.noTup fun _ q => nomatch q
  have rels : Rels h' μ₁ (l.map fun p => .tup [keyV p.1, p.2]) (as.map Value.ref) := by
    refine rels_of_get _ (by simp [hal, hkl]) fun j v hj => ?_
    rw [List.getElem?_map] at hj
    cases hlj : l[j]? with
    | none => rw [hlj] at hj; cases hj
    | some pr =>
      rw [hlj] at hj
      injection hj with hj
      subst hj
      obtain ⟨y, hy, ry⟩ := rd'.getI hlj
      have hja : j < as.length := by
        rw [hal, hkl]
        rcases Nat.lt_or_ge j l.length with g | g
        · exact g
        · rw [List.getElem?_eq_none g] at hlj; cases hlj
      obtain ⟨key, k, x, q1, q2, q3⟩ := hG.pairs j as[j] (List.getElem?_eq_getElem hja)
      rw [hy] at q1
      injection q1 with q1
      injection q1 with q1 q4
      subst q1; subst q4
      exact ⟨.ref as[j], by simp [hja], .tup (vs := [key, y]) q3 (.cons (keyV_rel q2) (.cons ry .nil)) (show 2 ≤ lineN by decide)⟩
  have hobj : ObjR prog w h' (μ₁ ++ [hv.objs.size]) hv.objs.size (.list (l.map fun p => .tup [keyV p.1, p.2])) := by
    refine .list (vs := as.map Value.ref) (n := c) ?_ (rels.ext0 (F := []) (fun _ _ e _ _ => e) nμ fun _ q => nomatch q) (by simpa using hlen)
    rw [← hacc]
    exact ho
  have P := Post.new I₁ (s' := { s₁ with heap := h', toks := tk }) (sm := true) kk hnone hobj
  exact P.behind X₁
end
end Mine
/-! Snd20 -/
namespace Mine
open PySem PySem.Calls PyProof.Rows PySem.SeqAt PySem.W

noncomputable def unsome : List (Option Expr) → Option (List Expr)
  | [] => some []
  | o :: r => obn o fun e => obn (unsome r) fun m => some (e :: m)
theorem unsome_eq (l : List (Option Expr)) : ∀ {m : List Expr}, unsome l = some m → m.map some = l := by
  induction l with
  | nil => intro m h; rw [← Option.some.inj h]; rfl
  | cons o r ih => intro m h; exact obn_elim (o := o) h fun e he h => obn_elim h fun k hk h => by rw [← Option.some.inj h, List.map_cons, ih hk, he]
noncomputable def isNoneC (p : PE) : Bool := match p with
  | .c v => isNone v
  | _ => false
theorem isNoneC_elim {P : PE → Prop} {p : PE} (h : isNoneC p = true) (k : ∀ v, isNone v = true → P (.c v)) : P p := by
  cases p with
  | c v => exact k v h
  | _ => exact no h
noncomputable def isTrueC (p : PE) : Bool := match p with
  | .c v => (boolV v).getD false
  | _ => false
theorem isTrueC_elim {P : PE → Prop} {p : PE} (h : isTrueC p = true) (k : P (.c (.bool true))) : P p := by
  cases p with
  | c v =>
    cases v with
    | bool b => cases b with
      | true => exact k
      | false => exact no h
    | _ => exact no h
  | _ => exact no h
noncomputable def boolRest (op : BoolOp) (y : Expr) (rest : List Expr) (p : Pos) : Expr := caC rest y fun _ _ => .BoolOp op (y :: rest) p
noncomputable def isAnd (op : BoolOp) : Bool := match op with
  | .And => true
  | .Or => false
theorem isAnd_eq {op : BoolOp} (h : isAnd op = true) : BoolOp.And = op := by cases op with
  | And => rfl
  | Or => exact no h
theorem isOr_eq {op : BoolOp} (h : (!isAnd op) = true) : BoolOp.Or = op := by cases op with
  | Or => rfl
  | And => exact no h
noncomputable def isIn (op : CmpOp) : Bool := match op with
  | .In => true
  | _ => false
theorem isIn_eq {op : CmpOp} (h : isIn op = true) : CmpOp.In = op := by cases op with
  | In => rfl
  | _ => exact no h
noncomputable def chkHd (names : Nms) (scope : Scope) (g : Comprehension) (fr : List (Nat × Nat)) (k : Nat) (t : Tgt) : Bool :=
  decide (g.is_async = 0) && (notSet g.iter && (decide (scope.kind = .function) && (chkFr scope.names names fr && (decide (scope.names.length = k) && ((tgtSlots t).all (fun i => fr.all fun p => !(p.1 == i)) && chkT true (relN scope.names names) t g.target)))))
theorem onone {α : Type} {P : Option α → Prop} {o : Option α} (h : o.isNone = true) (k : P none) : P o := by cases o with
  | none => exact k
  | some _ => exact no h
noncomputable def isNot (op : UnaryOp) : Bool := match op with
  | .Not => true
  | _ => false
theorem isNot_elim {P : UnaryOp → Prop} {op : UnaryOp} (h : isNot op = true) (k : P .Not) : P op := by cases op with
  | Not => exact k
  | _ => exact no h
noncomputable def isNeg (op : UnaryOp) : Bool := match op with
  | .USub => true
  | _ => false
theorem isNeg_elim {P : UnaryOp → Prop} {op : UnaryOp} (h : isNeg op = true) (k : P .USub) : P op := by cases op with
  | USub => exact k
  | _ => exact no h
noncomputable def isBack (o : Option Expr) : Bool := caO o false fun e => isUn e fun op x _ => isNeg op && isC x fun c _ _ => cInt 1 c
theorem isBack_elim {P : Option Expr → Prop} {o : Option Expr} (h : isBack o = true) (k : ∀ i p q, P (some (.UnaryOp .USub (.Constant (.int 1) i p) q))) : P o := by
  cases o with
  | none => exact no h
  | some e => exact isUn_elim (P := fun e => P (some e)) h fun op x q h => and2k h fun h1 h2 => isNeg_elim (P := fun op => P (some (.UnaryOp op x q))) h1 (isC_elim (P := fun x => P (some (.UnaryOp .USub x q))) h2 fun c i p h => by
    cases c with
    | int d => exact (of_decide_eq_true h : (1 : Int) = d) ▸ k i p q
    | _ => exact no h)
mutual
noncomputable def chk (nm : NT) : PE → Nms → Expr → Bool
  | .c v, names, e => chkC nm names v e
  | .var i, names, e => isN e fun x _ => slotOk names i x
  | .and a b, names, e => isBo e fun op es p => isAnd op && onC es fun x r => onC r fun y rest => chk nm a names x && chk nm b names (boolRest .And y rest p)
  | .or a b, names, e => isBo e fun op es p => !isAnd op && onC es fun x r => onC r fun y rest => chk nm a names x && chk nm b names (boolRest .Or y rest p)
  | .not a, names, e => isUn e fun op x _ => isNot op && chk nm a names x
  | .ite c a b, names, e => isIf e fun t x y _ => chk nm c names t && (chk nm a names x && chk nm b names y)
  | .bin op a b, names, e => isBin e fun x o y _ => decide (op = o) && (chk nm a names x && chk nm b names y)
  | .cmp op a b, names, e => isCmp e fun x ops ys _ => on1 ops fun o => on1 ys fun y => decide (op = o) && (!behindInMarks op y && (chk nm a names x && chk nm b names y))
  | .cmp2 o1 o2 a b c, names, e => isCmp e fun x ops ys _ => onC ops fun p1 ops => on1 ops fun p2 => onC ys fun y ys => on1 ys fun z => decide (o1 = p1) && (decide (o2 = p2) && (!lastMarks [o1, o2] [y, z] && (chk nm a names x && (chk nm b names y && chk nm c names z))))
  | .tup es, names, e => isTup e fun xs _ _ => decide (xs.length ≤ 1000) && chks nm es names xs
  | .list es, names, e => isLst e fun xs _ => decide (xs.length ≤ 1000) && chks nm es names xs
  | .dict kvs, names, e => isDic e fun ks vs _ => (obn (unsome ks) fun ks => some (decide (ks.length = vs.length) && (decide (ks.length ≤ 15) && chkd nm kvs names ks vs))).getD false
  | .sub a i, names, e => isSub e fun x y _ => chk nm a names x && chk nm i names y
  | .slice a lo hi, names, e => isSub e fun x y _ => isSli y fun l u st _ => st.isNone && (chk nm a names x && (caO l (isNoneC lo) (fun l => chk nm lo names l) && caO u (isNoneC hi) (fun u => chk nm hi names u)))
  | .rev a, names, e => isSub e fun x y _ => isSli y fun l u st _ => l.isNone && (u.isNone && (isBack st && chk nm a names x))
  | .gsub g i, names, e => isSub e fun x y _ => isN x fun d _ => globOk names d && (decide (nm.gds[g]? = some d) && chk nm i names y)
  | .gin i g, names, e => isCmp e fun y ops zs _ => on1 ops fun o => on1 zs fun z => isN z fun d _ => isIn o && (globOk names d && (decide (nm.gds[g]? = some d) && chk nm i names y))
  | .call k es, names, e => isCal e fun f xs kw _ => isN f fun d _ => kw.isEmpty && (globOk names d && (decide (nm.fns[k]? = some d) && (!xs.isEmpty && (xs.all notStar && chks nm es names xs))))
  | .fn b a, names, e => isCal e fun f xs kw _ => isN f fun d _ => on1 xs fun y => kw.isEmpty && caO (fnTab b)
      (isCal y fun g ys kw2 cpos => isAtt g fun o m apos => ys.isEmpty && (kw2.isEmpty && (decide (d = ("list" : Str)) && (decide (m = ("items" : Str)) && (globOk names d && (notCall o && ((apos.endLine == cpos.line) && chk nm a names o)))))))
      fun t => decide (d = t.1) && (globOk names d && (notStar y && chk nm a names y))
  | .meth m o es, names, e => isCal e fun g xs kw pos => isAtt g fun x f apos => kw.isEmpty && (decide (f = (meId m).2.1) && (notCall x && ((apos.endLine == pos.line) && (chk nm o names x && (!xs.isEmpty && (xs.all notStar && (decide (xs.length < 20) && chks nm es names xs)))))))
  | .lcomp k fr t src it cond elt, names, e => isLc e fun eltE gens scope _ => on1 gens fun g => chkHd names scope g fr k t && (caC g.ifs (isTrueC cond) (fun c r => r.isEmpty && chk nm cond (relN scope.names names) c) && (chk nm elt (relN scope.names names) eltE &&
      (match src with
      | .plain => chk nm it names g.iter
      | .range => false
      | .enum => isCal g.iter fun f xs kw _ => isN f fun d _ => on1 xs fun e => kw.isEmpty && (decide (d = ("enumerate" : Str)) && (globOk names d && (notStar e && (isTupE g.target && chk nm it names e)))))))
  | .dcomp k fr t it cond pk pv, names, e => isDc e fun kx vx gens scope _ => on1 gens fun g => chkHd names scope g fr k (.one t) && (caC g.ifs (isTrueC cond) (fun c r => r.isEmpty && chk nm cond (relN scope.names names) c) && (chk nm pk (relN scope.names names) kx && (chk nm pv (relN scope.names names) vx && chk nm it names g.iter)))
noncomputable def chks (nm : NT) : PEs → Nms → List Expr → Bool
  | .nil, _, es => es.isEmpty
  | .cons pe pes, names, es => onC es fun e r => notStar e && (chk nm pe names e && chks nm pes names r)
noncomputable def chkd (nm : NT) : PEds → Nms → List Expr → List Expr → Bool
  | .nil, _, ks, vs => ks.isEmpty && vs.isEmpty
  | .cons pk pv pes, names, ks, vs => onC ks fun k ks => onC vs fun v vs => chk nm pk names k && (chk nm pv names v && chkd nm pes names ks vs)
end

section
variable {prog : Program} {w : World} {base : Heap} {os : OsState} {nm : NT} {G : GTab} {F : Calls} {mg mb : Str → Option Value} {n : Nat} {names : Nms}
noncomputable def Ok3 (prog : Program) (w : World) (base : Heap) (os : OsState) (G : GTab) (F : Calls) (n : Nat) (names : Nms) (pe : PE) (e : Expr) : Prop :=
  EvOk prog w base os G F n names pe e ∧ TrOk prog w base os G F n names pe e ∧ ∀ op es p, e = .BoolOp op es p → AllOk prog w base os G F n names op pe es
noncomputable abbrev Ok (prog : Program) (w : World) (base : Heap) (os : OsState) (nm : NT) (G : GTab) (F : Calls) (n : Nat) (pe : PE) : Prop := ∀ names e, chk nm pe names e = true → Ok3 prog w base os G F n names pe e
theorem ok_plain {pe : PE} {e : Expr} (hp : plainTest e = true) (h : EvOk prog w base os G F n names pe e) : Ok3 prog w base os G F n names pe e :=
  ⟨h, tr_of_ev hp h, fun op es p q => by subst q; cases hp⟩
theorem ok_cmp {pe : PE} {op : CmpOp} {x y : Expr} {pos : Pos} (hm : behindInMarks op y = false) (h : CmpOk prog w base os G F n names pe op x y) : Ok3 prog w base os G F n names pe (.Compare x [op] [y] pos) :=
  ⟨ev_of_cmp hm h, tr_of_cmp hm h, fun _ _ _ q => nomatch q⟩
theorem ok_bool {pe : PE} {op : BoolOp} {es : List Expr} {p : Pos} (h : EvOk prog w base os G F n names pe (.BoolOp op es p)) (h' : AllOk prog w base os G F n names op pe es) : Ok3 prog w base os G F n names pe (.BoolOp op es p) :=
  ⟨h, tr_bool h', fun op es p q => by cases q; exact h'⟩
theorem ok_rest {op : BoolOp} {b : PE} {y : Expr} {rest : List Expr} {p : Pos} (h : Ok3 prog w base os G F n names b (boolRest op y rest p)) : EvOk prog w base os G F n names b (.BoolOp op (y :: rest) p) ∧ AllOk prog w base os G F n names op b (y :: rest) := by
  cases rest with
  | nil => exact ⟨ev_one h.1, all_one h.2.1⟩
  | cons z rest => exact ⟨h.1, h.2.2 _ _ _ rfl⟩
theorem chkC_plain {c : V} {e : Expr} (h : chkC nm names c e = true) : plainTest e = true := by
  have hc : ∀ {f : Const → Nat → Pos → Bool}, isC e f = true → plainTest e = true := fun h => isC_elim (P := fun e => plainTest e = true) h fun _ _ _ _ => rfl
  cases c with
  | none => exact hc h
  | bool _ => exact hc h
  | int _ => exact or2 h hc fun h => isN_elim (P := fun e => plainTest e = true) h fun _ _ _ => rfl
  | str _ => exact hc h
  | _ => exact no h
theorem opt_ok {lo : PE} {l : Option Expr} (ih : Ok prog w base os nm G F n lo) (h : caO l (isNoneC lo) (fun l => chk nm lo names l) = true) : EvpOk prog w base os G F n names lo l := by
  cases l with
  | none => exact isNoneC_elim (P := fun lo => EvpOk prog w base os G F n names lo none) h fun v hv => evp_none hv
  | some l => exact evp_some (ih names _ h).1
theorem hd_ok (gl : Gl prog w base nm G mg mb) {scope : Scope} {g : Comprehension} {fr : List (Nat × Nat)} {k : Nat} {t : Tgt} {src : Src} {it cond : PE} {P : Comprehension → Prop} (ihc : Ok prog w base os nm G F n cond) (h : chkHd names scope g fr k t = true)
    (h2 : caC g.ifs (isTrueC cond) (fun c r => r.isEmpty && chk nm cond (relN scope.names names) c) = true) (h3 : IterOk prog w base os G F n names src it g.target g.iter) (kk : ∀ target iter ifs, CompC prog w base os G F n names src fr k t it cond target iter ifs scope → P ⟨target, iter, ifs, 0⟩) : P g := by
  obtain ⟨target, iter, ifs, a⟩ := g
  refine dec2k h fun ha h => and2k h fun g2 h => dec2k h fun g3 h => and2k h fun g4 h => dec2k h fun g5 h => and2k h fun g6 g7 => ?_
  have ha : a = 0 := ha
  subst ha
  refine kk target iter ifs ⟨g2, g3, g4, g5, g6, h3, g7, ?_⟩
  cases ifs with
  | nil => exact isTrueC_elim (P := fun cond => TestsOk prog w base os G F n (relN scope.names names) cond []) h2 tests_nil
  | cons c r => exact and2k h2 fun h1 h2 => emp (P := fun r => TestsOk prog w base os G F n (relN scope.names names) cond (c :: r)) h1 (tests_one (ihc _ _ h2).2.1)
theorem lcomp_parts (gl : Gl prog w base nm G mg mb) {k : Nat} {fr : List (Nat × Nat)} {t : Tgt} {src : Src} {it cond elt : PE} {e : Expr} {P : Expr → Prop} (ihi : Ok prog w base os nm G F n it) (ihc : Ok prog w base os nm G F n cond) (ihe : Ok prog w base os nm G F n elt) (h : chk nm (.lcomp k fr t src it cond elt) names e = true)
    (kk : ∀ eltE target iter ifs scope pos, CompC prog w base os G F n names src fr k t it cond target iter ifs scope → EvOk prog w base os G F n (relN scope.names names) elt eltE → P (.ListComp eltE [⟨target, iter, ifs, 0⟩] scope pos)) : P e :=
  isLc_elim (P := P) h fun eltE gens scope pos h => on1_elim (P := fun gens => P (.ListComp eltE gens scope pos)) h fun g h => and2k h fun h1 h => and2k h fun h2 h => and2k h fun h3 h4 =>
    hd_ok gl (src := src) (it := it) (P := fun g => P (.ListComp eltE [g] scope pos)) ihc h1 h2 (by
      cases src with
      | plain => exact iter_plain gl (ihi _ _ h4).1
      | range => exact no h4
      | enum =>
        refine isCal_elim (P := fun iter => IterOk prog w base os G F n names .enum it g.target iter) h4 fun f xs kw p h => isN_elim (P := fun f => IterOk prog w base os G F n names .enum it g.target (.Call f xs kw p)) h fun d q h => on1_elim (P := fun xs => IterOk prog w base os G F n names .enum it g.target (.Call (.Name d q) xs kw p)) h fun e h =>
          and2k h fun hk h => dec2k h fun hd h => and2k h fun u2 h => and2k h fun u3 h => and2k h fun u4 u5 => emp (P := fun kw => IterOk prog w base os G F n names .enum it g.target (.Call (.Name d q) [e] kw p)) hk ?_
        subst hd
        exact isTup_elim (P := fun tg => IterOk prog w base os G F n names .enum it tg (.Call (.Name "enumerate" q) [e] [] p)) u4 fun _ _ _ _ => iter_enum gl (ihi _ _ u5).1 u3 u2) fun target iter ifs c => kk eltE target iter ifs scope pos c (ihe _ _ h3).1
theorem dcomp_parts (gl : Gl prog w base nm G mg mb) {k : Nat} {fr : List (Nat × Nat)} {t : Nat} {it cond pk pv : PE} {e : Expr} {P : Expr → Prop} (ihi : Ok prog w base os nm G F n it) (ihc : Ok prog w base os nm G F n cond) (ihk : Ok prog w base os nm G F n pk) (ihv : Ok prog w base os nm G F n pv) (h : chk nm (.dcomp k fr t it cond pk pv) names e = true)
    (kk : ∀ kx vx target iter ifs scope pos, CompC prog w base os G F n names .plain fr k (.one t) it cond target iter ifs scope → EvOk prog w base os G F n (relN scope.names names) pk kx → EvOk prog w base os G F n (relN scope.names names) pv vx → P (.DictComp kx vx [⟨target, iter, ifs, 0⟩] scope pos)) : P e :=
  isDc_elim (P := P) h fun kx vx gens scope pos h => on1_elim (P := fun gens => P (.DictComp kx vx gens scope pos)) h fun g h => and2k h fun h1 h => and2k h fun h2 h => and2k h fun h3 h => and2k h fun h4 h5 =>
    hd_ok gl (src := .plain) (it := it) (P := fun g => P (.DictComp kx vx [g] scope pos)) ihc h1 h2 (iter_plain gl (ihi _ _ h5).1) fun target iter ifs c => kk kx vx target iter ifs scope pos c (ihk _ _ h3).1 (ihv _ _ h4).1
theorem dict_ok {kvs : PEds} (ih : ∀ names ks vs, chkd nm kvs names ks vs = true → EvdOk prog w base os G F n names kvs ks vs) : Ok prog w base os nm G F n (.dict kvs) := fun names e h =>
  isDic_elim (P := Ok3 prog w base os G F n names (.dict kvs)) h fun ks vs p h => obd_elim h fun ks' hk h => dec2k h fun h1 h => dec2k h fun h2 h3 => by
    rw [← unsome_eq _ hk]
    cases ks' with
    | nil =>
      cases vs with
      | cons _ _ => cases h1
      | nil =>
        cases kvs with
        | nil => exact ok_plain rfl ev_dict0
        | cons _ _ _ => exact no h3
    | cons k ks' => exact ok_plain rfl (ev_dict (fun q => nomatch q) h1 h2 (ih names _ _ h3))
theorem empty_ne {α : Type} {xs : List α} (h : (!xs.isEmpty) = true) : xs ≠ [] := fun q => by subst q; exact no h
theorem fn_ok (gl : Gl prog w base nm G mg mb) {b : Bi} {a : PE} (ih : Ok prog w base os nm G F n a) : Ok prog w base os nm G F n (.fn b a) := fun names e h =>
  isCal_elim (P := Ok3 prog w base os G F n names (.fn b a)) h fun f xs kw p h => isN_elim (P := fun f => Ok3 prog w base os G F n names (.fn b a) (.Call f xs kw p)) h fun d q h => on1_elim (P := fun xs => Ok3 prog w base os G F n names (.fn b a) (.Call (.Name d q) xs kw p)) h fun y h => and2k h fun hk h =>
    emp (P := fun kw => Ok3 prog w base os G F n names (.fn b a) (.Call (.Name d q) [y] kw p)) hk (caO_elim h (fun hb h => by
      refine isCal_elim (P := fun y => Ok3 prog w base os G F n names (.fn b a) (.Call (.Name d q) [y] [] p)) h fun g ys kw2 cpos h => isAtt_elim (P := fun g => Ok3 prog w base os G F n names (.fn b a) (.Call (.Name d q) [.Call g ys kw2 cpos] [] p)) h fun o m apos h =>
        and2k h fun e1 h => and2k h fun e2 h => dec2k h fun e3 h => dec2k h fun e4 h => and2k h fun h3 h => and2k h fun h4 h => and2k h fun h5 h6 =>
          emp (P := fun ys => Ok3 prog w base os G F n names (.fn b a) (.Call (.Name d q) [.Call (.Attribute o m apos) ys kw2 cpos] [] p)) e1 (emp (P := fun kw2 => Ok3 prog w base os G F n names (.fn b a) (.Call (.Name d q) [.Call (.Attribute o m apos) [] kw2 cpos] [] p)) e2 ?_)
      subst e3
      subst e4
      cases b with
      | items => exact ok_plain rfl (ev_items gl h3 h4 h5 (ih names _ h6).1)
      | _ => cases hb)
    fun t hb h => dec2k h fun hd h => and2k h fun h2 h => and2k h fun h3 h4 => by
      obtain ⟨d', f'⟩ := t
      have hd : d = d' := hd
      subst hd
      exact ok_plain rfl (ev_fn gl hb h2 h3 (ih names _ h4).1))
theorem chk_ok (gl : Gl prog w base nm G mg mb) (hF : CallOk prog w base os nm mg n F) (pe : PE) : Ok prog w base os nm G F n pe :=
  PE.rec (motive_1 := fun pe => Ok prog w base os nm G F n pe) (motive_2 := fun pes => ∀ names es, chks nm pes names es = true → EvsOk prog w base os G F n names pes es) (motive_3 := fun pes => ∀ names ks vs, chkd nm pes names ks vs = true → EvdOk prog w base os G F n names pes ks vs)
    (fun v names e h => ok_plain (chkC_plain h) (ev_c gl h))
    (fun i names e h => isN_elim (P := Ok3 prog w base os G F n names (.var i)) h fun x p h => ok_plain rfl (ev_var h))
    (fun a b iha ihb names e h => isBo_elim (P := Ok3 prog w base os G F n names (.and a b)) h fun op es p h => and2k h fun ho h => onC_elim (P := fun es => Ok3 prog w base os G F n names (.and a b) (.BoolOp op es p)) h fun x r h => onC_elim (P := fun r => Ok3 prog w base os G F n names (.and a b) (.BoolOp op (x :: r) p)) h fun y rest h =>
      and2k h fun h1 h2 => have ha := iha names x h1; have hb := ok_rest (ihb names _ h2); isAnd_eq ho ▸ ok_bool (ev_and ha.1 hb.1) (all_and ha.2.1 hb.2))
    (fun a b iha ihb names e h => isBo_elim (P := Ok3 prog w base os G F n names (.or a b)) h fun op es p h => and2k h fun ho h => onC_elim (P := fun es => Ok3 prog w base os G F n names (.or a b) (.BoolOp op es p)) h fun x r h => onC_elim (P := fun r => Ok3 prog w base os G F n names (.or a b) (.BoolOp op (x :: r) p)) h fun y rest h =>
      and2k h fun h1 h2 => have ha := iha names x h1; have hb := ok_rest (ihb names _ h2); isOr_eq ho ▸ ok_bool (ev_or ha.1 hb.1) (all_or ha.2.1 hb.2))
    (fun a ih names e h => isUn_elim (P := Ok3 prog w base os G F n names (.not a)) h fun op x p h => and2k h fun h1 h2 => isNot_elim (P := fun op => Ok3 prog w base os G F n names (.not a) (.UnaryOp op x p)) h1 ⟨ev_not (ih names x h2).1, tr_not (ih names x h2).2.1, fun _ _ _ q => nomatch q⟩)
    (fun c a b ihc iha ihb names e h => isIf_elim (P := Ok3 prog w base os G F n names (.ite c a b)) h fun t x y p h => and2k h fun h1 h => and2k h fun h2 h3 =>
      have hc := ihc names t h1; have ha := iha names x h2; have hb := ihb names y h3; ⟨ev_ite hc.2.1 ha.1 hb.1, tr_ite hc.2.1 ha.2.1 hb.2.1, fun _ _ _ q => nomatch q⟩)
    (fun op a b iha ihb names e h => isBin_elim (P := Ok3 prog w base os G F n names (.bin op a b)) h fun x o y p h => dec2k h fun ho h => and2k h fun h1 h2 => ho ▸ ok_plain rfl (ev_bin (iha names x h1).1 (ihb names y h2).1))
    (fun op a b iha ihb names e h => isCmp_elim (P := Ok3 prog w base os G F n names (.cmp op a b)) h fun x ops ys p h => on1_elim (P := fun ops => Ok3 prog w base os G F n names (.cmp op a b) (.Compare x ops ys p)) h fun o h => on1_elim (P := fun ys => Ok3 prog w base os G F n names (.cmp op a b) (.Compare x [o] ys p)) h fun y h =>
      dec2k h fun ho h => and2k h fun hm h => and2k h fun h1 h2 => ho ▸ ok_cmp (not2 hm) (cmp_ok gl (iha names x h1).1 (ihb names y h2).1))
    (fun o1 o2 a b c iha ihb ihc names e h => isCmp_elim (P := Ok3 prog w base os G F n names (.cmp2 o1 o2 a b c)) h fun x ops ys p h => onC_elim (P := fun ops => Ok3 prog w base os G F n names (.cmp2 o1 o2 a b c) (.Compare x ops ys p)) h fun p1 ops h => on1_elim (P := fun ops => Ok3 prog w base os G F n names (.cmp2 o1 o2 a b c) (.Compare x (p1 :: ops) ys p)) h fun p2 h =>
      onC_elim (P := fun ys => Ok3 prog w base os G F n names (.cmp2 o1 o2 a b c) (.Compare x [p1, p2] ys p)) h fun y ys h => on1_elim (P := fun ys => Ok3 prog w base os G F n names (.cmp2 o1 o2 a b c) (.Compare x [p1, p2] (y :: ys) p)) h fun z h => dec2k h fun h1 h => dec2k h fun h2 h => and2k h fun hm h => and2k h fun h3 h => and2k h fun h4 h5 =>
      h1 ▸ h2 ▸ ⟨ev_cmp2 gl (not2 hm) (iha names x h3).1 (ihb names y h4).1 (ihc names z h5).1, tr_cmp2 gl (not2 hm) (iha names x h3).1 (ihb names y h4).1 (ihc names z h5).1, fun _ _ _ q => nomatch q⟩)
    (fun es ih names e h => isTup_elim (P := Ok3 prog w base os G F n names (.tup es)) h fun xs k p h => dec2k h fun h1 h2 => ok_plain rfl (ev_tup h1 (ih names xs h2)))
    (fun es ih names e h => isLst_elim (P := Ok3 prog w base os G F n names (.list es)) h fun xs p h => dec2k h fun h1 h2 => ok_plain rfl (ev_list h1 (ih names xs h2)))
    (fun kvs ih => dict_ok ih)
    (fun a i iha ihi names e h => isSub_elim (P := Ok3 prog w base os G F n names (.sub a i)) h fun x y p h => and2k h fun h1 h2 => ok_plain rfl (ev_sub (iha names x h1).1 (ihi names y h2).1))
    (fun a lo hi iha ihl ihh names e h => isSub_elim (P := Ok3 prog w base os G F n names (.slice a lo hi)) h fun x y p h => isSli_elim (P := fun y => Ok3 prog w base os G F n names (.slice a lo hi) (.Subscript x y p)) h fun l u st q h => and2k h fun hs h => and2k h fun h1 h => and2k h fun h2 h3 =>
      Option.isNone_iff_eq_none.mp hs ▸ ok_plain rfl (ev_slice (iha names x h1).1 (opt_ok ihl h2) (opt_ok ihh h3)))
    (fun a ih names e h => isSub_elim (P := Ok3 prog w base os G F n names (.rev a)) h fun x y p h => isSli_elim (P := fun y => Ok3 prog w base os G F n names (.rev a) (.Subscript x y p)) h fun l u st q h => and2k h fun h1 h => and2k h fun h2 h => and2k h fun h3 h4 =>
      isBack_elim (P := fun st => Ok3 prog w base os G F n names (.rev a) (.Subscript x (.Slice l u st q) p)) h3 fun i p1 p2 => onone (P := fun l => Ok3 prog w base os G F n names (.rev a) (.Subscript x (.Slice l u _ q) p)) h1 (onone (P := fun u => Ok3 prog w base os G F n names (.rev a) (.Subscript x (.Slice none u _ q) p)) h2 (ok_plain rfl (ev_rev (ih names x h4).1))))
    (fun g i ih names e h => isSub_elim (P := Ok3 prog w base os G F n names (.gsub g i)) h fun x y p h => isN_elim (P := fun x => Ok3 prog w base os G F n names (.gsub g i) (.Subscript x y p)) h fun d q h => and2k h fun h1 h => dec2k h fun h2 h3 => ok_plain rfl (ev_gsub gl h1 h2 (ih names y h3).1))
    (fun i g ih names e h => isCmp_elim (P := Ok3 prog w base os G F n names (.gin i g)) h fun y ops zs p h => on1_elim (P := fun ops => Ok3 prog w base os G F n names (.gin i g) (.Compare y ops zs p)) h fun o h => on1_elim (P := fun zs => Ok3 prog w base os G F n names (.gin i g) (.Compare y [o] zs p)) h fun z h =>
      isN_elim (P := fun z => Ok3 prog w base os G F n names (.gin i g) (.Compare y [o] [z] p)) h fun d q h => and2k h fun ho h => and2k h fun h1 h => dec2k h fun h2 h3 => isIn_eq ho ▸ ok_cmp rfl (gin_ok gl h1 h2 (ih names y h3).1))
    (fun k es ih names e h => isCal_elim (P := Ok3 prog w base os G F n names (.call k es)) h fun f xs kw p h => isN_elim (P := fun f => Ok3 prog w base os G F n names (.call k es) (.Call f xs kw p)) h fun d q h => and2k h fun hk h => and2k h fun h1 h => dec2k h fun h2 h => and2k h fun h3 h => and2k h fun h4 h5 =>
      emp (P := fun kw => Ok3 prog w base os G F n names (.call k es) (.Call (.Name d q) xs kw p)) hk (ok_plain rfl (ev_call gl hF h1 h2 (empty_ne h3) h4 (ih names xs h5))))
    (fun b a ih => fn_ok gl ih)
    (fun m o es iho ih names e h => isCal_elim (P := Ok3 prog w base os G F n names (.meth m o es)) h fun g xs kw p h => isAtt_elim (P := fun g => Ok3 prog w base os G F n names (.meth m o es) (.Call g xs kw p)) h fun x f apos h =>
      and2k h fun hk h => dec2k h fun hf h => and2k h fun h2 h => and2k h fun h3 h => and2k h fun h4 h => and2k h fun h5 h => and2k h fun h6 h => dec2k h fun h7 h8 =>
      emp (P := fun kw => Ok3 prog w base os G F n names (.meth m o es) (.Call (.Attribute x f apos) xs kw p)) hk (hf ▸ ok_plain rfl (ev_meth gl h2 (empty_ne h5) h6 h7 h3 (iho names x h4).1 (ih names xs h8))))
    (fun k fr t src it cond elt ihi ihc ihe names e h => lcomp_parts (P := Ok3 prog w base os G F n names (.lcomp k fr t src it cond elt)) gl ihi ihc ihe h fun _ _ _ _ _ _ c he => ok_plain rfl (ev_lcomp gl c he))
    (fun k fr t it cond pk pv ihi ihc ihk ihv names e h => dcomp_parts (P := Ok3 prog w base os G F n names (.dcomp k fr t it cond pk pv)) gl ihi ihc ihk ihv h fun _ _ _ _ _ _ _ c hk hv => ok_plain rfl (ev_dcomp gl c hk hv))
    (fun names es h => emp (P := EvsOk prog w base os G F n names .nil) h evs_nil)
    (fun pe pes ih ihs names es h => onC_elim (P := EvsOk prog w base os G F n names (.cons pe pes)) h fun e r h => and2k h fun h1 h => and2k h fun h2 h3 => evs_cons h1 (ih names e h2).1 (ihs names r h3))
    (fun names ks vs h => and2k h fun h1 h2 => emp (P := fun ks => EvdOk prog w base os G F n names .nil ks vs) h1 (emp (P := fun vs => EvdOk prog w base os G F n names .nil [] vs) h2 evd_nil))
    (fun pk pv pes ihk ihv ihs names ks vs h => onC_elim (P := fun ks => EvdOk prog w base os G F n names (.cons pk pv pes) ks vs) h fun k ks h => onC_elim (P := fun vs => EvdOk prog w base os G F n names (.cons pk pv pes) (k :: ks) vs) h fun v vs h => and2k h fun h1 h => and2k h fun h2 h3 => evd_cons (ihk names k h1).1 (ihv names v h2).1 (ihs names ks vs h3))
    pe
end
end Mine
/-! Snd21 -/
namespace Mine
open PySem PySem.Calls PyProof.Rows PySem.SeqAt PySem.W

noncomputable def FlOk (h : Heap) (μ : List Addr) (fl : Fl) (f : Flow) : Prop := match fl with
  | .next => f = .next
  | .ret v => ∃ y, f = .ret y ∧ Rel h μ v y
/-- what a statement leaves behind -/
noncomputable def XPost (prog : Program) (w : World) (base : Heap) (os : OsState) (h : Heap) (μ : List Addr) (env : Env) (H' : AH) (fl : Fl) (ρ' : Loc) : Flow → Shared → Prop := fun f s' =>
  ∃ μ', Inv prog w base os s' H' μ' ∧ Ext h s'.heap μ μ' (own env) ∧ FrameOk base s'.heap μ' env ρ' ∧ FlOk s'.heap μ' fl f
noncomputable def ExOk (prog : Program) (w : World) (base : Heap) (os : OsState) (G : GTab) (F : Calls) (n : Nat) (names : Nms) (ps : PS) (st : Stmt) : Prop :=
  ∀ (A : Around) (env : Env) (s : Shared) (H : AH) (μ : List Addr) (ρ : Loc) (fl : Fl) (ρ' : Loc) (H' : AH) (E : Value → Shared → Prop), Room n A → env.scope.names = names → Inv prog w base os s H μ → FrameOk base s.heap μ env ρ →
    ex G F ps ρ H = some (fl, ρ', H') → wpAny (model prog w) A (exec st env) (XPost prog w base os s.heap μ env H' fl ρ') E s
noncomputable def ExsOk (prog : Program) (w : World) (base : Heap) (os : OsState) (G : GTab) (F : Calls) (n : Nat) (names : Nms) (ps : PSs) (st : List Stmt) : Prop :=
  ∀ (A : Around) (env : Env) (s : Shared) (H : AH) (μ : List Addr) (ρ : Loc) (fl : Fl) (ρ' : Loc) (H' : AH) (E : Value → Shared → Prop), Room n A → env.scope.names = names → Inv prog w base os s H μ → FrameOk base s.heap μ env ρ →
    exs G F ps ρ H = some (fl, ρ', H') → wpAny (model prog w) A (execs st env) (XPost prog w base os s.heap μ env H' fl ρ') E s

section
variable {prog : Program} {w : World} {base : Heap} {os : OsState} {nm : NT} {G : GTab} {F : Calls} {mg mb : Str → Option Value} {n : Nat} {names : Nms}
variable {A : Around} {E : Value → Shared → Prop} {s s' : Shared} {H H' H1 : AH} {μ μ' : List Addr} {ρ ρ' : Loc} {env : Env} {v a : V} {x y z : Value} {Q : Value → Shared → Prop} {fl : Fl}

theorem XPost.andThen {h : Heap} {μ₁ : List Addr} {f : Flow} (X : Ext h s.heap μ μ₁ (own env)) (p : XPost prog w base os s.heap μ₁ env H' fl ρ' f s') : XPost prog w base os h μ env H' fl ρ' f s' := by
  obtain ⟨μ', a, b, c, d⟩ := p
  exact ⟨μ', a, X.trans b, c, d⟩
theorem Ext.own {h h' : Heap} (X : Ext h h' μ μ' []) : Ext h h' μ μ' (own env) := X.weaken fun _ q => nomatch q
/-- a store behind an expression -/
theorem XPost.store {h : Heap} {μ₁ : List Addr} {s₁ s₂ : Shared} {loc : Bool} (X : Ext h s.heap μ μ₁ (own env)) (I : Inv prog w base os s H' μ₁) (f : FrameOk base s.heap μ₁ env ρ) (k : Keep s.heap s₁.heap) (hg : s₁.gens = s.gens) (ho : s₁.os = s.os) (t : Stp base s₁ μ₁ env loc ρ' s₂) :
    XPost prog w base os h μ env H' .next ρ' .next s₂ := by
  have I₁ : Inv prog w base os s₁ H' μ₁ := I.keep k hg ho
  have f₁ := f.mvw (Mv.of_keep (wr := []) k) noF (fun _ q => nomatch q)
  have I₂ := t.inv f₁ I₁
  refine ⟨μ₁, I₂, ?_, t.fr, rfl⟩
  refine X.trans ⟨⟨[], by simp, by simp⟩, fun a o e => ?_, fun a o e h1 h2 => ?_⟩
  · by_cases q : a ∈ wrOf loc env
    · exact t.lv a (wrOf_sub _ _ a q)
    · exact ⟨o, t.mv a o q (k a o e)⟩
  · exact t.mv a o (fun q => h2 (wrOf_sub _ _ a q)) (k a o e)

theorem XPost.elim {h : Heap} {f : Flow} {P : Prop} (p : XPost prog w base os h μ env H' fl ρ' f s') (k : ∀ μ', Inv prog w base os s' H' μ' → Ext h s'.heap μ μ' (own env) → FrameOk base s'.heap μ' env ρ' → FlOk s'.heap μ' fl f → P) : P := by
  obtain ⟨μ', a, b, c, d⟩ := p
  exact k μ' a b c d
theorem XPost.at {h : Heap} {f : Flow} {fl0 : Fl} {ρ0 : Loc} {H0 : AH} (e : some (fl0, ρ0, H0) = some (fl, ρ', H')) (p : XPost prog w base os h μ env H0 fl0 ρ0 f s') : XPost prog w base os h μ env H' fl ρ' f s' := by
  cases e; exact p
section
variable {r : Fl × Loc × AH} {P : Prop}
theorem ex_ret_elim {pe : PE} (he : ex G F (.ret pe) ρ H = some r) (k : ∀ v H1, ev G F pe ρ H = some (v, H1) → some (Fl.ret v, ρ, H1) = some r → P) : P := bnd_elim (f := fun v H1 => some (Fl.ret v, ρ, H1)) he k
theorem ex_expr_elim {pe : PE} (he : ex G F (.expr pe) ρ H = some r) (k : ∀ v H1, ev G F pe ρ H = some (v, H1) → some (Fl.next, ρ, H1) = some r → P) : P := bnd_elim (f := fun _ H1 => some (Fl.next, ρ, H1)) he k
theorem ex_ite_elim {pe : PE} {a b : PSs} (he : ex G F (.ite pe a b) ρ H = some r) (k : ∀ v H1, ev G F pe ρ H = some (v, H1) → brn v (exs G F a ρ H1) (exs G F b ρ H1) = some r → P) : P := bnd_elim (f := fun v H1 => brn v (exs G F a ρ H1) (exs G F b ρ H1)) he k
theorem ex_asg_elim {t : Tgt} {pe : PE} (he : ex G F (.asg t pe) ρ H = some r) (k : ∀ v H1 ρ1, ev G F pe ρ H = some (v, H1) → putV t v ρ = some ρ1 → some (Fl.next, ρ1, H1) = some r → P) : P :=
  bnd_elim (f := fun v H1 => obn (putV t v ρ) fun ρ' => some (Fl.next, ρ', H1)) he fun v H1 e1 he => obn_elim he fun ρ1 hp he => k v H1 ρ1 e1 hp he
theorem ex_asub_elim {a i pe : PE} (he : ex G F (.asub a i pe) ρ H = some r) (k : ∀ v H1 x H2 y H3 H4, ev G F pe ρ H = some (v, H1) → ev G F a ρ H1 = some (x, H2) → ev G F i ρ H2 = some (y, H3) → storeV x y v H3 = some H4 → some (Fl.next, ρ, H4) = some r → P) : P :=
  bnd_elim (f := fun v H1 => bnd (ev G F a ρ H1) fun x H2 => bnd (ev G F i ρ H2) fun y H3 => obn (storeV x y v H3) fun H4 => some (Fl.next, ρ, H4)) he fun v H1 e1 he => bnd_elim he fun x H2 e2 he => bnd_elim he fun y H3 e3 he => obn_elim he fun H4 e4 he => k v H1 x H2 y H3 H4 e1 e2 e3 e4 he
end
/-! rows of statements -/
theorem exs_nil : ExsOk prog w base os G F n names .nil [] :=
  fun A env s H μ ρ fl ρ' H' E hA hn I f he => wpAny_execs_nil (XPost.at he ⟨μ, I, Ext.refl _ _ _, f, rfl⟩)
theorem exs_cons {ps : PS} {pss : PSs} {st : Stmt} {sts : List Stmt} (h1 : ExOk prog w base os G F n names ps st) (h2 : ExsOk prog w base os G F n names pss sts) : ExsOk prog w base os G F n names (.cons ps pss) (st :: sts) :=
  fun A env s H μ ρ fl ρ' H' E hA hn I f he => thn_elim (o := ex G F ps ρ H) he
    (fun ρ1 H1 e1 he => wpAny_execs_cons (mono (h1 A env s H μ ρ .next ρ1 H1 E hA hn I f e1) fun fw s₁ p => p.elim fun μ₁ I₁ X₁ f₁ hf => by
      cases hf
      exact mono (h2 A env s₁ H1 μ₁ ρ1 fl ρ' H' E hA hn I₁ f₁ he) fun fw s₂ q => q.andThen X₁))
    fun v hv e1 => wpAny_execs_cons (mono (h1 A env s H μ ρ (.ret v) ρ' H' E hA hn I f e1) fun fw s₁ p => by
      subst hv
      obtain ⟨μ₁, I₁, X₁, f₁, y, rfl, r⟩ := id p
      exact p)
theorem ex_ret {pe : PE} {e : Expr} {pos : Pos} (h : EvOk prog w base os G F n names pe e) : ExOk prog w base os G F n names (.ret pe) (.Return (some e) pos) :=
  fun A env s H μ ρ fl ρ' H' E hA hn I f he => ex_ret_elim he fun v H1 e1 he => wpAny_Return_some (h.run hA hn I f e1 fun y s₁ μ₁ I₁ X₁ r₁ _ f₁ => XPost.at he ⟨μ₁, I₁, X₁.own, f₁, y, rfl, r₁⟩)
theorem ex_ite {c : PE} {a b : PSs} {t : Expr} {xs ys : List Stmt} {pos : Pos} (hc : TrOk prog w base os G F n names c t) (ha : ExsOk prog w base os G F n names a xs) (hb : ExsOk prog w base os G F n names b ys) :
    ExOk prog w base os G F n names (.ite c a b) (.If t xs ys pos) :=
  fun A env s H μ ρ fl ρ' H' E hA hn I f he => ex_ite_elim he fun u H1 h1 he => brn_elim he
    (fun hb0 he => wpAny_If (hc.run hA hn I f h1 hb0 fun s₁ μ₁ I₁ X₁ _ _ f₁ => mono (ha A env s₁ H1 μ₁ ρ fl ρ' H' E hA hn I₁ f₁ he) fun r s₂ q => q.andThen X₁.own))
    (fun hb0 he => wpAny_If (hc.run hA hn I f h1 hb0 fun s₁ μ₁ I₁ X₁ _ _ f₁ => mono (hb A env s₁ H1 μ₁ ρ fl ρ' H' E hA hn I₁ f₁ he) fun r s₂ q => q.andThen X₁.own))
noncomputable def noComp (e : Expr) : Bool := match e with
  | .ListComp .. => false
  | .SetComp .. => false
  | .DictComp .. => false
  | _ => true
theorem swaps_no {e : Expr} (h : noComp e = true) (t : Option Expr) (l : Nat) (env : Env) : swapsWith e t l env = pure false := by
  cases e <;> first | rfl | cases h
theorem ex_expr {pe : PE} {e : Expr} {pos : Pos} (hc : noComp e = true) (h : EvOk prog w base os G F n names pe e) : ExOk prog w base os G F n names (.expr pe) (.Expr e pos) := by
  intro A env s H μ ρ fl ρ' H' E hA hn I f he
  refine ex_expr_elim he fun v H1 e1 he => ?_
  have hi : interactive env = false := by
    unfold interactive
    simp [f.kind]
  rw [exec_Expr env e pos hi (swaps_no hc _ _ _)]
  refine wpAny_bind (wpAny_standAt (wpAny_bind (h.run hA hn I f e1 fun y s₁ μ₁ I₁ X₁ r₁ _ f₁ => ?_)))
  have key : XPost prog w base os s.heap μ env H' fl ρ' .next s₁ := XPost.at he ⟨μ₁, I₁, X₁.own, f₁, rfl⟩
  unfold dropValue
  split
  · exact wpAny_pure key
  · exact wpAny_bind (wpAny_standAt (wpAny_bind (wpAny_runValue (codeAny_builtin entry_let_go (show wpAny _ _ (ret .none) _ _ _ from wpAny_pure (wpAny_pure key))))))
  · exact wpAny_pure key
/-- xs[i] = v -/
theorem exec_Assign1 (target value : Expr) (pos : Pos) (env : Env) : exec (.Assign [target] value pos) env = (do
    standAt pos
    if ← swapsWith value (some target) pos.line env then do
      evalThenUse value env fun v => assignAll v ((assignEach [target] env).map (·.2))
      pure .next
    else do
      let v ← eval value env
      assignStores env v (← swappedStores [target] value env) ((assignEach [target] env).map (·.2))) := rfl
/-- a store behind a value, no comprehension's own -/
theorem asg_any {pe : PE} {target e : Expr} {pos : Pos} {r : Option (List Str)} {Q : Flow → Shared → Prop} (hA : Room n A) (hn : env.scope.names = names) (I : Inv prog w base os s H μ) (f : FrameOk base s.heap μ env ρ) (h : EvOk prog w base os G F n names pe e) (he : ev G F pe ρ H = some (v, H1))
    (hw : swapsWith e (some target) pos.line env = pure false) (hs : swappedStores [target] e env = pure r)
    (k : ∀ x s₁ μ₁, Inv prog w base os s₁ H1 μ₁ → Ext s.heap s₁.heap μ μ₁ [] → Rel s₁.heap μ₁ v x → FrameOk base s₁.heap μ₁ env ρ → wpAny (model prog w) A (assignStores env x r ((assignEach [target] env).map (·.2))) Q E s₁) : wpAny (model prog w) A (exec (.Assign [target] e pos) env) Q E s := by
  rw [exec_Assign1, hw]
  refine wpAny_bind (wpAny_standAt (wpAny_bind (wpAny_pure ?_)))
  rw [if_neg (by decide)]
  refine wpAny_bind (h.run hA hn I f he fun x s₁ μ₁ I₁ X₁ r₁ _ f₁ => ?_)
  rw [hs]
  exact wpAny_bind (wpAny_pure (k x s₁ μ₁ I₁ X₁ r₁ f₁))
theorem swaps_sub (e x y : Expr) (p : Pos) (l : Nat) (env : Env) : swapsWith e (some (.Subscript x y p)) l env = pure false := by cases e <;> rfl
theorem swapped_sub (e x y : Expr) (p : Pos) (env : Env) : swappedStores [.Subscript x y p] e env = pure none := by cases e <;> rfl
theorem swaps_name {e : Expr} (xn : Str) (p : Pos) (env : Env) : swappedStores [.Name xn p] e env = pure none := by cases e <;> rfl
theorem swapped_tup {e : Expr} (h : (isTup e fun _ _ _ => true) = false) (ts : List Expr) (k : Nat) (p : Pos) (env : Env) : swappedStores [.Tuple ts k p] e env = pure none := by
  cases e <;> first | rfl | cases h
theorem sub_store {pa pi : PE} {x y : Expr} {p : Pos} {va vi : V} {H2 H3 H4 : AH} {yv : Value} {Q : Unit → Shared → Prop} (ha : EvOk prog w base os G F n names pa x) (hi : EvOk prog w base os G F n names pi y) (hA : Room n A) (hn : env.scope.names = names) (I : Inv prog w base os s H μ) (f : FrameOk base s.heap μ env ρ)
    (e2 : ev G F pa ρ H = some (va, H2)) (e3 : ev G F pi ρ H2 = some (vi, H3)) (e4 : storeV va vi v H3 = some H4) (r : Rel s.heap μ v yv) (k : ∀ s' μ', Inv prog w base os s' H4 μ' → Ext s.heap s'.heap μ μ' [] → FrameOk base s'.heap μ' env ρ → Q () s') : wpAny (model prog w) A (assign (.Subscript x y p) env yv) Q E s := by
  rw [arm_assign_Subscript]
  exact wpAny_bind (wpAny_holding (ha.run hA hn I f e2 fun xv s₂ μ₂ I₂ X₂ r₂ _ f₂ => wpAny_bind (wpAny_holding (hi.run hA hn I₂ f₂ e3 fun yv s₃ μ₃ I₃ X₃ r₃ _ f₃ =>
    wpAny_bind (wpAny_standAt (wpAny_bind (wpAny_holding (mono (store_snd I₃ e4 (r₂.mv X₃ I₂.noTup) r₃ (r.mv (X₂.trans X₃) I.noTup)) fun _ s₄ p => wpAny_release' (k s₄ μ₃ p.1 ((X₂.trans X₃).trans p.2) (f₃.ext p.2 I₃.noTup))))))))))
theorem ex_asub {a i pe : PE} {x y e : Expr} {p pos : Pos} (ha : EvOk prog w base os G F n names a x) (hi : EvOk prog w base os G F n names i y) (he : EvOk prog w base os G F n names pe e) :
    ExOk prog w base os G F n names (.asub a i pe) (.Assign [.Subscript x y p] e pos) :=
  fun A env s H μ ρ fl ρ' H' E hA hn I f hex => ex_asub_elim hex fun v H1 va H2 vi H3 H4 e1 e2 e3 e4 hex => asg_any hA hn I f he e1 (swaps_sub ..) (swapped_sub ..) fun yv s₁ μ₁ I₁ X₁ r₁ f₁ => by
    show wpAny _ _ (assign (.Subscript x y p) env yv >>= fun _ => (pure Flow.next : Sem Flow)) _ _ _
    exact wpAny_bind (sub_store ha hi hA hn I₁ f₁ e2 e3 e4 r₁ fun s₄ μ₄ I₄ X₄ f₄ => wpAny_pure (XPost.at hex ⟨μ₄, I₄, (X₁.trans X₄).own, f₄, rfl⟩))

/-! stores under names -/
noncomputable def starAny (vs : List Expr) : Bool := vs.any fun | .Starred .. => true | _ => false
noncomputable def swapNms (names : Nms) (ts : List Expr) : List Str := ts.filterMap fun
  | .Name id pos => if names.lookup id == some .local && pos.line == (ts.head?.map (·.pos.line)).getD 0 then some id else none
  | _ => none
theorem swapped_eq (ts vs : List Expr) (k k' : Nat) (p p' : Pos) (env : Env) : swappedStores [.Tuple ts k p] (.Tuple vs k' p') env =
    if (!(ts.length == 2 || ts.length == 3) || vs.length != ts.length || env.blockKind != .function) = true then pure none else
      if starAny vs = true then pure none else
      if ((swapNms env.scope.names ts).length != ts.length || (swapNms env.scope.names ts).eraseDups.length != (swapNms env.scope.names ts).length) = true then pure none else
      if vs.all (foldedForSure 8) = true then pure none else
      if vs.all (constantsAlone 8) = true then unsupported "assign.tuple-of-constant-expressions:order-of-the-stores" else pure (some (swapNms env.scope.names ts)) := by
  first | rfl | (unfold swappedStores; rfl) | skip
/-- the swapped stores of two or three names -/
noncomputable def swpT (names : Nms) (ts vs : List Expr) : Option (Option (List Str)) :=
  cond (!(ts.length == 2 || ts.length == 3) || vs.length != ts.length || false) (some none) <|
  cond (starAny vs) (some none) <|
  cond ((swapNms names ts).length != ts.length || (swapNms names ts).eraseDups.length != (swapNms names ts).length) (some none) <|
  cond (vs.all (foldedForSure 8)) (some none) <|
  cond (vs.all (constantsAlone 8)) none (some (some (swapNms names ts)))
theorem swpT_ok (hk : env.scope.kind = .function) {ts vs : List Expr} {k k' : Nat} {p p' : Pos} {r : Option (List Str)} (h : swpT env.scope.names ts vs = some r) : swappedStores [.Tuple ts k p] (.Tuple vs k' p') env = pure r := by
  have hb : (env.blockKind != .function) = false := by simp [Env.blockKind, hk, ScopeKind.isAnnotationScope]
  rw [swapped_eq, hb]
  have step : ∀ {b : Bool} {x y : Option (Option (List Str))} {X Y : Sem (Option (List Str))}, cond b x y = some r → (x = some r → X = pure r) → (y = some r → Y = pure r) → (if b = true then X else Y) = pure r := fun {b} {x y X Y} h k1 k0 => by
    cases b with
    | true => exact k1 h
    | false => exact k0 h
  have sn : ∀ {r : Option (List Str)}, (some (none : Option (List Str))) = some r → (pure none : Sem (Option (List Str))) = pure r := fun h => by cases h; rfl
  exact step h sn fun h => step h sn fun h => step h sn fun h => step h sn fun h => step h (fun h => nomatch h) fun h => by cases h; rfl

/-! names bound in a row -/
noncomputable abbrev setAll (is : List Nat) (l : List V) (ρ : Loc) : Loc := (is.zip l).foldl (fun r p => r.set p.1 (some p.2)) ρ
theorem setAll_get {is : List Nat} {l : List V} {ρ : Loc} {i : Nat} (h : i ∉ is) : (setAll is l ρ)[i]? = ρ[i]? := (setAll_keeps is l ρ).2 i h
theorem setAll_len {is : List Nat} {l : List V} {ρ : Loc} : (setAll is l ρ).length = ρ.length := (setAll_keeps is l ρ).1
theorem setAll_at (is : List Nat) : ∀ {l : List V} {ρ : Loc} {k i : Nat} {v : V}, is.Nodup → is[k]? = some i → l[k]? = some v → i < ρ.length → (setAll is l ρ)[i]? = some (some v) := by
  induction is with
  | nil => intro l ρ k i v _ h; cases h
  | cons j is ih =>
    intro l ρ k i v hn h1 h2 hl
    cases l with
    | nil => cases h2
    | cons u l =>
      cases k with
      | zero =>
        cases h1
        cases h2
        exact (setAll_get (List.nodup_cons.mp hn).1).trans (List.getElem?_set_self hl)
      | succ k => exact ih (l := l) (ρ := ρ.set j (some u)) (k := k) (List.nodup_cons.mp hn).2 h1 h2 (by rw [List.length_set]; exact hl)
theorem setAll_rev {is : List Nat} {l : List V} {ρ : Loc} (hn : is.Nodup) (hl : is.length = l.length) (hb : ∀ i ∈ is, i < ρ.length) : setAll is.reverse l.reverse ρ = setAll is l ρ := by
  apply List.ext_getElem?
  intro i
  by_cases hi : i ∈ is
  · obtain ⟨k, hk⟩ := List.mem_iff_getElem?.mp hi
    have hkl := lt_of_some hk
    have hv : l[k]? = some l[k] := List.getElem?_eq_getElem (by omega)
    rw [setAll_at is hn hk hv (hb i hi)]
    refine setAll_at is.reverse (k := is.length - 1 - k) ((List.reverse_perm is).nodup_iff.mpr hn) ?_ ?_ (hb i hi)
    · rw [List.getElem?_reverse (by omega), show is.length - 1 - (is.length - 1 - k) = k by omega]; exact hk
    · rw [List.getElem?_reverse (by omega), show l.length - 1 - (is.length - 1 - k) = k by omega]; exact hv
  · rw [setAll_get hi, setAll_get (by simpa using hi)]

noncomputable def chkNms (names : Nms) : List Nat → List Str → Bool
  | [], xs => xs.isEmpty
  | i :: is, xs => onC xs fun x xs => stOk false names i x && chkNms names is xs
theorem chkNms_len (is : List Nat) : ∀ {xs : List Str}, chkNms names is xs = true → is.length = xs.length := by
  induction is with
  | nil => intro xs h; exact emp (P := fun xs : List Str => 0 = xs.length) h rfl
  | cons i is ih => intro xs h; exact onC_elim (P := fun xs => is.length + 1 = xs.length) h fun x xs h => congrArg (· + 1) (ih (and2 h).2)
theorem chkNms_get (is : List Nat) : ∀ {xs : List Str} {k i : Nat} {x : Str}, chkNms names is xs = true → is[k]? = some i → xs[k]? = some x → stOk false names i x = true := by
  induction is with
  | nil => intro xs k i x _ h; cases h
  | cons j is ih =>
    intro xs k i x h h1 h2
    refine onC_elim (P := fun xs => xs[k]? = some x → stOk false names i x = true) h (fun u l h h2 => ?_) h2
    cases k with
    | zero => exact Option.some.inj h1 ▸ Option.some.inj h2 ▸ (and2 h).1
    | succ k => exact ih (k := k) (and2 h).2 h1 h2
theorem bind_row (is : List Nat) : ∀ {xs : List Str} {l : List V} {ys : List Value} {s : Shared} {ρ : Loc}, (∀ (k i : Nat) (x : Str), is[k]? = some i → xs[k]? = some x → stOk false env.scope.names i x = true) → is.length = xs.length → FrameOk base s.heap μ env ρ → Rels s.heap μ l ys → is.length = l.length →
    wpAny (model prog w) A (assignInOrder (xs.map fun n => bindName env n) ys) (fun _ s' => Stp base s μ env false (setAll is l ρ) s') E s := by
  induction is with
  | nil =>
    intro xs l ys s ρ _ hx f rs hl
    cases List.length_eq_zero_iff.mp hx.symm
    cases List.length_eq_zero_iff.mp hl.symm
    exact rs.nil_inv (P := fun ys => wpAny (model prog w) A (assignInOrder [] ys) (fun _ s' => Stp base s μ env false ρ s') E s) (wpAny_pure (Stp.of (Mv.refl _ _) f))
  | cons i is ih =>
    intro xs l ys s ρ hc hx f rs hl
    cases l with
    | nil => cases hl
    | cons v l =>
      cases xs with
      | nil => cases hx
      | cons x xs =>
        refine rs.cons_inv (P := fun ys => wpAny (model prog w) A (assignInOrder ((x :: xs).map fun n => bindName env n) ys) (fun _ s' => Stp base s μ env false (setAll (i :: is) (v :: l) ρ) s') E s) fun y ys a r => ?_
        show wpAny _ _ (holding ys (bindName env x y) >>= fun _ => assignInOrder (xs.map fun n => bindName env n) ys) _ _ s
        exact wpAny_bind (wpAny_holding (mono (bind_name f (hc 0 i x rfl rfl) a) fun _ s' t => mono (ih (fun k i x h1 h2 => hc (k + 1) i x h1 h2) (Nat.succ.inj hx) t.fr (r.mvw t.mv fun a ha => f.noTup a (wrOf_sub _ _ a ha)) (Nat.succ.inj hl)) fun _ s'' u => t.trans u))
/-- the stores, each in its turn -/
theorem asg_put {target : Expr} {t : Tgt} {yv : Value} {h : Heap} {μ₀ : List Addr} (hh : A.handled = none) (X : Ext h s.heap μ₀ μ []) (I : Inv prog w base os s H μ) (f : FrameOk base s.heap μ env ρ) (r : Rel s.heap μ v yv) (ht : chkT false env.scope.names t target = true) (hp : putV t v ρ = some ρ')
    (ha : (assignEach [target] env).map (·.2) = [assign target env]) : wpAny (model prog w) A (assignStores env yv none ((assignEach [target] env).map (·.2))) (XPost prog w base os h μ₀ env H .next ρ') E s := by
  rw [ha]
  show wpAny _ _ (assign target env yv >>= fun _ => (pure Flow.next : Sem Flow)) _ _ _
  refine wpAny_bind (mono (asg_snd hh f (loc := false) ht hp r) fun _ s₂ q => wpAny_pure ?_)
  obtain ⟨s₁', k1, g1, o1, tt⟩ := q
  exact XPost.store X.own I f k1 g1 o1 tt
theorem ex_asg1 {i : Nat} {pe : PE} {target e : Expr} {pos : Pos} (hc : noComp e = true) (ht : chkT false names (.one i) target = true) (h : EvOk prog w base os G F n names pe e) : ExOk prog w base os G F n names (.asg (.one i) pe) (.Assign [target] e pos) :=
  isN_elim (P := fun target => chkT false names (.one i) target = true → ExOk prog w base os G F n names (.asg (.one i) pe) (.Assign [target] e pos)) ht (fun x p _ ht => fun A env s H μ ρ fl ρ' H' E hA hn I f he => ex_asg_elim he fun v H1 ρ1 e1 hp he =>
    asg_any hA hn I f h e1 (swaps_no hc ..) (swaps_name ..) fun yv s₁ μ₁ I₁ X₁ r₁ f₁ => mono (asg_put hA.handled X₁ I₁ f₁ r₁ (hn ▸ ht) hp rfl) fun _ _ q => XPost.at he q) ht
theorem ex_asgT {is : List Nat} {pe : PE} {ts : List Expr} {k : Nat} {p : Pos} {e : Expr} {pos : Pos} (hc : noComp e = true) (ht : chkMany false names is ts = true) (hs : ∀ env : Env, env.scope.kind = .function → env.scope.names = names → swappedStores [.Tuple ts k p] e env = pure none) (h : EvOk prog w base os G F n names pe e) :
    ExOk prog w base os G F n names (.asg (.many is) pe) (.Assign [.Tuple ts k p] e pos) :=
  fun A env s H μ ρ fl ρ' H' E hA hn I f he => ex_asg_elim he fun v H1 ρ1 e1 hp he =>
    asg_any hA hn I f h e1 (swaps_no hc ..) (hs env f.kind hn) fun yv s₁ μ₁ I₁ X₁ r₁ f₁ => mono (asg_put hA.handled X₁ I₁ f₁ r₁ (t := .many is) (hn ▸ ht) hp rfl) fun _ _ q => XPost.at he q
theorem ex_asgW {is : List Nat} {pe : PE} {ts : List Expr} {k : Nat} {p : Pos} {e : Expr} {pos : Pos} {nms : List Str} (hc : noComp e = true) (hs : ∀ env : Env, env.scope.kind = .function → env.scope.names = names → swappedStores [.Tuple ts k p] e env = pure (some nms)) (hcn : chkNms names is nms = true) (hnd : is.Nodup) (h : EvOk prog w base os G F n names pe e) :
    ExOk prog w base os G F n names (.asg (.many is) pe) (.Assign [.Tuple ts k p] e pos) :=
  fun A env s H μ ρ fl ρ' H' E hA hn I f he => ex_asg_elim he fun v H1 ρ1 e1 hp he =>
    asg_any hA hn I f h e1 (swaps_no hc ..) (hs env f.kind hn) fun yv s₁ μ₁ I₁ X₁ r₁ f₁ =>
      ca_tup (P := fun _ yv => wpAny (model prog w) A (assignStores env yv (some nms) ((assignEach [.Tuple ts k p] env).map (·.2))) (XPost prog w base os s.heap μ env H' fl ρ') E s₁) hp r₁ (fun l q' vs m hq rs hlen hp => gud_elim hp fun hl hp => by
        have hil := chkNms_len is hcn
        show wpAny _ _ (do rule "assign.swapped-stores"; let items ← unpackItems (.ref q') nms.length none; assignInOrder (nms.reverse.map fun n => bindName env n) items.reverse; (pure Flow.next : Sem Flow)) _ _ s₁
        refine wpAny_bind (wpAny_rule ?_)
        have hsz : nms.length = vs.toArray.size := by rw [List.size_toArray, rs.length, ← hl.1, hil]
        rw [hsz]
        refine wpAny_bind (unpackItems_tuple hA.handled ⟨_, hq, rfl, m, rfl⟩ fun h' hx => ?_)
        have K : Keep s₁.heap h' := fun b o e => hx b o (Nat.ne_of_lt (Heap.lt_size e)) e
        have f' := f₁.mvw (Mv.of_keep (wr := []) K) noF (fun _ q => nomatch q)
        have rs' : Rels h' μ₁ l.reverse vs.reverse := (rs.mvw (Mv.of_keep (wr := []) K) noF).reverse
        have hb : ∀ i ∈ is, i < ρ.length := fun i hi => of_decide_eq_true (List.all_eq_true.mp hl.2 i hi)
        have e0 : setAll is l ρ = setAll is.reverse l.reverse ρ := (setAll_rev hnd hl.1 hb).symm
        refine wpAny_bind (mono (bind_row (s := { s₁ with heap := h' }) is.reverse (xs := nms.reverse) (fun k i x h1 h2 => ?_) (by rw [List.length_reverse, List.length_reverse, hil]) f' rs' (by rw [List.length_reverse, List.length_reverse, hl.1])) fun _ s₂ tt => wpAny_pure (XPost.at he ?_))
        · have l1 := lt_of_some h1
          have l2 := lt_of_some h2
          rw [List.length_reverse] at l1 l2
          rw [List.getElem?_reverse l1] at h1
          rw [List.getElem?_reverse l2] at h2
          rw [← hil] at h2
          exact hn.symm ▸ chkNms_get is hcn h1 h2
        · rw [← Option.some.inj hp]
          exact XPost.store (s₁ := { s₁ with heap := h' }) X₁.own I₁ f₁ K rfl rfl (e0 ▸ tt)) fun q => by cases q

/-! a comprehension under a name -/
noncomputable def swapC (names : Nms) (scope : Scope) (p : Pos) (t : Str) (pos : Pos) : Bool := (true && names.lookup t == some .local && pos.line == p.line) && !(scope.names.any fun (n, k) => n == t && (k == .local || k == .cell))
theorem swapL_eq (hk : env.scope.kind = .function) {elt : Expr} {gens : List Comprehension} {scope : Scope} {p : Pos} {t : Str} {pos : Pos} {l : Nat} : swapsWith (.ListComp elt gens scope p) (some (.Name t pos)) l env = pure (swapC env.scope.names scope p t pos) := by
  have hb : (env.blockKind == .function) = true := by simp [Env.blockKind, hk, ScopeKind.isAnnotationScope]
  unfold swapsWith swapC
  dsimp only
  rw [hb]
  rfl
theorem swapD_eq (hk : env.scope.kind = .function) {kx vx : Expr} {gens : List Comprehension} {scope : Scope} {p : Pos} {t : Str} {pos : Pos} {l : Nat} : swapsWith (.DictComp kx vx gens scope p) (some (.Name t pos)) l env = pure (swapC env.scope.names scope p t pos) := by
  have hb : (env.blockKind == .function) = true := by simp [Env.blockKind, hk, ScopeKind.isAnnotationScope]
  unfold swapsWith swapC
  dsimp only
  rw [hb]
  rfl
/-- a comprehension's end, its store, its names' end -/
theorem comp_store (I : Inv prog w base os s H μ) (f : FrameOk base s.heap μ env ρ) {i : Nat} {xn : Str} {p : Pos} (hs : stOk false env.scope.names i xn = true) {C D : Addr} (c : CompEnd prog w base os s.heap μ H' v (.ref D) C s') :
    compPost (model prog w) A E (some fun v => assignAll v ((assignEach [.Name xn p] env).map (·.2))) (fun _ s' => XPost prog w base os s.heap μ env H' .next (ρ.set i (some v)) .next s') (.ref D) C (.ok .next) s' := by
  obtain ⟨μ', I', X', r', c1, c2, c3, m, hm⟩ := c
  have f' := f.ext X' I.noTup
  have hCown : C ∉ own env := fun q => by
    obtain ⟨o, e⟩ := f.live C q
    rw [c3] at e; cases e
  show wpAny _ _ (assign (.Name xn p) env (.ref D)) _ _ _
  refine PySem.wpAny_assign_Name (mono (store_name f' hs r') fun _ s'' t => ?_)
  have hm' : s''.heap.Ns C m := hm.at' fun o e => t.mv C o (fun q => hCown (wrOf_sub _ _ C q)) e
  refine ⟨m, hm', fun h' sb => ?_⟩
  have mv := Mv.sameBut sb
  have nt := ns_nt hm'
  have one : ∀ {b}, b ∈ [C] → b = C := List.mem_singleton.mp
  have I'' := t.inv f' I'
  refine ⟨μ', I''.mvw (s' := { s'' with heap := h' }) mv nt (fun b hb => one hb ▸ c1) (fun b hb => one hb ▸ c2), ?_, t.fr.mvw mv nt (fun b hb => one hb ▸ hCown), rfl⟩
  have X'' : Ext s.heap s''.heap μ μ' (own env) := X'.own.trans ⟨⟨[], by simp, by simp⟩, fun a o e => by
    by_cases q : a ∈ wrOf false env
    · exact t.lv a (wrOf_sub _ _ a q)
    · exact ⟨o, t.mv a o q e⟩, fun a o e h1 h2 => t.mv a o (fun q => h2 (wrOf_sub _ _ a q)) e⟩
  exact X''.mvw mv fun b hb => one hb ▸ c3

theorem evalUse_list {elt target iter : Expr} {ifs : List Expr} {scope : Scope} {pos : Pos} {use : Value → Sem Unit} {Q : Unit → Shared → Prop}
    (h : wpAny (model prog w) A (comprehension (.ListComp elt [⟨target, iter, ifs, 0⟩] scope pos) scope env iter.pos (newList []) false (eval iter env) (some use)) (fun _ => Q ()) E s) :
    wpAny (model prog w) A (evalThenUse (.ListComp elt [⟨target, iter, ifs, 0⟩] scope pos) env use) Q E s :=
  wpAny_bind (wpAny_mono h (fun _ _ q => wpAny_pure q) fun _ _ e => e)
theorem evalUse_dict {kx vx target iter : Expr} {ifs : List Expr} {scope : Scope} {pos : Pos} {use : Value → Sem Unit} {Q : Unit → Shared → Prop}
    (h : wpAny (model prog w) A (comprehension (.DictComp kx vx [⟨target, iter, ifs, 0⟩] scope pos) scope env iter.pos newDict false (eval iter env) (some use)) (fun _ => Q ()) E s) :
    wpAny (model prog w) A (evalThenUse (.DictComp kx vx [⟨target, iter, ifs, 0⟩] scope pos) env use) Q E s :=
  wpAny_bind (wpAny_mono h (fun _ _ q => wpAny_pure q) fun _ _ e => e)
theorem asg_use {target e : Expr} {pos : Pos} {Q : Flow → Shared → Prop} (hw : swapsWith e (some target) pos.line env = pure true)
    (h : wpAny (model prog w) A (evalThenUse e env fun v => assignAll v ((assignEach [target] env).map (·.2))) (fun _ => Q .next) E s) : wpAny (model prog w) A (exec (.Assign [target] e pos) env) Q E s := by
  rw [exec_Assign1, hw]
  refine wpAny_bind (wpAny_standAt (wpAny_bind (wpAny_pure ?_)))
  rw [if_pos rfl]
  exact wpAny_bind (wpAny_mono h (fun _ _ q => wpAny_pure q) fun _ _ e => e)
noncomputable def isComp (p : PE) : Bool := match p with
  | .lcomp .. => true
  | .dcomp .. => true
  | _ => false
theorem compPost_mono {M : Model} {use : Value → Sem Unit} {Q Q' : Value → Shared → Prop} {acc : Value} {C : Addr} {f : Flow} (h : compPost M A E (some use) Q acc C (.ok f) s) (k : ∀ x s, Q x s → Q' x s) : compPost M A E (some use) Q' acc C (.ok f) s :=
  wpAny_mono h (fun _ _ q => q.elim fun m q => ⟨m, q.1, fun h' sb => k _ _ (q.2 h' sb)⟩) fun _ _ e => e
theorem ex_asgC (gl : Gl prog w base nm G mg mb) (hF : CallOk prog w base os nm mg n F) {pe : PE} {e : Expr} {pos p : Pos} {i : Nat} {xn : Str} (hk : isComp pe = true) (hs : stOk false names i xn = true) (h : chk nm pe names e = true) :
    ExOk prog w base os G F n names (.asg (.one i) pe) (.Assign [.Name xn p] e pos) :=
  by
    intro A env s H μ ρ fl ρ' H' E hA hn I f he
    subst hn
    refine ex_asg_elim he fun v H1 ρ1 e1 hp he => ?_
    have hev := (chk_ok gl hF _ _ _ h).1
    have plain : swapsWith e (some (.Name xn p)) pos.line env = pure false → wpAny (model prog w) A (exec (.Assign [.Name xn p] e pos) env) (XPost prog w base os s.heap μ env H' fl ρ') E s := fun hw =>
      asg_any hA rfl I f hev e1 hw (swaps_name ..) fun yv s₁ μ₁ I₁ X₁ r₁ f₁ => mono (asg_put hA.handled X₁ I₁ f₁ r₁ (t := .one i) hs hp rfl) fun _ _ q => XPost.at he q
    have hp' : ρ.set i (some v) = ρ1 := gua_elim hp fun _ hp => Option.some.inj hp
    have fin : ∀ {s' : Shared}, XPost prog w base os s.heap μ env H1 .next (ρ.set i (some v)) .next s' → XPost prog w base os s.heap μ env H' fl ρ' .next s' := fun q => XPost.at he (hp' ▸ q)
    cases pe with
    | lcomp k fr t src it cond elt =>
      refine lcomp_parts (P := fun e => (swapsWith e (some (.Name xn p)) pos.line env = pure false → wpAny (model prog w) A (exec (.Assign [.Name xn p] e pos) env) (XPost prog w base os s.heap μ env H' fl ρ') E s) → wpAny (model prog w) A (exec (.Assign [.Name xn p] e pos) env) (XPost prog w base os s.heap μ env H' fl ρ') E s) gl (chk_ok gl hF _) (chk_ok gl hF _) (chk_ok gl hF _) h (fun eltE target iter ifs scope cpos c hel plain => ?_) plain
      have hw := swapL_eq (l := pos.line) (elt := eltE) (gens := [⟨target, iter, ifs, 0⟩]) (scope := scope) (p := cpos) (t := xn) (pos := p) f.kind
      cases hsw : swapC env.scope.names scope cpos xn p with
      | false => exact plain (hsw ▸ hw)
      | true => exact asg_use (hsw ▸ hw) (evalUse_list (lcomp_run gl hA (Q := fun _ s' => XPost prog w base os s.heap μ env H' fl ρ' .next s') I f rfl c hel e1 fun C D s' c => compPost_mono (comp_store I f hs c) fun _ _ => fin))
    | dcomp k fr t it cond pk pv =>
      refine dcomp_parts (P := fun e => (swapsWith e (some (.Name xn p)) pos.line env = pure false → wpAny (model prog w) A (exec (.Assign [.Name xn p] e pos) env) (XPost prog w base os s.heap μ env H' fl ρ') E s) → wpAny (model prog w) A (exec (.Assign [.Name xn p] e pos) env) (XPost prog w base os s.heap μ env H' fl ρ') E s) gl (chk_ok gl hF _) (chk_ok gl hF _) (chk_ok gl hF _) (chk_ok gl hF _) h (fun kx vx target iter ifs scope cpos c hek hev plain => ?_) plain
      have hw := swapD_eq (l := pos.line) (kx := kx) (vx := vx) (gens := [⟨target, iter, ifs, 0⟩]) (scope := scope) (p := cpos) (t := xn) (pos := p) f.kind
      cases hsw : swapC env.scope.names scope cpos xn p with
      | false => exact plain (hsw ▸ hw)
      | true => exact asg_use (hsw ▸ hw) (evalUse_dict (dcomp_run gl hA (Q := fun _ s' => XPost prog w base os s.heap μ env H' fl ρ' .next s') I f rfl c hek hev e1 fun C D s' c => compPost_mono (comp_store I f hs c) fun _ _ => fin))
    | _ => exact no hk
end
end Mine
/-! Snd24 -/
namespace Mine
open PySem PySem.Calls PyProof.Rows PySem.SeqAt PySem.W

/-! loops of statements as one -/
noncomputable def forG (run : V → Loc → AH → Option (Fl × Loc × AH)) (nx : AH → Nat → Option (Option V)) : Nat → Nat → Loc → AH → Option (Fl × Loc × AH)
  | 0, _, _, _ => none
  | n + 1, i, ρ, H => obn (nx H i) fun o => caO o (some (.next, ρ, H)) fun v => thn (run v ρ H) (forG run nx n (i + 1))
theorem forI_G (run : V → Loc → AH → Option (Fl × Loc × AH)) (items todo : List V) : ∀ (i : Nat) (ρ : Loc) (H : AH), items.drop i = todo → forI run todo ρ H = forG run (nxI items) (todo.length + 1) i ρ H := by
  induction todo with
  | nil =>
    intro i ρ H hd
    have e : items[i]? = none := List.getElem?_eq_none (List.drop_eq_nil_iff.mp hd)
    show some (Fl.next, ρ, H) = caO items[i]? _ _
    rw [e]; rfl
  | cons x todo ih =>
    intro i ρ H hd
    have hx : items[i]? = some x := by
      have : (items.drop i)[0]? = some x := by rw [hd]; rfl
      rw [List.getElem?_drop] at this; exact this
    have hd' : items.drop (i + 1) = todo := by
      have : (items.drop i).drop 1 = todo := by rw [hd]; rfl
      rw [List.drop_drop] at this; exact this
    have e : forI run todo = forG run (nxI items) (todo.length + 1) (i + 1) := funext fun ρ => funext fun H => ih (i + 1) ρ H hd'
    show thn (run x ρ H) (forI run todo) = caO items[i]? _ _
    rw [hx, e]; rfl
theorem forI_G0 (run : V → Loc → AH → Option (Fl × Loc × AH)) (items : List V) (ρ : Loc) (H : AH) : forI run items ρ H = forG run (nxI items) (items.length + 1) 0 ρ H := forI_G run items items 0 ρ H rfl
theorem forL_G (run : V → Loc → AH → Option (Fl × Loc × AH)) (j : Nat) (n : Nat) : ∀ (i : Nat) (ρ : Loc) (H : AH), forL run j n i ρ H = forG run (nxL j) n i ρ H := by
  induction n with
  | zero => exact fun _ _ _ => rfl
  | succ n ih =>
    intro i ρ H
    have e : forL run j n (i + 1) = forG run (nxL j) n (i + 1) := funext fun ρ => funext fun H => ih (i + 1) ρ H
    show obn (lst H j) (fun l => caO l[i]? _ fun v => thn (run v ρ H) (forL run j n (i + 1))) = obn (obn (lst H j) _) _
    rw [e]
    cases lst H j <;> rfl
theorem forG_step {run : V → Loc → AH → Option (Fl × Loc × AH)} {nx : AH → Nat → Option (Option V)} {n i : Nat} {ρ ρ' : Loc} {H H' : AH} {fl : Fl} {P : Prop} (h : forG run nx (n + 1) i ρ H = some (fl, ρ', H')) (k1 : nx H i = some none → some (Fl.next, ρ, H) = some (fl, ρ', H') → P)
    (k2 : ∀ v ρ1 H1, nx H i = some (some v) → run v ρ H = some (.next, ρ1, H1) → forG run nx n (i + 1) ρ1 H1 = some (fl, ρ', H') → P) (k3 : ∀ v u, nx H i = some (some v) → fl = .ret u → run v ρ H = some (.ret u, ρ', H') → P) : P :=
  obn_elim (o := nx H i) h fun o hx h => caO_elim h (fun ho h => k1 (hx.trans (congrArg some ho)) h) fun v ho h => thn_elim h (fun ρ1 H1 hr h => k2 v ρ1 H1 (hx.trans (congrArg some ho)) hr h) fun u hf hr => k3 v u (hx.trans (congrArg some ho)) hf hr

section
variable {prog : Program} {w : World} {base : Heap} {os : OsState} {nm : NT} {G : GTab} {F : Calls} {mg mb : Str → Option Value} {n : Nat} {names : Nms}
variable {A : Around} {E : Value → Shared → Prop} {s s' : Shared} {H H' H1 : AH} {μ μ' : List Addr} {ρ ρ' : Loc} {env : Env} {v a : V} {x y z : Value} {fl : Fl}
noncomputable def FT (prog : Program) (w : World) (A : Around) (target : Expr) (it : Addr) (body : List Stmt) (env : Env) (Q : Flow → Shared → Prop) (E : Value → Shared → Prop) (s : Shared) : Prop :=
  wpAny (model prog w) A (pyNext (.ref it)) (fun r s₁ => ∃ y, r = some y ∧ wpAny (model prog w) A (letOwnedTupleGo target (.ref it) y) (fun _ s₁' => wpAny (model prog w) A (assign target env y) (fun _ s₂ => wpAny (model prog w) A (execs body env) Q E s₂) E s₁') E s₁) E s
theorem forLoop_own {R : Result → Shared → Prop} {target : Expr} {it : Addr} {body : List Stmt} (I : Nat → Shared → Prop)
    (turn : ∀ n s, I n s → wpAny (model prog w) A (pyNext (.ref it)) (fun r s₁ => r = none ∧ R (.ok .next) s₁) (EE prog w A env R) s ∨
      FT prog w A target it body env (fun f s₃ => (f = .next ∧ ∃ m, m < n ∧ I m s₃) ∨ ∃ v, f = .ret v ∧ R (.ok (.ret v)) s₃) (EE prog w A env R) s)
    (n : Nat) (h : I n s) : codeAny (model prog w) A (.forLoop target (.ref it) body [] env) R s := by
  refine codeAny_forLoop_any I (fun n s hI => ?_) n h
  rcases turn n s hI with h | h
  · refine mono h fun r s₁ q => ?_
    rw [q.1]
    exact wpAny_execs_nil q.2
  · refine mono h fun r s₁ q => ?_
    obtain ⟨y, rfl, q⟩ := q
    refine mono q fun _ s₁' q => mono q fun _ s₂ q => mono q fun f s₃ q => ?_
    rcases q with ⟨rfl, q⟩ | ⟨v, rfl, q⟩
    · exact q
    · exact q
/-- up to the body -/
theorem for_turn {target : Expr} {body : List Stmt} {it : Addr} {wl wr : List Addr} {St : Nat → Heap → List Addr → Prop} {nx : AH → Nat → Option (Option V)} (K : ItOk prog w A base os target it wl wr nx St) (hA : Room n A) (hw : ∀ b ∈ wl, b ∈ wr)
    {h₀ : Heap} {μ₀ : List Addr} (wn : ∀ b ∈ wr, h₀.get? b = none) (wb : ∀ b ∈ wr, base.get? b = none) (wo : ∀ b ∈ wr, b ∉ own env) {t : Tgt} (ht : chkT false env.scope.names t target = true)
    {i : Nat} (I : Inv prog w base os s H μ) (X : Ext h₀ s.heap μ₀ μ (own env)) (f : FrameOk base s.heap μ env ρ) (wμ : ∀ b ∈ wr, b ∉ μ) (st : St i s.heap μ) (hx : nx H i = some (some v)) {ρ₁ : Loc} (hp : putV t v ρ = some ρ₁) {Q : Flow → Shared → Prop}
    (k : ∀ s₃ μ₃, Inv prog w base os s₃ H μ₃ → Ext h₀ s₃.heap μ₀ μ₃ (own env) → FrameOk base s₃.heap μ₃ env ρ₁ → (∀ b ∈ wr, b ∉ μ₃) → St (i + 1) s₃.heap μ₃ → wpAny (model prog w) A (execs body env) Q E s₃) : FT prog w A target it body env Q E s := by
  refine K.item i s H μ v _ E I wμ st hx fun y s₂ mv hg2 ho2 st₂ ry => ?_
  have nt := K.nt _ _ _ st
  have I₂ : Inv prog w base os s₂ H μ := I.mvw mv nt wμ wb hg2 ho2
  have f₂ := f.mvw mv nt wo
  refine mono (asg_snd hA.handled f₂ (loc := false) ht hp ry) fun _ s₃ q => ?_
  obtain ⟨s₂', k1, g1, o1, tt⟩ := q
  refine (XPost.store (h := s₂.heap) (Ext.refl _ _ _) I₂ f₂ k1 g1 o1 tt).elim fun μ₃ I₃ X₃ f₃ _ => k s₃ μ₃ I₃ ((X.mvw mv wn).trans X₃) f₃ (fun b hb => ?_) ?_
  · obtain ⟨o, e⟩ := K.live _ _ _ st₂ b (K.sub b hb)
    exact X₃.notin e (wμ b hb)
  · exact K.frame _ _ _ _ _ st₂ (fun b hb o e => X₃.keep b o e (wμ b (hw b hb)) (wo b (hw b hb))) (fun v y r => r.ext X₃ I₂.noTup f₂.noTup) (fun j a e => X₃.get e)
noncomputable def FInv (prog : Program) (w : World) (base : Heap) (os : OsState) (h₀ : Heap) (μ₀ : List Addr) (env : Env) (wr : List Addr) (St : Nat → Heap → List Addr → Prop) (run : V → Loc → AH → Option (Fl × Loc × AH)) (nx : AH → Nat → Option (Option V)) (r : Fl × Loc × AH) (fuel : Nat) (s : Shared) : Prop :=
  ∃ i H μ ρ, Inv prog w base os s H μ ∧ Ext h₀ s.heap μ₀ μ (own env) ∧ FrameOk base s.heap μ env ρ ∧ (∀ b ∈ wr, b ∉ μ) ∧ St i s.heap μ ∧ forG run nx fuel i ρ H = some r
theorem for_loop {target : Expr} {body : List Stmt} {it : Addr} {wl wr : List Addr} {St : Nat → Heap → List Addr → Prop} {nx : AH → Nat → Option (Option V)} (K : ItOk prog w A base os target it wl wr nx St) (hA : Room n A) (hn : env.scope.names = names) (hw : ∀ b ∈ wl, b ∈ wr)
    {h₀ : Heap} {μ₀ : List Addr} (wn : ∀ b ∈ wr, h₀.get? b = none) (wb : ∀ b ∈ wr, base.get? b = none) (wo : ∀ b ∈ wr, b ∉ own env) {t : Tgt} {pb : PSs} (ht : chkT false names t target = true) (hb : ExsOk prog w base os G F n names pb body)
    {R : Result → Shared → Prop} (hR : ∀ f s', XPost prog w base os h₀ μ₀ env H' fl ρ' f s' → R (.ok f) s') (fuel : Nat) (s : Shared) (h : FInv prog w base os h₀ μ₀ env wr St (frun G F t pb) nx (fl, ρ', H') fuel s) : codeAny (model prog w) A (.forLoop target (.ref it) body [] env) R s := by
  refine forLoop_own (FInv prog w base os h₀ μ₀ env wr St (frun G F t pb) nx (fl, ρ', H')) ?_ fuel h
  clear h fuel s
  rintro fuel s ⟨i, H, μ, ρ, I, X, f, wμ, st, hg⟩
  cases fuel with
  | zero => cases hg
  | succ fuel =>
    have ht : chkT false env.scope.names t target = true := hn.symm ▸ ht
    refine forG_step hg (fun hx hg => .inl (mono (K.done i s _ μ (fun s₂ => R (.ok .next) s₂) _ I st hx fun s₂ mv hg2 ho2 => ?_) fun r s₁ q => q))
      (fun v ρ1 H1 hx hr hg => .inr (obn_elim hr fun ρ₁ hp hr => for_turn K hA hw wn wb wo ht I X f wμ st hx hp fun s₃ μ₃ I₃ X₃ f₃ wμ₃ st₃ => mono (hb A env s₃ H μ₃ ρ₁ .next ρ1 H1 _ hA hn I₃ f₃ hr) fun fw s₄ q => q.elim fun μ₄ I₄ X₄ f₄ hf => .inl ⟨hf, ?_⟩))
      fun v u hx hfl hr => .inr (obn_elim hr fun ρ₁ hp hr => for_turn K hA hw wn wb wo ht I X f wμ st hx hp fun s₃ μ₃ I₃ X₃ f₃ wμ₃ st₃ => mono (hb A env s₃ H μ₃ ρ₁ (.ret u) ρ' H' _ hA hn I₃ f₃ hr) fun fw s₄ q => .inr ?_)
    · have nt := K.nt _ _ _ st
      exact hR _ _ (XPost.at hg ⟨μ, I.mvw mv nt wμ wb hg2 ho2, X.mvw mv wn, f.mvw mv nt wo, rfl⟩)
    · refine ⟨fuel, Nat.lt_succ_self _, i + 1, H1, μ₄, ρ1, I₄, X₃.trans X₄, f₄, fun b hb => ?_, ?_, hg⟩
      · obtain ⟨o, e⟩ := K.live _ _ _ st₃ b (K.sub b hb)
        exact X₄.notin e (wμ₃ b hb)
      · exact K.frame _ _ _ _ _ st₃ (fun b hb o e => X₄.keep b o e (wμ₃ b (hw b hb)) (wo b (hw b hb))) (fun v y r => r.ext X₄ I₃.noTup f₃.noTup) (fun j a e => X₄.get e)
    · have q2 := hR _ _ (hfl ▸ q.andThen X₃)
      obtain ⟨μ₄, I₄, X₄, f₄, yy, e, ryy⟩ := q
      exact ⟨yy, e, e ▸ q2⟩
theorem fsrc_open {run : V → Loc → AH → Option (Fl × Loc × AH)} {src : Src} {a : V} {r : Fl × Loc × AH} {P : Prop} (he : fsrc run src a ρ H = some r) (k : ∀ nx fuel, SrcIs H src a nx fuel false → forG run nx fuel 0 ρ H = some r → P) : P := by
  cases src with
  | plain =>
    exact caT_elim (P := fun a => (∀ nx fuel, SrcIs H .plain a nx fuel false → forG run nx fuel 0 ρ H = some r → P) → P) he (fun l he k => k _ _ (.tup l) (forI_G0 .. ▸ he))
      (fun he k => onL_elim (P := fun a => (∀ nx fuel, SrcIs H .plain a nx fuel false → forG run nx fuel 0 ρ H = some r → P) → P) he (fun j l hl he k => k _ _ (.list hl) (forL_G .. ▸ he)) k) k
  | range =>
    exact onInt_elim (P := fun a => (∀ nx fuel, SrcIs H .range a nx fuel false → forG run nx fuel 0 ρ H = some r → P) → P) he (fun N he k => gud_elim he fun hN he => k _ _ (.range hN) (forI_G0 .. ▸ he)) k
  | enum => cases he
theorem ex_for {t : Tgt} {src : Src} {it : PE} {body : PSs} {target iter : Expr} {sts : List Stmt} {pos : Pos} (hset : notSet iter = true) (hit : IterOk prog w base os G F n names src it target iter) (ht : chkT false names t target = true)
    (hb : ExsOk prog w base os G F n names body sts) : ExOk prog w base os G F n names (.for_ t src it body) (.For target iter sts [] pos) := by
  intro A env s H μ ρ fl ρ' H' E hA hn I f he
  refine bnd_elim (f := fun x H1 => fsrc (frun G F t body) src x ρ H1) (o := ev G F it ρ H) he fun a H1 e1 he => fsrc_open he fun nx fuel e2 e3 => ?_
  refine wpAny_For (mono (hit A env s H μ ρ a H1 nx fuel false E hA hn I f e1 e2) fun x s₁ q => mono q fun itv s₂ q => ?_) (folded_eq hset env)
  obtain ⟨_, itA, wl, wr, St, h₁, μ₁, rfl, K, st, I₂, X₁, K₁, wn, wμ, wb, wlm, hwl⟩ := q
  have hw : ∀ b ∈ wl, b ∈ wr := hwl.elim id fun h => no h
  have X₂ : Ext s.heap s₂.heap μ μ₁ [] := X₁.trans (Ext.of_keep K₁ _ _)
  have none0 : ∀ b, h₁.get? b = none → s.heap.get? b = none := fun b hb => by
    cases q : s.heap.get? b with
    | none => rfl
    | some o => obtain ⟨o', e⟩ := X₁.live b o q; rw [hb] at e; cases e
  exact for_loop (h₀ := s.heap) (μ₀ := μ) (fl := fl) (ρ' := ρ') (H' := H') K hA hn hw (fun b hb => none0 b (wn b hb)) wb (fun b hb q => by
    obtain ⟨o, e⟩ := f.live b q
    rw [none0 b (wn b hb)] at e; cases e) ht hb (fun fw s' q => q) fuel s₂ ⟨0, H1, μ₁, ρ, I₂, X₂.own, f.ext X₂ I.noTup, wμ, st, e3⟩

/-! a row of stores: names and items -/
noncomputable def chkPTs (nm : NT) (names : Nms) : PTs → List Expr → Bool
  | .nil, es => es.isEmpty
  | .one i r, es => onC es fun e es => isN e (fun x _ => stOk false names i x) && chkPTs nm names r es
  | .sub a i r, es => onC es fun e es => isSub e (fun x y _ => chk nm a names x && chk nm i names y) && chkPTs nm names r es
theorem caC_some {α γ : Type} {P : List α → Prop} {l : List α} {f : α → List α → Option γ} {r : γ} (h : caC l none f = some r) (k : ∀ a m, f a m = some r → P (a :: m)) : P l := by
  cases l with
  | nil => cases h
  | cons a m => exact k a m h
theorem order_pts (gl : Gl prog w base nm G mg mb) (hF : CallOk prog w base os nm mg n F) (hA : Room n A) (hn : env.scope.names = names) (ts : PTs) : ∀ (es : List Expr) (l : List V) (xs : List Value) (s : Shared) (H : AH) (μ : List Addr) (ρ ρ' : Loc) (H' : AH), chkPTs nm names ts es = true →
    Inv prog w base os s H μ → FrameOk base s.heap μ env ρ → Rels s.heap μ l xs → asgT G F ts l ρ H = some (ρ', H') →
    wpAny (model prog w) A (assignInOrder ((assignEach es env).map (·.2)) xs) (fun _ s' => XPost prog w base os s.heap μ env H' .next ρ' .next s') E s := by
  induction ts with
  | nil =>
    intro es l xs s H μ ρ ρ' H' hc I f rs he
    refine emp (P := fun es => wpAny (model prog w) A (assignInOrder ((assignEach es env).map (·.2)) xs) (fun _ s' => XPost prog w base os s.heap μ env H' .next ρ' .next s') E s) hc (gua_elim he fun hl he => ?_)
    cases l with
    | cons _ _ => cases hl
    | nil => exact rs.nil_inv (P := fun ys => wpAny (model prog w) A (assignInOrder [] ys) (fun _ s' => XPost prog w base os s.heap μ env H' .next ρ' .next s') E s) (wpAny_pure (by cases he; exact ⟨μ, I, Ext.refl _ _ _, f, rfl⟩))
  | one i r ih =>
    intro es l xs s H μ ρ ρ' H' hc I f rs he
    refine caC_some (P := fun l => Rels s.heap μ l xs → wpAny (model prog w) A (assignInOrder ((assignEach es env).map (·.2)) xs) (fun _ s' => XPost prog w base os s.heap μ env H' .next ρ' .next s') E s) he (fun v l he rs => obn_elim he fun ρ1 hp he => ?_) rs
    refine rs.cons_inv (P := fun xs => wpAny (model prog w) A (assignInOrder ((assignEach es env).map (·.2)) xs) (fun _ s' => XPost prog w base os s.heap μ env H' .next ρ' .next s') E s) fun y ys a rs => ?_
    refine onC_elim (P := fun es => wpAny (model prog w) A (assignInOrder ((assignEach es env).map (·.2)) (y :: ys)) (fun _ s' => XPost prog w base os s.heap μ env H' .next ρ' .next s') E s) hc fun e es hc => and2k hc fun h1 h2 => ?_
    refine isN_elim (P := fun e => wpAny (model prog w) A (assignInOrder ((assignEach (e :: es) env).map (·.2)) (y :: ys)) (fun _ s' => XPost prog w base os s.heap μ env H' .next ρ' .next s') E s) h1 fun x p h1 => ?_
    show wpAny _ _ (holding ys (assign (.Name x p) env y) >>= fun _ => assignInOrder ((assignEach es env).map (·.2)) ys) _ _ s
    refine gua_elim hp fun _ hp => ?_
    cases hp
    refine wpAny_bind (wpAny_holding (PySem.wpAny_assign_Name (mono (store_name f (hn ▸ h1) a) fun _ s' t => ?_)))
    exact (XPost.store (Ext.refl _ _ _) I f (fun _ _ e => e) rfl rfl t).elim fun μ₁ I₁ X₁ f₁ _ => mono (ih es l ys s' H μ₁ _ ρ' H' h2 I₁ f₁ (rs.ext X₁ I.noTup f.noTup) he) fun _ s'' q => q.andThen X₁
  | sub pa pi r ih =>
    intro es l xs s H μ ρ ρ' H' hc I f rs he
    refine caC_some (P := fun l => Rels s.heap μ l xs → wpAny (model prog w) A (assignInOrder ((assignEach es env).map (·.2)) xs) (fun _ s' => XPost prog w base os s.heap μ env H' .next ρ' .next s') E s) he (fun v l he rs => bnd_elim he fun va H1 e1 he => bnd_elim he fun vi H2 e2 he => obn_elim he fun H3 e3 he => ?_) rs
    refine rs.cons_inv (P := fun xs => wpAny (model prog w) A (assignInOrder ((assignEach es env).map (·.2)) xs) (fun _ s' => XPost prog w base os s.heap μ env H' .next ρ' .next s') E s) fun y ys a rs => ?_
    refine onC_elim (P := fun es => wpAny (model prog w) A (assignInOrder ((assignEach es env).map (·.2)) (y :: ys)) (fun _ s' => XPost prog w base os s.heap μ env H' .next ρ' .next s') E s) hc fun e es hc => and2k hc fun h1 h2 => ?_
    refine isSub_elim (P := fun e => wpAny (model prog w) A (assignInOrder ((assignEach (e :: es) env).map (·.2)) (y :: ys)) (fun _ s' => XPost prog w base os s.heap μ env H' .next ρ' .next s') E s) h1 fun x yy p h1 => and2k h1 fun h1 h3 => ?_
    show wpAny _ _ (holding ys (assign (.Subscript x yy p) env y) >>= fun _ => assignInOrder ((assignEach es env).map (·.2)) ys) _ _ s
    exact wpAny_bind (wpAny_holding (sub_store (chk_ok gl hF _ _ _ h1).1 (chk_ok gl hF _ _ _ h3).1 hA hn I f e1 e2 e3 a fun s' μ₁ I₁ X₁ f₁ =>
      mono (ih es l ys s' H3 μ₁ _ ρ' H' h2 I₁ f₁ (rs.ext X₁ I.noTup noF) he) fun _ s'' q => q.andThen X₁.own))
/-- a row of places is as long as it is told -/
theorem pts_len (ts : PTs) : ∀ {es : List Expr}, chkPTs nm names ts es = true → (assignEach es env).findIdx? (·.1) = none ∧ (assignEach es env).length = es.length ∧ ∀ {l : List V} {ρ ρ' : Loc} {H H' : AH}, asgT G F ts l ρ H = some (ρ', H') → es.length = l.length := by
  induction ts with
  | nil =>
    intro es hc
    refine emp (P := fun es => (assignEach es env).findIdx? (·.1) = none ∧ (assignEach es env).length = es.length ∧ ∀ {l : List V} {ρ ρ' : Loc} {H H' : AH}, asgT G F .nil l ρ H = some (ρ', H') → es.length = l.length) hc ⟨rfl, rfl, fun {l} {_ _ _ _} he => gua_elim he fun hl _ => (congrArg List.length (List.isEmpty_iff.mp hl)).symm⟩
  | one i r ih =>
    intro es hc
    refine onC_elim (P := fun es => (assignEach es env).findIdx? (·.1) = none ∧ (assignEach es env).length = es.length ∧ ∀ {l : List V} {ρ ρ' : Loc} {H H' : AH}, asgT G F (.one i r) l ρ H = some (ρ', H') → es.length = l.length) hc fun e es hc => and2k hc fun h1 h2 => ?_
    obtain ⟨i1, i2, i3⟩ := ih h2
    refine ⟨isN_elim (P := fun e => (assignEach (e :: es) env).findIdx? (·.1) = none) h1 fun x p _ => ?_, isN_elim (P := fun e => (assignEach (e :: es) env).length = es.length + 1) h1 fun x p _ => ?_, fun {l} {_ _ _ _} he => caC_some (P := fun l => es.length + 1 = l.length) he fun v l he => obn_elim he fun _ _ he => congrArg (· + 1) (i3 he)⟩
    · show List.findIdx? _ ((false, assign (.Name x p) env) :: assignEach es env) = none
      rw [List.findIdx?_cons, i1]; rfl
    · show (assignEach es env).length + 1 = _
      rw [i2]
  | sub a i r ih =>
    intro es hc
    refine onC_elim (P := fun es => (assignEach es env).findIdx? (·.1) = none ∧ (assignEach es env).length = es.length ∧ ∀ {l : List V} {ρ ρ' : Loc} {H H' : AH}, asgT G F (.sub a i r) l ρ H = some (ρ', H') → es.length = l.length) hc fun e es hc => and2k hc fun h1 h2 => ?_
    obtain ⟨i1, i2, i3⟩ := ih h2
    refine ⟨isSub_elim (P := fun e => (assignEach (e :: es) env).findIdx? (·.1) = none) h1 fun x y p _ => ?_, isSub_elim (P := fun e => (assignEach (e :: es) env).length = es.length + 1) h1 fun x y p _ => ?_, fun {l} {_ _ _ _} he => caC_some (P := fun l => es.length + 1 = l.length) he fun v l he => bnd_elim he fun _ _ _ he => bnd_elim he fun _ _ _ he => obn_elim he fun _ _ he => congrArg (· + 1) (i3 he)⟩
    · show List.findIdx? _ ((false, assign (.Subscript x y p) env) :: assignEach es env) = none
      rw [List.findIdx?_cons, i1]; rfl
    · show (assignEach es env).length + 1 = _
      rw [i2]
theorem ex_asgm (gl : Gl prog w base nm G mg mb) (hF : CallOk prog w base os nm mg n F) {ts : PTs} {pe : PE} {es : List Expr} {k : Nat} {p pos : Pos} {e : Expr} (hc : noComp e = true) (ht : chkPTs nm names ts es = true) (hs : ∀ env : Env, env.scope.kind = .function → env.scope.names = names → swappedStores [.Tuple es k p] e env = pure none) (h : EvOk prog w base os G F n names pe e) :
    ExOk prog w base os G F n names (.asgm ts pe) (.Assign [.Tuple es k p] e pos) :=
  fun A env s H μ ρ fl ρ' H' E hA hn I f he => bnd_elim (o := ev G F pe ρ H) (f := fun v H1 => caT v (fun vs => bnd (asgT G F ts vs ρ H1) fun ρ' H2 => some (Fl.next, ρ', H2)) none) he fun v H1 e1 he => asg_any hA hn I f h e1 (swaps_no hc ..) (hs env f.kind hn) fun yv s₁ μ₁ I₁ X₁ r₁ f₁ =>
    ca_tup (P := fun _ yv => wpAny (model prog w) A (assignStores env yv none ((assignEach [.Tuple es k p] env).map (·.2))) (XPost prog w base os s.heap μ env H' fl ρ') E s₁) he r₁ (fun l q' xs m hq rs hlen he => bnd_elim he fun ρ1 H2 e2 he => by
      obtain ⟨e3, e4, e5⟩ := pts_len (G := G) (F := F) (env := env) ts ht
      show wpAny _ _ (assign (.Tuple es k p) env (.ref q') >>= fun _ => (pure Flow.next : Sem Flow)) _ _ _
      refine wpAny_bind (PySem.wpAny_assign_Tuple hA.handled ⟨_, hq, rfl, m, rfl⟩ (by rw [e4, List.size_toArray, rs.length]; exact e5 e2) e3 fun h' hx => ?_)
      have K : Keep s₁.heap h' := fun b o e => hx b o (Nat.ne_of_lt (Heap.lt_size e)) e
      have f' := f₁.mvw (Mv.of_keep (wr := []) K) noF (fun _ q => nomatch q)
      have I' : Inv prog w base os { s₁ with heap := h' } H1 μ₁ := I₁.keep K
      exact mono (order_pts gl hF hA hn ts es l xs { s₁ with heap := h' } H1 μ₁ ρ ρ1 H2 ht I' f' (rs.mvw (Mv.of_keep (wr := []) K) noF) e2) fun _ s₂ q => wpAny_pure (XPost.at he (q.andThen (X₁.own.trans (Ext.of_keep K _ _))))) fun q => by cases q

/-! while -/
theorem ex_while {c : PE} {body : PSs} {test : Expr} {sts : List Stmt} {pos : Pos} (hc : TrOk prog w base os G F n names c test) (hb : ExsOk prog w base os G F n names body sts) : ExOk prog w base os G F n names (.while_ c body) (.While test sts [] pos) := by
  intro A env s₀ H₀ μ₀ ρ₀ fl ρ' H' E hA hn I₀ f₀ he
  refine wpAny_While (codeAny_whileLoop (fun fuel s => ∃ H μ ρ, Inv prog w base os s H μ ∧ Ext s₀.heap s.heap μ₀ μ (own env) ∧ FrameOk base s.heap μ env ρ ∧ whileN (fun ρ H => ev G F c ρ H) (fun ρ H => exs G F body ρ H) fuel ρ H = some (fl, ρ', H')) ?_ 100000 ⟨H₀, μ₀, ρ₀, I₀, Ext.refl _ _ _, f₀, he⟩)
  rintro fuel s ⟨H, μ, ρ, I, X, f, hg⟩
  cases fuel with
  | zero => cases hg
  | succ fuel =>
    refine bnd_elim (o := ev G F c ρ H) hg fun v H1 e1 hg => brn_elim hg (fun hb1 hg => ?_) fun hb0 hg => ?_
    · refine hc.run hA hn I f e1 hb1 fun s₁ μ₁ I₁ X₁ _ _ f₁ => thn_elim (o := exs G F body ρ H1) hg (fun ρ1 H2 e2 hg => ?_) fun u hu e2 => ?_
      · refine mono (hb A env s₁ H1 μ₁ ρ .next ρ1 H2 _ hA hn I₁ f₁ e2) fun fw s₂ q => q.elim fun μ₂ I₂ X₂ f₂ hf => ?_
        cases hf
        exact ⟨fuel, Nat.lt_succ_self _, H2, μ₂, ρ1, I₂, (X.trans X₁.own).trans X₂, f₂, hg⟩
      · subst hu
        refine mono (hb A env s₁ H1 μ₁ ρ (.ret u) ρ' H' _ hA hn I₁ f₁ e2) fun fw s₂ q => ?_
        have q2 := q.andThen (X.trans X₁.own)
        obtain ⟨μ₂, I₂, X₂, f₂, yy, rfl, ryy⟩ := id q
        exact q2
    · refine hc.run hA hn I f e1 hb0 fun s₁ μ₁ I₁ X₁ _ _ f₁ => ?_
      exact wpAny_execs_nil (XPost.at hg ⟨μ₁, I₁, X.trans X₁.own, f₁, rfl⟩)

/-! the checker of statements -/
noncomputable def swp (names : Nms) (is : List Nat) (ts : List Expr) (e : Expr) : Bool := (isTup e fun vs _ _ => (obn (swpT names ts vs) fun r => some (caO r true fun nms => chkNms names is nms && decide is.Nodup)).getD false) || !isTup e fun _ _ _ => true
mutual
noncomputable def chkS (nm : NT) (names : Nms) : PS → Stmt → Bool
  | .stuck, _ => true
  | .asgm pts pe, st => isAsg st fun ts e _ => on1 ts fun target => isTup target fun es _ _ => noComp e && (chkPTs nm names pts es && (((isTup e fun vs _ _ => (obn (swpT names es vs) fun r => some r.isNone).getD false) || !isTup e fun _ _ _ => true) && chk nm pe names e))
  | .asg t pe, st => isAsg st fun ts e _ => on1 ts fun target => (isComp pe && (match t with
      | .one i => isN target fun x _ => stOk false names i x && chk nm pe names e
      | .many _ => false)) || (noComp e && (chk nm pe names e && (match t with
      | .one i => chkT false names (.one i) target
      | .many is => isTup target fun ts _ _ => chkMany false names is ts && swp names is ts e)))
  | .asub a i pe, st => isAsg st fun ts e _ => on1 ts fun target => isSub target fun x y _ => chk nm a names x && (chk nm i names y && chk nm pe names e)
  | .expr pe, st => isEx st fun e _ => noComp e && chk nm pe names e
  | .ret pe, st => isRet st fun o _ => caO o false fun e => chk nm pe names e
  | .ite c a b, st => isIte st fun t xs ys _ => chk nm c names t && (chkSs nm names a xs && chkSs nm names b ys)
  | .for_ t src it body, st => isFor st fun target iter sts els _ => els.isEmpty && (notSet iter && (chkT false names t target && (chkSs nm names body sts && (match src with
      | .plain => chk nm it names iter
      | .range => isCal iter fun f xs kw _ => isN f fun d _ => on1 xs fun e => kw.isEmpty && (decide (d = ("range" : Str)) && (globOk names d && (notStar e && chk nm it names e)))
      | .enum => false))))
  | .while_ c body, st => isWh st fun t sts els _ => els.isEmpty && (chk nm c names t && chkSs nm names body sts)
noncomputable def chkSs (nm : NT) (names : Nms) : PSs → List Stmt → Bool
  | .nil, sts => sts.isEmpty
  | .cons ps pss, sts => onC sts fun st sts => chkS nm names ps st && chkSs nm names pss sts
end
noncomputable abbrev OkS (prog : Program) (w : World) (base : Heap) (os : OsState) (nm : NT) (G : GTab) (F : Calls) (n : Nat) (names : Nms) (ps : PS) : Prop := ∀ st, chkS nm names ps st = true → ExOk prog w base os G F n names ps st
noncomputable abbrev OkSs (prog : Program) (w : World) (base : Heap) (os : OsState) (nm : NT) (G : GTab) (F : Calls) (n : Nat) (names : Nms) (ps : PSs) : Prop := ∀ st, chkSs nm names ps st = true → ExsOk prog w base os G F n names ps st
theorem asg_ok (gl : Gl prog w base nm G mg mb) (hF : CallOk prog w base os nm mg n F) (t : Tgt) (pe : PE) : OkS prog w base os nm G F n names (.asg t pe) := fun st h =>
  isAsg_elim (P := ExOk prog w base os G F n names (.asg t pe)) h fun ts e pos h => on1_elim (P := fun ts => ExOk prog w base os G F n names (.asg t pe) (.Assign ts e pos)) h fun target h => or2 h
    (fun h => and2k h fun hc h => by
      cases t with
      | one i => exact isN_elim (P := fun target => ExOk prog w base os G F n names (.asg (.one i) pe) (.Assign [target] e pos)) h fun x p h => and2k h fun h1 h2 => ex_asgC gl hF hc h1 h2
      | many is => exact no h)
    fun h => and2k h fun hc h => and2k h fun h1 h => by
      have he := (chk_ok gl hF _ _ _ h1).1
      cases t with
      | one i => exact ex_asg1 hc h he
      | many is =>
        refine isTup_elim (P := fun target => ExOk prog w base os G F n names (.asg (.many is) pe) (.Assign [target] e pos)) h fun ts k p h => and2k h fun h2 h => or2 h (fun h => ?_) fun h => ex_asgT hc h2 (fun env _ _ => swapped_tup (not2 h) ..) he
        refine isTup_elim (P := fun e => noComp e = true → EvOk prog w base os G F n names pe e → ExOk prog w base os G F n names (.asg (.many is) pe) (.Assign [.Tuple ts k p] e pos)) h (fun vs k' p' h hc he => obd_elim h fun r hr h => caO_elim h (fun hn _ => ?_) fun nms hn h => and2k h fun h3 h4 => ?_) hc he
        · exact ex_asgT hc h2 (fun env hk hnm => swpT_ok hk (hnm ▸ hn ▸ hr)) he
        · exact ex_asgW hc (fun env hk hnm => swpT_ok hk (hnm ▸ hn ▸ hr)) h3 (of_decide_eq_true h4) he
theorem chkS_ok (gl : Gl prog w base nm G mg mb) (hF : CallOk prog w base os nm mg n F) (pss : PSs) : OkSs prog w base os nm G F n names pss :=
  PSs.rec (motive_1 := OkS prog w base os nm G F n names) (motive_2 := OkSs prog w base os nm G F n names)
    (fun st _ A env s H μ ρ fl ρ' H' E hA hn I f he => nomatch he)
    (fun t pe => asg_ok gl hF t pe)
    (fun pts pe st h => isAsg_elim (P := ExOk prog w base os G F n names (.asgm pts pe)) h fun ts e pos h => on1_elim (P := fun ts => ExOk prog w base os G F n names (.asgm pts pe) (.Assign ts e pos)) h fun target h => isTup_elim (P := fun target => ExOk prog w base os G F n names (.asgm pts pe) (.Assign [target] e pos)) h fun es k p h =>
      and2k h fun hc h => and2k h fun ht h => and2k h fun h h4 => or2 h (fun h => isTup_elim (P := fun e => noComp e = true → EvOk prog w base os G F n names pe e → ExOk prog w base os G F n names (.asgm pts pe) (.Assign [.Tuple es k p] e pos)) h (fun vs k' p' h hc he => obd_elim h fun r hr h => ex_asgm gl hF hc ht (fun env hk hnm => swpT_ok hk (hnm ▸ Option.isNone_iff_eq_none.mp h ▸ hr)) he) hc (chk_ok gl hF _ _ _ h4).1)
        fun h => ex_asgm gl hF hc ht (fun env _ _ => swapped_tup (not2 h) ..) (chk_ok gl hF _ _ _ h4).1)
    (fun a i pe st h => isAsg_elim (P := ExOk prog w base os G F n names (.asub a i pe)) h fun ts e pos h => on1_elim (P := fun ts => ExOk prog w base os G F n names (.asub a i pe) (.Assign ts e pos)) h fun target h => isSub_elim (P := fun target => ExOk prog w base os G F n names (.asub a i pe) (.Assign [target] e pos)) h fun x y p h =>
      and2k h fun h1 h => and2k h fun h2 h3 => ex_asub (chk_ok gl hF _ _ _ h1).1 (chk_ok gl hF _ _ _ h2).1 (chk_ok gl hF _ _ _ h3).1)
    (fun pe st h => isEx_elim (P := ExOk prog w base os G F n names (.expr pe)) h fun e pos h => and2k h fun h1 h2 => ex_expr h1 (chk_ok gl hF _ _ _ h2).1)
    (fun pe st h => isRet_elim (P := ExOk prog w base os G F n names (.ret pe)) h fun o pos h => by
      cases o with
      | none => exact no h
      | some e => exact ex_ret (chk_ok gl hF _ _ _ h).1)
    (fun c a b iha ihb st h => isIte_elim (P := ExOk prog w base os G F n names (.ite c a b)) h fun t xs ys pos h => and2k h fun h1 h => and2k h fun h2 h3 => ex_ite (chk_ok gl hF _ _ _ h1).2.1 (iha _ h2) (ihb _ h3))
    (fun t src it body ih st h => isFor_elim (P := ExOk prog w base os G F n names (.for_ t src it body)) h fun target iter sts els pos h => and2k h fun h0 h => and2k h fun h1 h => and2k h fun h2 h => and2k h fun h3 h4 =>
      emp (P := fun els => ExOk prog w base os G F n names (.for_ t src it body) (.For target iter sts els pos)) h0 (ex_for h1 (by
        cases src with
        | plain => exact iter_plain gl (chk_ok gl hF it _ _ h4).1
        | range =>
          refine isCal_elim (P := fun iter => IterOk prog w base os G F n names .range it target iter) h4 fun f xs kw p h => isN_elim (P := fun f => IterOk prog w base os G F n names .range it target (.Call f xs kw p)) h fun d q h => on1_elim (P := fun xs => IterOk prog w base os G F n names .range it target (.Call (.Name d q) xs kw p)) h fun e h =>
            and2k h fun hk h => dec2k h fun hd h => and2k h fun u2 h => and2k h fun u3 u5 => emp (P := fun kw => IterOk prog w base os G F n names .range it target (.Call (.Name d q) [e] kw p)) hk ?_
          subst hd
          exact iter_range gl (chk_ok gl hF it _ _ u5).1 u3 u2
        | enum => exact no h4) h2 (ih _ h3)))
    (fun c body ih st h => isWh_elim (P := ExOk prog w base os G F n names (.while_ c body)) h fun t sts els pos h => and2k h fun h0 h => and2k h fun h1 h2 =>
      emp (P := fun els => ExOk prog w base os G F n names (.while_ c body) (.While t sts els pos)) h0 (ex_while (chk_ok gl hF _ _ _ h1).2.1 (ih _ h2)))
    (fun st h => emp (P := ExsOk prog w base os G F n names .nil) h exs_nil)
    (fun ps pss ih ihs st h => onC_elim (P := ExsOk prog w base os G F n names (.cons ps pss)) h fun st sts h => and2k h fun h1 h2 => exs_cons (ih _ h1) (ihs _ h2))
    pss
end
end Mine
/-! Bnd -/
namespace Mine
open PySem PySem.Calls PyProof.Rows PySem.SeqAt PySem.W
theorem zip_lookup (xs : List Str) : ∀ {vs : List Value} {k : Nat} {x : Str} {v : Value}, xs.Nodup → xs[k]? = some x → vs[k]? = some v → (xs.zip vs).lookup x = some v := by
  induction xs with
  | nil => intro vs k x v _ h; cases h
  | cons y xs ih =>
    intro vs k x v hn h1 h2
    cases vs with
    | nil => cases h2
    | cons u vs =>
      rw [List.zip_cons_cons, List.lookup_cons]
      cases k with
      | zero =>
        cases h1
        cases h2
        rw [beq_self_eq_true]
      | succ k =>
        rw [beq_eq_false_iff_ne.mpr fun q : x = y => (List.nodup_cons.mp hn).1 (q ▸ List.mem_of_getElem? (show xs[k]? = some x from h1))]
        exact ih (List.nodup_cons.mp hn).2 h1 h2
theorem zip_filterMap {xs : List Str} {vs : List Value} (hn : xs.Nodup) (hl : vs.length = xs.length) : xs.filterMap (fun n => ((xs.zip vs).lookup n).map (n, ·)) = xs.zip vs := by
  have key : ∀ (ys : List Str) (us : List Value) (f : Str → Option Value), ys.length = us.length → (∀ (k : Nat) (x : Str) (v : Value), ys[k]? = some x → us[k]? = some v → f x = some v) → ys.filterMap (fun n => (f n).map (n, ·)) = ys.zip us := by
    intro ys
    induction ys with
    | nil => intro us f _ _; rfl
    | cons y ys ih =>
      intro us f hl hf
      cases us with
      | nil => cases hl
      | cons u us =>
        have h0 := hf 0 y u rfl rfl
        rw [List.filterMap_cons, h0]
        simp only [Option.map_some, List.zip_cons_cons]
        rw [ih us f (by simpa using hl) (fun k x v h1 h2 => hf (k + 1) x v (by simpa using h1) (by simpa using h2))]
  exact key xs vs _ hl.symm fun k x v h1 h2 => zip_lookup _ hn h1 h2
theorem bind_plain {fd : FuncData} {vals : List Value} {xs : List Str} (h1 : fd.params.posonlyargs = []) (h2 : fd.params.args.map (·.arg) = xs) (h3 : fd.params.vararg = none) (h4 : fd.params.kwonlyargs = []) (h5 : fd.params.kwarg = none) (hd : fd.defaults = .none)
    (hn : xs.Nodup) (hl : vals.length = xs.length) : bindArgs fd ⟨vals, []⟩ = pure (xs.zip vals) := by
  have hs : seqItems? .none = pure none := rfl
  have hmiss : (xs.filter fun n => ((xs.zip vals).lookup n).isNone) = [] := by
    rw [List.filter_eq_nil_iff]
    intro x hx
    obtain ⟨k, hk⟩ := List.mem_iff_getElem?.mp hx
    have hkl := lt_of_some hk
    rw [zip_lookup _ hn hk (List.getElem?_eq_getElem (by omega))]
    simp
  unfold bindArgs
  simp only [h1, h2, h3, h4, h5, hd, hs, List.map_nil, List.nil_append, List.append_nil, List.forIn_nil, pure_bind, Option.getD_none, Array.toList_empty, List.length_nil, List.drop_nil, List.zip_nil_right, Nat.sub_zero, List.take_length, hmiss, List.isEmpty_nil, Bool.not_true, Bool.false_eq_true, if_false, zip_filterMap hn hl, Option.isNone_none, Bool.and_true, hl, Nat.lt_irrefl, decide_false, gt_iff_lt]
  first | rfl | skip
end Mine
/-! Snd26 -/
namespace Mine
open PySem PySem.Calls PyProof.Rows PySem.SeqAt PySem.W

theorem cf_keys (names : Nms) : ∀ (n : Nat) (acc : List (Str × Addr)), (cellsFrom n names acc).map (·.1) = ((names.filter (fun p => p.2 == .cell)).map (·.1)).reverse ++ acc.map (·.1) := by
  induction names with
  | nil => exact fun _ _ => rfl
  | cons p r ih =>
    intro n acc
    obtain ⟨x, k⟩ := p
    unfold cellsFrom
    split
    · rename_i h
      rw [ih (n + 1)]
      simp [List.filter_cons, h]
    · rename_i h
      rw [ih n]
      simp [List.filter_cons, h]
theorem nodup_key {l : List (Str × Addr)} (hn : (l.map (·.1)).Nodup) {x : Str} {c d : Addr} (h1 : (x, c) ∈ l) (h2 : (x, d) ∈ l) : c = d := by
  induction l with
  | nil => cases h1
  | cons p l ih =>
    have hn' := List.nodup_cons.mp hn
    rcases List.mem_cons.mp h1 with q1 | q1 <;> rcases List.mem_cons.mp h2 with q2 | q2
    · rw [← q1] at q2; cases q2; rfl
    · exact absurd (List.mem_map.mpr ⟨(x, d), q2, by rw [← q1]⟩ : p.1 ∈ l.map (·.1)) hn'.1
    · exact absurd (List.mem_map.mpr ⟨(x, c), q1, by rw [← q2]⟩ : p.1 ∈ l.map (·.1)) hn'.1
    · exact ih hn'.2 q1 q2
theorem cf_there {names : Nms} {n : Nat} {x : Str} (h : (x, NameKind.cell) ∈ names) : ∃ c, (cellsFrom n names []).lookup x = some c := by
  have : x ∈ (cellsFrom n names []).map (·.1) := by
    rw [cf_keys]
    simp
    exact h
  obtain ⟨⟨y, c⟩, hm, rfl⟩ := List.mem_map.mp this
  exact lookup_of_mem hm
theorem cf_nodup {names : Nms} (hn : (names.map (·.1)).Nodup) (n : Nat) : ((cellsFrom n names []).map (·.1)).Nodup := by
  rw [cf_keys, List.map_nil, List.append_nil]
  refine (List.reverse_perm _).nodup_iff.mpr ?_
  exact hn.sublist (List.filter_sublist.map _)
theorem bindL_keep {kof : Str → Option NameKind} {y : Str} (xs : List Str) : ∀ (vs : List Value) (m : Str → Option Value), y ∉ xs → bindL kof (xs.zip vs) m y = m y := by
  induction xs with
  | nil => exact fun _ _ _ => rfl
  | cons z xs ih =>
    intro vs m hz
    cases vs with
    | nil => rfl
    | cons w vs =>
      rw [List.zip_cons_cons, bindL, ih vs _ (fun q => hz (.tail _ q))]
      split
      · exact if_neg fun q : y = z => hz (q ▸ .head _)
      · rfl
theorem bindC_keep {kof : Str → Option NameKind} {y : Str} (xs : List Str) : ∀ (vs : List Value) (m : Str → Option Value), y ∉ xs → bindC kof (xs.zip vs) m y = m y := by
  induction xs with
  | nil => exact fun _ _ _ => rfl
  | cons z xs ih =>
    intro vs m hz
    cases vs with
    | nil => rfl
    | cons w vs =>
      rw [List.zip_cons_cons, bindC, ih vs _ (fun q => hz (.tail _ q))]
      split
      · rfl
      · exact if_neg fun q : y = z => hz (q ▸ .head _)
theorem bindL_get {kof : Str → Option NameKind} (xs : List Str) : ∀ {vs : List Value} {m : Str → Option Value} {k : Nat} {x : Str} {v : Value}, xs.Nodup → kof x = some .local → xs[k]? = some x → vs[k]? = some v → bindL kof (xs.zip vs) m x = some v := by
  induction xs with
  | nil => intro vs m k x v _ _ h; cases h
  | cons y xs ih =>
    intro vs m k x v hn hk h1 h2
    cases vs with
    | nil => cases h2
    | cons u vs =>
      rw [List.zip_cons_cons, bindL]
      cases k with
      | zero =>
        cases h1
        cases h2
        rw [if_pos hk, bindL_keep xs vs _ (List.nodup_cons.mp hn).1]
        exact if_pos rfl
      | succ k => exact ih (List.nodup_cons.mp hn).2 hk h1 h2
theorem bindC_get {kof : Str → Option NameKind} (xs : List Str) : ∀ {vs : List Value} {m : Str → Option Value} {k : Nat} {x : Str} {v : Value}, xs.Nodup → kof x ≠ some .local → xs[k]? = some x → vs[k]? = some v → bindC kof (xs.zip vs) m x = some v := by
  induction xs with
  | nil => intro vs m k x v _ _ h; cases h
  | cons y xs ih =>
    intro vs m k x v hn hk h1 h2
    cases vs with
    | nil => cases h2
    | cons u vs =>
      rw [List.zip_cons_cons, bindC]
      cases k with
      | zero =>
        cases h1
        cases h2
        rw [if_neg hk, bindC_keep xs vs _ (List.nodup_cons.mp hn).1]
        exact if_pos rfl
      | succ k => exact ih (List.nodup_cons.mp hn).2 hk h1 h2

/-- what a def's compact form must be -/
noncomputable def chkF (nm : NT) (scope : Scope) (fn : Fn) (body : List Stmt) (xs : List Str) : Bool :=
  chkSs nm scope.names fn.body body && (decide ((scope.names.map (·.1)).Nodup) && (decide (fn.size = scope.names.length) && (chkNms scope.names fn.args xs && (decide fn.args.Nodup && (decide xs.Nodup &&
  scope.names.all (fun p => !(p.2 == .free) && (!(p.2 == .cell) || decide (scope.names.lookup p.1 = some .cell))))))))
structure DefAt (nm : NT) (base : Heap) (mg : Str → Option Value) (x : Str) (fn : Fn) (a : Addr) (o : Obj) (fd : FuncData) (body : List Stmt) (xs : List Str) : Prop where
  here : mg x = some (.ref a)
  obj : base.get? a = some o
  isF : o.data = .func fd
  code : base.CodeRec fd.code fd.qualname
  bd : fd.body = .stmts body
  ok : chkF nm fd.scope fn body xs = true
  po : fd.params.posonlyargs = []
  ar : fd.params.args.map (·.arg) = xs
  va : fd.params.vararg = none
  ko : fd.params.kwonlyargs = []
  kw : fd.params.kwarg = none
  df : fd.defaults = .none
  cl : fd.closure = []
  gs : fd.globals = mainGlobals
  bs : fd.builtins = builtinsNs
  kd : fd.scope.kind = .function
  co : fd.scope.isCoroutine = false
  ge : fd.scope.isGenerator = false
noncomputable def DefFacts (nm : NT) (base : Heap) (mg : Str → Option Value) (x : Str) (fn : Fn) : Prop := ∃ a o fd body xs, DefAt nm base mg x fn a o fd body xs
theorem bindA_set (fn : Fn) (vs : List V) : bindA fn vs = setAll fn.args vs (List.replicate fn.size none) := rfl
theorem setAll_inv {is : List Nat} : ∀ {l : List V} {ρ : Loc} {i : Nat} {v : V}, is.Nodup → (setAll is l ρ)[i]? = some (some v) → ρ[i]? = some (some v) ∨ ∃ k : Nat, is[k]? = some i ∧ l[k]? = some v := by
  induction is with
  | nil => intro l ρ i v _ h; exact .inl h
  | cons j is ih =>
    intro l ρ i v hn h
    cases l with
    | nil => exact .inl h
    | cons u l =>
      rcases ih (List.nodup_cons.mp hn).2 (show (setAll is l (ρ.set j (some u)))[i]? = some (some v) from h) with h | ⟨k, h1, h2⟩
      · rcases set_get h with ⟨rfl, rfl⟩ | ⟨_, h⟩
        · exact .inr ⟨0, rfl, rfl⟩
        · exact .inl h
      · exact .inr ⟨k + 1, by simpa using h1, by simpa using h2⟩

section
variable {prog : Program} {w : World} {base : Heap} {os : OsState} {nm : NT} {G : GTab} {D : Nat → Option Fn} {mg mb : Str → Option Value} {n : Nat}
theorem call_zero : CallOk prog w base os nm mg 0 (callN G D 0) := by
  intro A hA i x a hx hm s H μ vs xs v H' I rs he E
  cases he
theorem call_step (gl : Gl prog w base nm G mg mb) (hlim : base.NoLimit) (hD : ∀ i x fn, nm.fns[i]? = some x → D i = some fn → DefFacts nm base mg x fn) (hn : CallOk prog w base os nm mg n (callN G D n)) : CallOk prog w base os nm mg (n + 1) (callN G D (n + 1)) := by
  intro A hA i x a hx hm s H μ vs xs v H' I rs he E
  refine obn_elim (o := D i) he fun fn hfn he => gud_elim he fun hl he => ?_
  obtain ⟨a', o, fd, body, ps, g⟩ := hD i x fn hx hfn
  cases hm.symm.trans g.here
  refine and2k g.ok fun c1 g6 => dec2k g6 fun c2 g6 => dec2k g6 fun c3 g6 => and2k g6 fun c4 g6 => dec2k g6 fun c5 g6 => dec2k g6 fun c6 c7 => ?_
  have hal := chkNms_len _ c4
  have hvl : xs.length = ps.length := by rw [rs.length, hl, hal]
  -- a name among the arguments
  have argk : ∀ (k : Nat) (y : Str), ps[k]? = some y → ∃ (j : Nat) (kd : NameKind), fn.args[k]? = some j ∧ fd.scope.names[j]? = some (y, kd) ∧ fd.scope.names.lookup y = some kd ∧ (kd = .local ∨ kd = .cell) := by
    intro k y hy
    have hk := lt_of_some hy
    have hj : fn.args[k]? = some fn.args[k] := List.getElem?_eq_getElem (by omega)
    have hs := chkNms_get _ c4 hj hy
    refine obd_elim hs fun p hz hs => dec2k hs fun hx hs => dec2k hs fun h1 h2 => ?_
    obtain ⟨z, kd⟩ := p
    have hx : y = z := hx
    subst hx
    exact ⟨_, kd, hj, hz, h1, or2 h2 (fun h => .inl (of_decide_eq_true h)) fun h => .inr (of_decide_eq_true (and2 h).2)⟩
  refine wpAny_call (codeAny_call_cells (fd := fd) (binds := ps.zip xs) (by have := hA.depth; omega) (I.old _ _ g.obj) g.isF (hlim.keeps I.old) (g.code.keeps I.old) g.bd (bind_plain g.po g.ar g.va g.ko g.kw g.df c6 hvl) g.cl ?_ ?_ g.co g.ge g.kd)
  · intro b hb
    obtain ⟨k, hk⟩ := List.mem_iff_getElem?.mp hb
    rw [List.getElem?_zip_eq_some] at hk
    obtain ⟨j, kd, h1, h2, h3, h4⟩ := argk k b.1 hk.1
    rcases h4 with rfl | rfl
    · exact .inl h3
    · right
      obtain ⟨c, hc⟩ := cf_there (n := s.heap.objs.size + 1) (List.mem_of_getElem? h2)
      exact ⟨h3, by rw [hc]; rfl⟩
  · intro s₁ ic
    have K : Keep s.heap s₁.heap := ic.toInCall.keep
    obtain ⟨h', tk, hs₁⟩ := ic.toInCall.same
    have hg1 : s₁.gens = s.gens := by rw [hs₁]
    have ho1 : s₁.os = s.os := by rw [hs₁]
    have I₁ : Inv prog w base os s₁ H μ := I.keep K hg1 ho1
    have hLn : s.heap.get? s.heap.objs.size = none := get?_size _
    have newC : ∀ c, s.heap.objs.size < c → s.heap.get? c = none := fun c hc => Heap.get?_none_of_le (Nat.le_of_lt hc)
    have kof : ∀ y, (callEnvC fd s.heap.objs.size a).kindOf y = fd.scope.names.lookup y := fun _ => rfl
    have rs₁ : Rels s₁.heap μ vs xs := rs.mvw (Mv.of_keep (wr := []) K) noF
    -- the value of a slot
    have slot : ∀ (j : Nat) (u : V), (bindA fn vs)[j]? = some (some u) → ∃ (k : Nat) (y : Str), fn.args[k]? = some j ∧ vs[k]? = some u ∧ ps[k]? = some y := by
      intro j u hu
      rw [bindA_set] at hu
      rcases setAll_inv c5 hu with h | ⟨k, h1, h2⟩
      · rw [List.getElem?_replicate] at h
        split at h <;> simp at h
      · have hk := lt_of_some h1
        exact ⟨k, _, h1, h2, List.getElem?_eq_getElem (by omega)⟩
    have f₁ : FrameOk base s₁.heap μ (callEnvC fd s.heap.objs.size a) (bindA fn vs) := by
      refine ⟨g.kd, g.gs, g.bs, ?_, c2, ⟨_, ic.toInCall.ns, fun j y u h1 h2 => ?_⟩, fun j y kd h1 h2 => ?_, ic.apart, fun y c hc => ?_, ?_⟩
      · rw [bindA_set, setAll_len, List.length_replicate]; exact c3
      · obtain ⟨k, y', e1, e2, e3⟩ := slot j u h2
        obtain ⟨j', kd, e4, e5, e6, e7⟩ := argk k y' e3
        rw [e1] at e4; cases e4
        have h1' : fd.scope.names[j]? = some (y, .local) := h1
        rw [h1'] at e5; cases e5
        obtain ⟨z, hz, rz⟩ := rs₁.get e2
        exact ⟨z, bindL_get _ c6 e6 e3 hz, rz⟩
      · have h1' : fd.scope.names[j]? = some (y, kd) := h1
        have hmem := List.mem_of_getElem? h1'
        have hall := List.all_eq_true.mp c7 _ hmem
        have hall := and2 hall
        have hkd : kd = .cell := by
          rcases h2 with h2 | h2
          · exact h2
          · subst h2; exact no hall.1
        subst hkd
        have hlk : fd.scope.names.lookup y = some .cell := or2 hall.2 no of_decide_eq_true
        obtain ⟨c, hc⟩ := cf_there (n := s.heap.objs.size + 1) hmem
        refine ⟨c, _, hc, ic.cell y c hc, fun u hu => ?_⟩
        obtain ⟨k, y', e1, e2, e3⟩ := slot j u hu
        obtain ⟨j', kd', e4, e5, e6, e7⟩ := argk k y' e3
        rw [e1] at e4; cases e4
        rw [h1'] at e5; cases e5
        obtain ⟨z, hz, rz⟩ := rs₁.get e2
        exact ⟨z, bindC_get _ c6 (by rw [kof, hlk]; decide) e3 hz, rz⟩
      · have hab := ic.above y c hc
        have hcn : s.heap.get? c = none := newC c hab
        obtain ⟨d, hd⟩ := lookup_of_mem hc
        have : d = c := nodup_key (cf_nodup c2 _) (mem_of_lookup hd) hc
        subst this
        refine ⟨Nat.ne_of_gt hab, fun q => ?_, I.baseNone hcn, _, ic.cell y d hd⟩
        obtain ⟨o, e⟩ := I.live q
        rw [hcn] at e; cases e
      · refine ⟨fun q => ?_, I.baseNone hLn⟩
        obtain ⟨o, e⟩ := I.live q
        have e' : s.heap.get? s.heap.objs.size = some o := e
        rw [hLn] at e'; cases e'
    have hA' : Room n (A.deeper (callEnvC fd s.heap.objs.size a)) := ⟨hA.handled, by have := hA.depth; show A.depth + 1 + n < _; omega, by have := hA.units; show A.units + 3 + 300 + 60 * n < _; omega⟩
    have newOwn : ∀ b ∈ own (callEnvC fd s.heap.objs.size a), s.heap.get? b = none := by
      intro b hb
      rcases List.mem_cons.mp hb with rfl | hb
      · exact hLn
      · obtain ⟨⟨y, c⟩, hm, rfl⟩ := List.mem_map.mp hb
        exact newC _ (ic.above y c hm)
    have X₁ : Ext s.heap s₁.heap μ μ (own (callEnvC fd s.heap.objs.size a)) := Ext.of_keep K _ _
    refine obn_elim (o := exs G (callN G D n) fn.body (bindA fn vs) H) he fun p hex he => ?_
    obtain ⟨fl, ρ2, H2⟩ := p
    refine mono (chkS_ok gl hn fn.body body c1 _ _ s₁ H μ (bindA fn vs) fl ρ2 H2 _ hA' rfl I₁ f₁ hex) fun fw s₂ q => ?_
    obtain ⟨μ₂, I₂, X₂, f₂, hfl⟩ := q
    cases fl with
    | next =>
      cases hfl
      exact Post.at he ⟨μ₂, I₂, (X₁.trans X₂).drop newOwn, .none, fun q => nomatch q⟩
    | ret u =>
      obtain ⟨y, rfl, ry⟩ := hfl
      exact Post.at he ⟨μ₂, I₂, (X₁.trans X₂).drop newOwn, ry, fun q => nomatch q⟩
theorem call_all (gl : Gl prog w base nm G mg mb) (hlim : base.NoLimit) (hD : ∀ i x fn, nm.fns[i]? = some x → D i = some fn → DefFacts nm base mg x fn) (n : Nat) : CallOk prog w base os nm mg n (callN G D n) := by
  induction n with
  | zero => exact call_zero
  | succ n ih => exact call_step gl hlim hD ih
end
end Mine
/-! Ent1 -/
namespace Mine
open PySem PySem.Calls PyProof.Rows PySem.SeqAt PySem.W

/-- from the interpreter to the model: one call of the law -/
theorem law_call {prog : Program} {w : World} {nm : NT} {G : GTab} {D : Nat → Option Fn} {mg mb : Str → Option Value} {N : Nat} {s₁ : Shared} {A : Around} (hA : Room N A) (gl : Gl prog w s₁.heap nm G mg mb) (hlim : s₁.heap.NoLimit)
    (hD : ∀ i x fn, nm.fns[i]? = some x → D i = some fn → DefFacts nm s₁.heap mg x fn) {i : Nat} {x : Str} {a l : Addr} (hx : nm.fns[i]? = some x) (hm : mg x = some (.ref a)) {vs : List Value} {ns : List Int} (hl : s₁.heap.IsList l vs.toArray) (hI : IntsAre vs ns) (h63 : ns.length ≤ 1000)
    (hg : s₁.gens = #[]) {v : V} {H' : AH} (hrun : callN G D N i [.ref 0] [.fz (ns.map .int)] = some (v, H')) (E : Value → Shared → Prop) :
    wpAny (model prog w) A (call (.ref a) [.ref l]) (fun y s' => (∃ μ', Rel s'.heap μ' v y) ∧ (∀ b o, s₁.heap.get? b = some o → s'.heap.get? b = some o) ∧ s'.os = s₁.os ∧ s'.gens = #[]) E s₁ := by
  have hlo : lineN = 1048576 := by decide
  have rs : Rels s₁.heap [l] (ns.map .int) vs := rels_ints hI
  have I : Inv prog w s₁.heap s₁.os s₁ [.fz (ns.map .int)] [l] := by
    refine ⟨rfl, by simp, fun j b m h1 h2 => ?_, fun _ _ e => e, fun j b m h1 h2 hf => ?_, hg, rfl, gl.sys⟩
    · cases j with
      | zero =>
        simp at h1 h2
        subst h1; subst h2
        exact .fz hl rs (by simp; omega)
      | succ j => simp at h1
    · cases j with
      | zero => simp at h2; subst h2; cases hf
      | succ j => simp at h1
  refine mono (call_all gl hlim hD N A hA i x a hx hm s₁ _ [l] [.ref 0] [.ref l] v H' I (.cons (.ref rfl) .nil) hrun E) fun y s' p => ?_
  obtain ⟨μ', I', X', r', _⟩ := p
  exact ⟨⟨μ', r'⟩, I'.old, I'.os, I'.gens⟩
theorem room_caller {N : Nat} (h : N ≤ 100) : Room N callerA :=
  ⟨rfl, by show 1 + claimMargin + N < recursionLimit; have : claimMargin = 300 := by decide
           have h2 : recursionLimit = 1000 := rfl
           omega, by show 4 + 300 + 60 * N < cLine; have : cLine = 9900 := by decide
                     omega⟩
end Mine
/-! Ent2 -/
namespace Mine
open PySem PySem.Calls PyProof.Rows PySem.SeqAt PySem.W

noncomputable def consts0 : List (Str × V) := [("SET", .int 1), ("SEQUENCE", .int 2), ("MOST_IN_SEGMENT", .int 255), ("WIRE_BITS", .int 32), ("ON", .int 0), ("ACCEPTED", .int 1), ("REJECTED", .int 2), ("NEXT", .int 3)]
/-- a def of the text against its compact form -/
noncomputable def chkDef (nm : NT) (fn : Fn) (d : DefRec) : Bool :=
  chkF nm d.scope fn d.body (d.params.args.map (·.arg)) && d.params.posonlyargs.isEmpty && d.params.vararg.isNone && d.params.kwonlyargs.isEmpty && d.params.kwarg.isNone && decide (d.scope.kind = .function) && !d.scope.isCoroutine && !d.scope.isGenerator
noncomputable def findDef (p : Program) (x : Str) : Option DefRec := (recsOf p).find? fun d => d.name == x
section
variable {prog : Program} {w : World} {p : Program} {loose : List Str} {mean : ExcName → Option Value} {mg mb : Str → Option Value} {h : Heap} {nm : NT}
theorem def_facts (T : Top p loose mean mg mb h) {x : Str} {d : DefRec} (hd : findDef p x = some d) {fn : Fn} (hc : chkDef nm fn d = true) : DefFacts nm h mg x fn := by
  have hx : d.name = x := by simpa using List.find?_some hd
  obtain ⟨a, o, pm, code, doc, h1, h2, h3, h4⟩ := T.fn d (List.mem_of_find?_eq_some hd)
  simp only [chkDef, Bool.and_eq_true, List.isEmpty_iff, Option.isNone_iff_eq_none, decide_eq_true_eq, Bool.not_eq_true'] at hc
  obtain ⟨⟨⟨⟨⟨⟨⟨c1, c2⟩, c3⟩, c4⟩, c5⟩, c6⟩, c7⟩, c8⟩ := hc
  exact ⟨a, o, _, d.body, d.params.args.map (·.arg), hx ▸ h1, h2, h3, h4, rfl, c1, c2, rfl, c3, c4, c5, rfl, rfl, rfl, rfl, c6, c7, c8⟩
theorem fn_facts (T : Top p loose mean mg mb h) {x : Str} (hd : (findDef p x).isSome = true) : ∃ a o fd, mg x = some (.ref a) ∧ h.get? a = some o ∧ o.data = .func fd := by
  obtain ⟨d, hd⟩ := Option.isSome_iff_exists.mp hd
  have hx : d.name = x := by simpa using List.find?_some hd
  obtain ⟨a, o, pm, code, doc, h1, h2, h3, h4⟩ := T.fn d (List.mem_of_find?_eq_some hd)
  exact ⟨a, o, _, hx ▸ h1, h2, h3⟩
theorem const_facts (T : Top p loose mean mg mb h) {x : Str} {i : Int} (e : valOf p x = some (.int i)) : ∃ y, mg x = some y ∧ ∀ h' μ, Rel h' μ (.int i) y := by
  obtain ⟨v, h1, h2⟩ := T.const x _ e
  refine ⟨v, h1, fun h' μ => ?_⟩
  cases h2 h' with
  | int i t => exact .int i t
noncomputable def isIntOf : V → Option PyData → Bool
  | .int i, some (.int j) => i == j
  | _, _ => false
theorem consts_facts (T : Top p loose mean mg mb h) : ∀ (l : List (Str × V)), (l.all fun q => isIntOf q.2 (valOf p q.1)) = true → ∀ (x : Str) (v : V), l.lookup x = some v → ∃ y, mg x = some y ∧ ∀ h' μ, Rel h' μ v y
  | [], _, _, _, e => by cases e
  | (k, u) :: l, ha, x, v, e => by
    simp only [List.all_cons, Bool.and_eq_true] at ha
    rw [List.lookup_cons] at e
    split at e
    · rename_i hk
      have hk : x = k := by simpa using hk
      injection e with e
      subst hk; subst e
      have h1 := ha.1
      unfold isIntOf at h1
      split at h1
      · rename_i i j e2
        have : i = j := by simpa using h1
        subst this
        exact const_facts T e2
      · cases h1
    · exact consts_facts T l ha.2 x v e
noncomputable def biOk (p : Program) (loose : List Str) : Bool := biTab.all fun q => !startupNames.contains q.1 && !loose.contains q.1 && !((recsOf p).map (·.name)).contains q.1 && !((litsOf p).map (·.1)).contains q.1 && !((clssOf p loose).map (·.name)).contains q.1 && q.1 != "__name__" && bootBuiltins q.1 == some q.2
theorem bi_facts (T : Top p loose mean mg mb h) (hb : biOk p loose = true) (x : Str) (v : Value) (e : biTab.lookup x = some v) : mg x = none ∧ mb x = some v := by
  have hm := mem_of_lookup e
  unfold biOk at hb
  rw [List.all_eq_true] at hb
  have := hb _ hm
  simp only [Bool.and_eq_true, Bool.not_eq_true', bne_iff_ne, beq_iff_eq] at this
  obtain ⟨⟨⟨⟨⟨⟨h1, h2⟩, h3⟩, h4⟩, h5⟩, h6⟩, h7⟩ := this
  have nc : ∀ {l : List Str} {x : Str}, l.contains x = false → x ∉ l := by
    intro l x h hm
    rw [List.contains_iff_mem.mpr hm] at h
    cases h
  exact ⟨T.free x (nc h1) (nc h2) (nc h3) (nc h4) (nc h5), by rw [T.builtins x h6]; exact h7⟩
/-- a dict of the module: its entries, as the interpreter has them -/
noncomputable def EsOk (w : World) : List DictEntry → List (Key × V) → List (Key × Value) → Prop
  | [], [], [] => True
  | e :: es, (k, v) :: l, (k', y) :: kvs => k = k' ∧ keyIs k e.key = true ∧ e.hash = keyHash w k ∧ e.val = y ∧ (∀ h μ, Rel h μ v y) ∧ EsOk w es l kvs
  | _, _, _ => False
theorem EsOk.spec : ∀ {es : List DictEntry} {l : List (Key × V)} {kvs : List (Key × Value)}, EsOk w es l kvs → Pairs (kn prog w) es kvs ∧ (∀ h μ, RelD h μ l kvs) ∧ ∀ e ∈ es, ∃ k : Key, keyIs k e.key = true ∧ e.hash = keyHash w k
  | [], [], [], _ => ⟨.nil, fun _ _ => .nil, fun _ q => nomatch q⟩
  | e :: es, (k, v) :: l, (k', y) :: kvs, h => by
    obtain ⟨rfl, h1, h2, h3, h4, h5⟩ := h
    obtain ⟨i1, i2, i3⟩ := EsOk.spec h5
    refine ⟨.cons h1 h3 i1, fun h μ => .cons (h4 h μ) (i2 h μ), fun e' q => ?_⟩
    rcases List.mem_cons.mp q with rfl | q
    · exact ⟨k, h1, h2⟩
    · exact i3 e' q
  | [], [], _ :: _, h => h.elim
  | [], _ :: _, _, h => h.elim
  | _ :: _, [], _, h => h.elim
  | _ :: _, _ :: _, [], h => h.elim
theorem gd_facts {K : Frag} (X : K.In h) (T : Top p loose mean mg mb h) {x : Str} {a : Addr} {es : Array DictEntry} {n : Nat} {l : List (Key × V)} {kvs : List (Key × Value)} (e1 : nsIn K mainGlobals x = some (some (.ref a)))
    (e2 : K.lookup a = some ⟨.type "dict", none, .dict es n, #[]⟩) (e3 : EsOk w es.toList l kvs) (hn : (kvs.map (·.1)).Nodup) : mg x = some (.ref a) ∧ h.DictOf (kn prog w) a kvs ∧ ∀ h' μ, RelD h' μ l kvs := by
  obtain ⟨i1, i2, i3⟩ := e3.spec (prog := prog)
  refine ⟨mg_of X T.g e1, ⟨_, es, n, X _ _ e2, ⟨rfl, rfl, rfl⟩, rfl, fun e he => ?_, i1, hn⟩, i2⟩
  obtain ⟨k, h1, h2⟩ := i3 e (Array.mem_toList_iff.mpr he)
  exact ⟨k, h1, h2⟩
noncomputable def chkOne (nm : NT) (D : Nat → Option Fn) (p : Program) (i : Nat) : Bool := caO nm.fns[i]? true fun x => caO (findDef p x) false fun d => caO (D i) true fun fn => chkDef nm fn d
noncomputable def chkAll (nm : NT) (D : Nat → Option Fn) (p : Program) : Nat → Bool
  | 0 => true
  | n + 1 => chkOne nm D p n && chkAll nm D p n
theorem chkAll_at {D : Nat → Option Fn} (n : Nat) (e : chkAll nm D p n = true) : ∀ i, i < n → chkOne nm D p i = true := by
  induction n with
  | zero => exact fun i h => absurd h (Nat.not_lt_zero _)
  | succ n ih =>
    intro i h
    refine and2k e fun e1 e2 => ?_
    rcases Nat.lt_or_ge i n with g | g
    · exact ih e2 i g
    · rw [Nat.le_antisymm (Nat.le_of_lt_succ h) g]; exact e1
theorem chkOne_def {D : Nat → Option Fn} (hc : chkAll nm D p nm.fns.length = true) {i : Nat} {x : Str} (h1 : nm.fns[i]? = some x) : ∃ d, findDef p x = some d ∧ ∀ fn, D i = some fn → chkDef nm fn d = true := by
  have h := chkAll_at _ hc i (lt_of_some h1)
  unfold chkOne at h
  rw [h1] at h
  replace h : caO (findDef p x) false (fun d => caO (D i) true fun fn => chkDef nm fn d) = true := h
  cases q : findDef p x with
  | none => rw [q] at h; exact no h
  | some d =>
    rw [q] at h
    exact ⟨d, rfl, fun fn hf => by rw [hf] at h; exact h⟩
theorem defs_all (T : Top p loose mean mg mb h) {D : Nat → Option Fn} (hc : chkAll nm D p nm.fns.length = true) : ∀ i x fn, nm.fns[i]? = some x → D i = some fn → DefFacts nm h mg x fn := by
  intro i x fn h1 h2
  obtain ⟨d, hd, hk⟩ := chkOne_def hc h1
  exact def_facts T hd (hk fn h2)
theorem fns_all (T : Top p loose mean mg mb h) {D : Nat → Option Fn} (hc : chkAll nm D p nm.fns.length = true) : ∀ (i : Nat) (x : Str), nm.fns[i]? = some x → ∃ a o fd, mg x = some (.ref a) ∧ h.get? a = some o ∧ o.data = .func fd := by
  intro i x h1
  obtain ⟨d, hd, _⟩ := chkOne_def hc h1
  exact fn_facts T (by rw [hd]; rfl)
end
end Mine
/-! H02 -/
section
open PySem PySem.W PyProof.Rows
set_option maxHeartbeats 8000000
namespace Mine
noncomputable def K2 : Params → Frag := fun P =>
  [(3,
      { cls := Value.type "dict",
        data :=
          Data.dict
            #[{ hash := PyData.keyHash P (Str.ofString "__name__"),
                key := Value.str (Str.ofString "__name__") 165,
                val := Value.str (Str.ofString "law_sz0112_02") 383 },
              { hash := PyData.keyHash P (Str.ofString "__doc__"),
                key := Value.str (Str.ofString "__doc__") 166, val := Value.none },
              { hash := PyData.keyHash P (Str.ofString "__package__"),
                key := Value.str (Str.ofString "__package__") 167, val := Value.none },
              { hash := PyData.keyHash P (Str.ofString "__loader__"),
                key := Value.str (Str.ofString "__loader__") 168,
                val := Value.builtin "__main__.__loader__#opaque" },
              { hash := PyData.keyHash P (Str.ofString "__spec__"),
                key := Value.str (Str.ofString "__spec__") 169, val := Value.none },
              { hash := PyData.keyHash P (Str.ofString "__annotations__"),
                key := Value.str (Str.ofString "__annotations__") 170, val := Value.ref 6 },
              { hash := PyData.keyHash P (Str.ofString "__builtins__"),
                key := Value.str (Str.ofString "__builtins__") 171, val := Value.ref 4 },
              { hash := PyData.keyHash P (Str.ofString "__file__"),
                key := Value.str (Str.ofString "__file__") 173,
                val := Value.str (Str.ofString "/claim/cut.py") 172 },
              { hash := PyData.keyHash P (Str.ofString "__cached__"),
                key := Value.str (Str.ofString "__cached__") 174, val := Value.none },
              { hash := PyData.keyHash P (Str.ofString "SET"),
                key := Value.str (Str.ofString "SET") 190, val := Value.int 1 189 },
              { hash := PyData.keyHash P (Str.ofString "SEQUENCE"),
                key := Value.str (Str.ofString "SEQUENCE") 192, val := Value.int 2 191 },
              { hash := PyData.keyHash P (Str.ofString "MOST_IN_SEGMENT"),
                key := Value.str (Str.ofString "MOST_IN_SEGMENT") 194, val := Value.int 255 193 },
              { hash := PyData.keyHash P (Str.ofString "path_length"),
                key := Value.str (Str.ofString "path_length") 204, val := Value.ref 21 },
              { hash := PyData.keyHash P (Str.ofString "neighbour_as"),
                key := Value.str (Str.ofString "neighbour_as") 213, val := Value.ref 28 },
              { hash := PyData.keyHash P (Str.ofString "path_has"),
                key := Value.str (Str.ofString "path_has") 223, val := Value.ref 35 },
              { hash := PyData.keyHash P (Str.ofString "put_ahead"),
                key := Value.str (Str.ofString "put_ahead") 233, val := Value.ref 42 },
              { hash := PyData.keyHash P (Str.ofString "prepended"),
                key := Value.str (Str.ofString "prepended") 243, val := Value.ref 49 },
              { hash := PyData.keyHash P (Str.ofString "WIRE_BITS"),
                key := Value.str (Str.ofString "WIRE_BITS") 247, val := Value.int 32 246 },
              { hash := PyData.keyHash P (Str.ofString "mask_of"),
                key := Value.str (Str.ofString "mask_of") 255, val := Value.ref 56 },
              { hash := PyData.keyHash P (Str.ofString "holds_address"),
                key := Value.str (Str.ofString "holds_address") 264, val := Value.ref 63 },
              { hash := PyData.keyHash P (Str.ofString "covers"),
                key := Value.str (Str.ofString "covers") 273, val := Value.ref 70 },
              { hash := PyData.keyHash P (Str.ofString "FIELDS"),
                key := Value.str (Str.ofString "FIELDS") 291, val := Value.ref 71 },
              { hash := PyData.keyHash P (Str.ofString "ON"),
                key := Value.str (Str.ofString "ON") 293, val := Value.int 0 292 },
              { hash := PyData.keyHash P (Str.ofString "ACCEPTED"),
                key := Value.str (Str.ofString "ACCEPTED") 295, val := Value.int 1 294 },
              { hash := PyData.keyHash P (Str.ofString "REJECTED"),
                key := Value.str (Str.ofString "REJECTED") 297, val := Value.int 2 296 },
              { hash := PyData.keyHash P (Str.ofString "NEXT"),
                key := Value.str (Str.ofString "NEXT") 299, val := Value.int 3 298 },
              { hash := PyData.keyHash P (Str.ofString "ENDS"),
                key := Value.str (Str.ofString "ENDS") 306, val := Value.ref 72 },
              { hash := PyData.keyHash P (Str.ofString "compares"),
                key := Value.str (Str.ofString "compares") 315, val := Value.ref 79 },
              { hash := PyData.keyHash P (Str.ofString "field_number"),
                key := Value.str (Str.ofString "field_number") 325, val := Value.ref 86 },
              { hash := PyData.keyHash P (Str.ofString "condition_holds"),
                key := Value.str (Str.ofString "condition_holds") 336, val := Value.ref 93 },
              { hash := PyData.keyHash P (Str.ofString "with_communities"),
                key := Value.str (Str.ofString "with_communities") 342, val := Value.ref 98 },
              { hash := PyData.keyHash P (Str.ofString "with_field"),
                key := Value.str (Str.ofString "with_field") 348, val := Value.ref 103 },
              { hash := PyData.keyHash P (Str.ofString "changed_route"),
                key := Value.str (Str.ofString "changed_route") 354, val := Value.ref 108 },
              { hash := PyData.keyHash P (Str.ofString "run_statements"),
                key := Value.str (Str.ofString "run_statements") 367, val := Value.ref 115 },
              { hash := PyData.keyHash P (Str.ofString "run_policy"),
                key := Value.str (Str.ofString "run_policy") 382, val := Value.ref 122 },
              { hash := PyData.keyHash P (Str.ofString "_law_draw"),
                key := Value.str (Str.ofString "_law_draw") 393, val := Value.ref 129 },
              { hash := PyData.keyHash P (Str.ofString "_law_plain_asked"),
                key := Value.str (Str.ofString "_law_plain_asked") 401, val := Value.ref 136 },
              { hash := PyData.keyHash P (Str.ofString "_law_asked"),
                key := Value.str (Str.ofString "_law_asked") 410, val := Value.ref 143 },
              { hash := PyData.keyHash P (Str.ofString "_law_statement"),
                key := Value.str (Str.ofString "_law_statement") 422, val := Value.ref 150 },
              { hash := PyData.keyHash P (Str.ofString "_law_policy"),
                key := Value.str (Str.ofString "_law_policy") 432, val := Value.ref 157 },
              { hash := PyData.keyHash P (Str.ofString "_law_route"),
                key := Value.str (Str.ofString "_law_route") 443, val := Value.ref 164 },
              { hash := PyData.keyHash P (Str.ofString "_law_settled"),
                key := Value.str (Str.ofString "_law_settled") 451, val := Value.ref 171 },
              { hash := PyData.keyHash P (Str.ofString "_law_tree"),
                key := Value.str (Str.ofString "_law_tree") 464, val := Value.ref 178 },
              { hash := PyData.keyHash P (Str.ofString "_law_whole"),
                key := Value.str (Str.ofString "_law_whole") 476, val := Value.ref 185 },
              { hash := PyData.keyHash P (Str.ofString "_law_holds"),
                key := Value.str (Str.ofString "_law_holds") 490, val := Value.ref 192 },
              { hash := PyData.keyHash P (Str.ofString "_law_turned"),
                key := Value.str (Str.ofString "_law_turned") 496, val := Value.ref 197 },
              { hash := PyData.keyHash P (Str.ofString "_law_own"),
                key := Value.str (Str.ofString "_law_own") 511, val := Value.ref 204 },
              { hash := PyData.keyHash P (Str.ofString "law"),
                key := Value.str (Str.ofString "law") 532, val := Value.ref 211 }]
            48 }),
    (71,
      { cls := Value.type "dict",
        data :=
          Data.dict
            #[{ hash := PyData.keyHash P (Str.ofString "local-pref"),
                key := Value.str (Str.ofString "local-pref") 276,
                val := Value.str (Str.ofString "local_pref") 277 },
              { hash := PyData.keyHash P (Str.ofString "med"),
                key := Value.str (Str.ofString "med") 278,
                val := Value.str (Str.ofString "med") 279 },
              { hash := PyData.keyHash P (Str.ofString "origin"),
                key := Value.str (Str.ofString "origin") 280,
                val := Value.str (Str.ofString "origin") 281 },
              { hash := PyData.keyHash P (Str.ofString "next-hop"),
                key := Value.str (Str.ofString "next-hop") 282,
                val := Value.str (Str.ofString "next_hop") 283 },
              { hash := PyData.keyHash P (Str.ofString "tag"),
                key := Value.str (Str.ofString "tag") 284,
                val := Value.str (Str.ofString "tag") 285 }]
            5 }),
    (72,
      { cls := Value.type "dict",
        data :=
          Data.dict
            #[{ hash := PyData.keyHash P (Str.ofString "accept"),
                key := Value.str (Str.ofString "accept") 300, val := Value.int 1 294 },
              { hash := PyData.keyHash P (Str.ofString "reject"),
                key := Value.str (Str.ofString "reject") 301, val := Value.int 2 296 },
              { hash := PyData.keyHash P (Str.ofString "next"),
                key := Value.str (Str.ofString "next") 302, val := Value.int 3 298 }]
            3 })]

open PySem.Challenge
noncomputable def V2 : Program := { pw_sz0112_02 with main := { pw_sz0112_02.main with body := (pw_sz0112_02.main.body.drop 1).take 8 ++ ((pw_sz0112_02.main.body.drop 10).take 4 ++ ((pw_sz0112_02.main.body.drop 15).take 14 ++ pw_sz0112_02.main.body.drop 30)) } }
noncomputable abbrev Hk2 := kHook K2 [3, 71, 72] (fun _ => by kernel_rfl)
theorem left2 : LeftO pw_sz0112_02 V2 ["FIELDS", "ENDS"] (fun s => xlAt V2 [] s && PySem.W.recOk (rw_sz0112_02.row.records) s) (Hook.obs Hk2) (Hook.val Hk2) 1980 true :=
  LeftO.of_split "special-get-raises" (fun w => by kernel_rfl)
noncomputable def nt02 : NT := ⟨consts0, ["FIELDS", "ENDS"], ["path_length", "neighbour_as", "path_has", "put_ahead", "prepended", "mask_of", "holds_address", "covers", "compares", "field_number", "condition_holds", "with_communities", "with_field", "changed_route", "run_statements", "run_policy", "_law_draw", "_law_plain_asked", "_law_asked", "_law_statement", "_law_policy", "_law_route", "_law_settled", "_law_tree", "_law_whole", "_law_holds", "_law_turned", "_law_own", "law"]⟩
theorem chk02 : chkAll nt02 tab02 V2 29 = true := by decide +kernel
theorem con02 : (consts0.all fun q => isIntOf q.2 (valOf V2 q.1)) = true := by decide +kernel
theorem bi02 : biOk V2 (looseW V2 ["FIELDS", "ENDS"]) = true := by decide +kernel

theorem fld02 (w : World) : EsOk w [⟨PyData.keyHash w.params "local-pref", .str "local-pref" 276, .str "local_pref" 277⟩, ⟨PyData.keyHash w.params "med", .str "med" 278, .str "med" 279⟩, ⟨PyData.keyHash w.params "origin", .str "origin" 280, .str "origin" 281⟩, ⟨PyData.keyHash w.params "next-hop", .str "next-hop" 282, .str "next_hop" 283⟩, ⟨PyData.keyHash w.params "tag", .str "tag" 284, .str "tag" 285⟩]
    [(.s 483552748545009705512812, .str 483552748599985286901612), (.s 6579565, .str 6579565), (.s 121398985585263, .str 121398985585263), (.s 8101808799099676014, .str 8101809013848040814), (.s 6775156, .str 6775156)]
    [(.s 483552748545009705512812, .str "local_pref" 277), (.s 6579565, .str "med" 279), (.s 121398985585263, .str "origin" 281), (.s 8101808799099676014, .str "next_hop" 283), (.s 6775156, .str "tag" 285)] := by
  have e1 : dec 483552748545009705512812 = ("local-pref" : Str) := by decide +kernel
  have e2 : dec 483552748599985286901612 = ("local_pref" : Str) := by decide +kernel
  have e3 : dec 6579565 = ("med" : Str) := by decide +kernel
  have e4 : dec 121398985585263 = ("origin" : Str) := by decide +kernel
  have e5 : dec 8101808799099676014 = ("next-hop" : Str) := by decide +kernel
  have e6 : dec 8101809013848040814 = ("next_hop" : Str) := by decide +kernel
  have e7 : dec 6775156 = ("tag" : Str) := by decide +kernel
  simp only [EsOk, keyIs, keyHash, e1, e3, e4, e5, e7, beq_self_eq_true, true_and, and_true]
  refine ⟨rfl, ?_, rfl, ?_, rfl, ?_, rfl, ?_, rfl, ?_⟩
  · exact fun h μ => e2 ▸ .str _ _
  · exact fun h μ => e3 ▸ .str _ _
  · exact fun h μ => e4 ▸ .str _ _
  · exact fun h μ => e6 ▸ .str _ _
  · exact fun h μ => e7 ▸ .str _ _
theorem end02 (w : World) : EsOk w [⟨PyData.keyHash w.params "accept", .str "accept" 300, .int 1 294⟩, ⟨PyData.keyHash w.params "reject", .str "reject" 301, .int 2 296⟩, ⟨PyData.keyHash w.params "next", .str "next" 302, .int 3 298⟩]
    [(.s 128026086171489, .int 1), (.s 127970252055922, .int 2), (.s 1954047342, .int 3)]
    [(.s 128026086171489, .int 1 294), (.s 127970252055922, .int 2 296), (.s 1954047342, .int 3 298)] := by
  have e1 : dec 128026086171489 = ("accept" : Str) := by decide +kernel
  have e2 : dec 127970252055922 = ("reject" : Str) := by decide +kernel
  have e3 : dec 1954047342 = ("next" : Str) := by decide +kernel
  simp only [EsOk, keyIs, keyHash, e1, e2, e3, beq_self_eq_true, true_and, and_true]
  exact ⟨rfl, fun h μ => .int _ _, rfl, fun h μ => .int _ _, rfl, fun h μ => .int _ _⟩
theorem gl02 {prog : Program} {w : World} {s₀ : Shared} {mg mb : Str → Option Value} {h : Heap} (KX : (K2 w.params).In h) (T : Top V2 (looseW V2 ["FIELDS", "ENDS"]) (ExcName.means s₀.heap) mg mb h) : Gl prog w h nt02 glo mg mb := by
  have f := gd_facts (prog := prog) KX T (x := "FIELDS") (a := 71) (n := 5) (by kernel_rfl) (by kernel_rfl) (fld02 w) (by decide)
  have e := gd_facts (prog := prog) KX T (x := "ENDS") (a := 72) (n := 3) (by kernel_rfl) (by kernel_rfl) (end02 w) (by decide)
  refine ⟨T.g, T.b, ?_, consts_facts T _ con02, ?_, fns_all (D := tab02) T chk02, bi_facts T bi02⟩
  · obtain ⟨o, es, ep, ho, _⟩ := T.g
    exact ⟨mainGlobals, o, by decide, ho⟩
  · intro i x hx
    match i, hx with
    | 0, hx =>
      have : x = "FIELDS" := by injection hx with hx; exact hx.symm
      subst this
      exact ⟨71, _, _, rfl, f.1, f.2.1, by decide, f.2.2⟩
    | 1, hx =>
      have : x = "ENDS" := by injection hx with hx; exact hx.symm
      subst this
      exact ⟨72, _, _, rfl, e.1, e.2.1, by decide, e.2.2⟩
    | i + 2, hx => cases hx
theorem main02 {w : World} {s₀ s₁ : Shared} {mg mb : Str → Option Value} {fa l : Addr} {vs : List Value} {ns : List Int} (KX : (K2 w.params).In s₁.heap) (T : Top V2 (looseW V2 ["FIELDS", "ENDS"]) (ExcName.means s₀.heap) mg mb s₁.heap)
    (hmg : mg "law" = some (.ref fa)) (hg : s₁.gens = #[]) (hL : s₁.heap.IsList l vs.toArray) (hI : IntsAre vs ns) (h63 : ¬ (63 : Int) < ns.length) (args : List WData) (hp : PySem.Challenge.rw_sz0112_02.row.claim.post args (.bool true) args = true) (hn : ∀ cls, PySem.Challenge.rw_sz0112_02.row.claim.raises args cls = false) :
    wpAny (model PySem.Challenge.rw_sz0112_02.row.prog w) callerA (call (.ref fa) [.ref l])
      (fun v s' => GoodW PySem.Challenge.rw_sz0112_02.row.claim (classAt s₀.heap) (ExcName.means s₀.heap) args s₁ (.ok (.ret v)) s')
      (fun e s' => GoodW PySem.Challenge.rw_sz0112_02.row.claim (classAt s₀.heap) (ExcName.means s₀.heap) args s₁ (.error e) s') s₁ := by
  obtain ⟨H', hrun⟩ := Pl.law_val ns
  refine wpAny_mono (law_call (N := 38) (room_caller (by omega)) (gl02 (s₀ := s₀) KX T) T.nolimit (defs_all T chk02) (i := 28) (x := "law") rfl hmg hL hI (by omega) hg hrun _) (fun y s' q => ?_) fun _ _ e => e
  obtain ⟨⟨μ', r⟩, hk, hos, hgens⟩ := q
  cases r
  exact ⟨.inl ⟨_, .bool true, [], rfl, hn, .bool true, hp, unshared_nil⟩, hk, hos, hgens⟩
theorem t02 : rw_sz0112_02.Holds := by
  w_on
  refine holds_law (by decide +kernel) fun said => ?_
  refine holds_open (q := V2) (loose := ["FIELDS", "ENDS"]) (Xt := fun s => xlAt V2 [] s && PySem.W.recOk rw_sz0112_02.row.records s) (XP := XL V2 []) (Yf := Hook.obs Hk2) (Ya := Hook.val Hk2) (YP := Hook.says Hk2) (N := 1980) left2 (Hook.of Hk2) (Hook.keeps Hk2)
    (fun s e => xl_of s (Bool.and_eq_true_iff.mp e).1) XL.keeps (by rfl) (by rfl) (by rfl) (fun s e => recFacts_of (Bool.and_eq_true_iff.mp e).2) (by rfl) (by first | assumption | decide +kernel) (by decide +kernel) ⟨rfl, rfl, rfl, rfl, rfl, by decide +kernel⟩ ?hw ?hc
  case hw => w_witness2
  case hc =>
    intro w s₀ s₁ mg mb G Y fa o pm cd doc dV kV ho hd hcd hD hmg hg args vals as hpre hlay hrd hwl hlo
    have KX : (K2 w.params).In s₁.heap := kIn_of Y
    refine Ground.open G ?_
    intro T B D TE TW
    wrow_args hpre hlay hrd hwl hlo
    rename_i hL _ _ _ hI _ h63 _
    refine wpAny_mono (main02 KX T hmg hg hL hI h63 _ ?_ ?_) (fun _ _ g => GoodW.toG g) (fun _ _ g => GoodW.toG g)
    · wrow_post
    · intro cls; rfl
end Mine
end
theorem PySem.Challenge.cw_sz0112_02_holds : PySem.Challenge.rw_sz0112_02.Holds :=
  Mine.t02
